import PyProof.Rows.All
import Wide.All
import OpenK.AllK
import Wide.FinOn
import PySem.Challenge.RW_pb0076_01
set_option Elab.async false
section
open PySem PySem.W PyProof.Rows
set_option maxRecDepth 100000
set_option maxHeartbeats 8000000
namespace Mine
open_top hd for PySem.Challenge.rw_pb0076_01
end Mine

end

section
open PySem PySem.W PyProof.Rows
set_option linter.unusedVariables false
namespace Mine

/-- abstract values -/
inductive V where
  | none
  | bool (b : Bool)
  | int (i : Int)
  | str (s : String)
  | tup (xs : List V)
  | ref (a : Nat)
  | rng (lo hi step : Int)
  | fn (name : String)
  | script (ns : List Int)
  deriving Inhabited

/-- abstract objects -/
inductive AObj where
  | list (xs : List V)
  | dict (f : Int → Option V) (n : Nat)
  | inst (cls : String) (d : Nat)
  | ns (f : String → Option V)
  deriving Inhabited

abbrev Store := List AObj

structure St where
  loc : String → Option V
  σ : Store

structure Ctx where
  prog : Program
  w : World
  B : Heap
  fnv : String → Option Value
  glb : String → Option V
  K : Frag

def Imm (o : Obj) : Prop := (o.cls = .type "tuple" ∧ ∃ xs n, o.data = .seq xs n) ∨ (o.cls = .type "range" ∧ ∃ vs, o.data = .fields vs)

section
variable (C : Ctx) (ρ : List Addr) (h : Heap)
mutual
inductive VR : V → Value → Prop
  | none : VR .none .none
  | bool (b : Bool) : VR (.bool b) (.bool b)
  | int (i : Int) (t : Tok) : VR (.int i) (.int i t)
  | str (x : String) (t : Tok) : VR (.str x) (.str (Str.ofString x) t)
  | tup {xs : List V} {a : Addr} {cs : List Value} : h.IsTuple a cs.toArray → VRs xs cs → VR (.tup xs) (.ref a)
  | ref {i : Nat} {a : Addr} : ρ[i]? = some a → VR (.ref i) (.ref a)
  | rng {r : Addr} {a b c : Int} {t u v : Tok} : IsRange h r a b c t u v → Builtin.Range.small a b c = true → VR (.rng a b c) (.ref r)
  | fn {x : String} {c : Value} : C.fnv x = some c → VR (.fn x) c
  | script {a : Addr} {vs : List Value} {ns : List Int} : C.B.IsList a vs.toArray → IntsAre vs ns → VR (.script ns) (.ref a)
inductive VRs : List V → List Value → Prop
  | nil : VRs [] []
  | cons {x : V} {c : Value} {xs : List V} {cs : List Value} : VR x c → VRs xs cs → VRs (x :: xs) (c :: cs)
end
end

section
variable {C : Ctx} {ρ ρ' : List Addr} {h h' : Heap}
mutual
theorem VR.mono (hρ : ∀ (i : Nat) (a : Addr), ρ[i]? = some a → ρ'[i]? = some a) (hk : ∀ b o, h.get? b = some o → Imm o → h'.get? b = some o) :
    ∀ {v c}, VR C ρ h v c → VR C ρ' h' v c
  | _, _, .none => .none
  | _, _, .bool b => .bool b
  | _, _, .int i t => .int i t
  | _, _, .str x t => .str x t
  | _, _, .tup ⟨o, ho, hc, r⟩ hv => .tup ⟨o, hk _ _ ho (.inl ⟨hc, _, r⟩), hc, r⟩ (VRs.mono hρ hk hv)
  | _, _, .ref e => .ref (hρ _ _ e)
  | _, _, .rng e f => .rng (hk _ _ e (.inr ⟨rfl, _, rfl⟩)) f
  | _, _, .fn e => .fn e
  | _, _, .script hl hi => .script hl hi
theorem VRs.mono (hρ : ∀ (i : Nat) (a : Addr), ρ[i]? = some a → ρ'[i]? = some a) (hk : ∀ b o, h.get? b = some o → Imm o → h'.get? b = some o) :
    ∀ {v c}, VRs C ρ h v c → VRs C ρ' h' v c
  | _, _, .nil => .nil
  | _, _, .cons a b => .cons (VR.mono hρ hk a) (VRs.mono hρ hk b)
end

theorem VRs.length : ∀ {xs cs}, VRs C ρ h xs cs → xs.length = cs.length
  | _, _, .nil => rfl
  | _, _, .cons _ t => by simp [VRs.length t]
theorem VRs.get : ∀ {xs cs} {i : Nat} {v : V}, VRs C ρ h xs cs → xs[i]? = some v → ∃ c, cs[i]? = some c ∧ VR C ρ h v c
  | _, _, i, v, .nil, e => by simp at e
  | _, _, 0, v, .cons a b, e => by simp at e; subst e; exact ⟨_, rfl, a⟩
  | _, _, i + 1, v, .cons a b, e => by simpa using VRs.get b (by simpa using e)
theorem VRs.get' : ∀ {xs cs} {i : Nat} {c : Value}, VRs C ρ h xs cs → cs[i]? = some c → ∃ v, xs[i]? = some v ∧ VR C ρ h v c
  | _, _, i, v, .nil, e => by simp at e
  | _, _, 0, v, .cons a b, e => by simp at e; subst e; exact ⟨_, rfl, a⟩
  | _, _, i + 1, v, .cons a b, e => by simpa using VRs.get' b (by simpa using e)
theorem VRs.append : ∀ {xs cs ys ds}, VRs C ρ h xs cs → VRs C ρ h ys ds → VRs C ρ h (xs ++ ys) (cs ++ ds)
  | _, _, _, _, .nil, b => b
  | _, _, _, _, .cons a t, b => .cons a (VRs.append t b)
theorem VRs.set : ∀ {xs cs} {i : Nat} {v : V} {c : Value}, VRs C ρ h xs cs → VR C ρ h v c → VRs C ρ h (xs.set i v) (cs.set i c)
  | _, _, _, _, _, .nil, _ => .nil
  | _, _, 0, _, _, .cons _ t, b => .cons b t
  | _, _, i + 1, _, _, .cons a t, b => .cons a (VRs.set t b)
theorem VRs.take : ∀ {xs cs} (i : Nat), VRs C ρ h xs cs → VRs C ρ h (xs.take i) (cs.take i)
  | _, _, 0, _ => by simp only [List.take_zero]; exact .nil
  | _, _, i + 1, .nil => by simp only [List.take_nil]; exact .nil
  | _, _, i + 1, .cons a t => by simp only [List.take_succ_cons]; exact .cons a (VRs.take i t)
theorem VRs.replicate {v : V} {c : Value} (hv : VR C ρ h v c) : ∀ n, VRs C ρ h (List.replicate n v) (List.replicate n c)
  | 0 => .nil
  | n + 1 => .cons hv (VRs.replicate hv n)
theorem VRs.ints : ∀ {ns : List Int} {cs}, VRs C ρ h (ns.map .int) cs → IntsAre cs ns
  | [], _, .nil => .nil
  | _ :: _, _, .cons (.int _ t) b => .cons _ t (VRs.ints b)
theorem VRs.of_ints : ∀ {ns : List Int} {cs}, IntsAre cs ns → VRs C ρ h (ns.map .int) cs
  | _, _, .nil => .nil
  | _, _, .cons _ t b => .cons (.int _ t) (VRs.of_ints b)
end

/-- the names of an own object's fields -/
def geoAttrs : List String := ["files", "ranks", "size", "full", "has_double", "has_castling", "file_masks", "rank_masks", "rays", "king", "knight", "pawn", "castles", "rights_lost"]

theorem plainAt {h h' : Heap} {a : Addr} {its : Array Value} (x : PlainL h a its) (e : ∀ o, h.get? a = some o → h'.get? a = some o) : PlainL h' a its := let ⟨o, n, q, r⟩ := x; ⟨o, n, e _ q, r⟩

/-- what the heap holds at an owned address -/
inductive OR (C : Ctx) (ρ : List Addr) (h : Heap) : AObj → Addr → Prop
  | list {xs : List V} {cs : List Value} {a : Addr} : PlainL h a cs.toArray → VRs C ρ h xs cs → OR C ρ h (.list xs) a
  | dict {f : Int → Option V} {n : Nat} {g : Int → Option Value} {a : Addr} : h.IntMap a g → h.DictLe a n →
      (∀ k v, f k = some v → ∃ c, g k = some c ∧ VR C ρ h v c) → OR C ρ h (.dict f n) a
  | inst {cls : String} {d : Nat} {a D K : Addr} : C.fnv cls = some (.ref K) → ρ[d]? = some D → h.get? a = some (instObj K D) → OR C ρ h (.inst cls d) a
  | ns {f : String → Option V} {m : Str → Option Value} {a : Addr} : h.Ns1 a m → Within m (geoAttrs.map Str.ofString) →
      (∀ x v, f x = some v → ∃ c, m (Str.ofString x) = some c ∧ VR C ρ h v c) → OR C ρ h (.ns f) a

theorem not_imm_dict {o : Obj} {es n} (hd : o.data = .dict es n) : ¬ Imm o := by
  rintro (⟨_, _, _, q⟩ | ⟨_, _, q⟩) <;> rw [hd] at q <;> cases q
theorem not_imm_cell {o : Obj} {v} (hd : o.data = .cell v) : ¬ Imm o := by
  rintro (⟨_, _, _, q⟩ | ⟨_, _, q⟩) <;> rw [hd] at q <;> cases q

theorem OR.there {C : Ctx} {ρ : List Addr} {h : Heap} {o : AObj} {a : Addr} (x : OR C ρ h o a) : ∃ ob, h.get? a = some ob ∧ ¬ Imm ob ∧ ∀ vs, ob.data ≠ .fields vs := by
  cases x with
  | list hl _ =>
    obtain ⟨ob, n, ho, hc, _, hd⟩ := hl
    refine ⟨ob, ho, ?_, fun vs q => by rw [hd] at q; cases q⟩
    rintro (⟨q, _⟩ | ⟨q, _⟩) <;> rw [hc] at q <;> exact absurd q (by decide)
  | dict hm _ _ => obtain ⟨ob, es, ep, ho, hc, hd, _⟩ := hm; exact ⟨ob, ho, not_imm_dict hd, fun vs q => by rw [hd] at q; cases q⟩
  | inst _ _ ho => exact ⟨_, ho, (by rintro (⟨q, _⟩ | ⟨q, _⟩) <;> cases q), fun vs q => by cases q⟩
  | ns hn _ _ => obtain ⟨ob, es, ep, ho, hd, _⟩ := hn; exact ⟨ob, ho, not_imm_dict hd, fun vs q => by rw [hd] at q; cases q⟩

theorem OR.mono {C : Ctx} {ρ ρ' : List Addr} {h h' : Heap} {o : AObj} {a : Addr} (hρ : ∀ (i : Nat) (a : Addr), ρ[i]? = some a → ρ'[i]? = some a)
    (hk : ∀ b o, h.get? b = some o → Imm o → h'.get? b = some o) (ha : ∀ o, h.get? a = some o → h'.get? a = some o) (x : OR C ρ h o a) : OR C ρ' h' o a := by
  cases x with
  | list hl hv => exact .list (let ⟨o, n, e, r⟩ := hl; ⟨o, n, ha _ e, r⟩) (hv.mono hρ hk)
  | dict hm hz hf =>
    obtain ⟨ob, es, ep, ho, r⟩ := hm
    exact .dict ⟨ob, es, ep, ha _ ho, r⟩ (hz.of_same ho (ha _ ho)) fun k v e => let ⟨c, e1, e2⟩ := hf k v e; ⟨c, e1, e2.mono hρ hk⟩
  | inst hc hd ho => exact .inst hc (hρ _ _ hd) (ha _ ho)
  | ns hn hw hf =>
    obtain ⟨ob, es, ep, ho, r⟩ := hn
    exact .ns ⟨ob, es, ep, ha _ ho, r⟩ hw fun k v e => let ⟨c, e1, e2⟩ := hf k v e; ⟨c, e1, e2.mono hρ hk⟩

/-- the store lies in the heap -/
structure SR (C : Ctx) (σ : Store) (ρ : List Addr) (h : Heap) : Prop where
  len : ρ.length = σ.length
  obj : ∀ (i : Nat) (o : AObj) (a : Addr), σ[i]? = some o → ρ[i]? = some a → OR C ρ h o a
  inj : ∀ (i j : Nat) (a : Addr), ρ[i]? = some a → ρ[j]? = some a → i = j
  new : ∀ a, a ∈ ρ → C.B.get? a = none
  base : C.B.StaysIn h

theorem SR.addr {C : Ctx} {σ : Store} {ρ : List Addr} {h : Heap} (x : SR C σ ρ h) {i : Nat} {o : AObj} (e : σ[i]? = some o) : ∃ a, ρ[i]? = some a ∧ OR C ρ h o a := by
  have hi : i < ρ.length := by rw [x.len]; exact (List.getElem?_eq_some_iff.mp e).1
  exact ⟨ρ[i], List.getElem?_eq_getElem hi, x.obj i o _ e (List.getElem?_eq_getElem hi)⟩
theorem SR.owned {C : Ctx} {σ : Store} {ρ : List Addr} {h : Heap} (x : SR C σ ρ h) {a : Addr} (ha : a ∈ ρ) : ∃ i : Nat, ∃ o, σ[i]? = some o ∧ ρ[i]? = some a ∧ OR C ρ h o a := by
  obtain ⟨i, hi, rfl⟩ := List.mem_iff_getElem.mp ha
  have hi' : i < σ.length := by rw [← x.len]; exact hi
  exact ⟨i, σ[i], List.getElem?_eq_getElem hi', List.getElem?_eq_getElem hi, x.obj i _ _ (List.getElem?_eq_getElem hi') (List.getElem?_eq_getElem hi)⟩
theorem SR.not_imm {C : Ctx} {σ : Store} {ρ : List Addr} {h : Heap} (x : SR C σ ρ h) {b : Addr} {o : Obj} (ho : h.get? b = some o) (hi : Imm o) : b ∉ ρ := fun hb => by
  obtain ⟨i, o', _, _, r⟩ := x.owned hb
  obtain ⟨ob, h1, h2, _⟩ := r.there
  rw [ho] at h1; cases h1; exact h2 hi
theorem SR.lt {C : Ctx} {σ : Store} {ρ : List Addr} {h : Heap} (x : SR C σ ρ h) {a : Addr} (ha : a ∈ ρ) : a < h.objs.size := by
  obtain ⟨_, _, _, _, r⟩ := x.owned ha
  obtain ⟨_, h1, _⟩ := r.there
  exact Heap.lt_size h1

/-- an object kept; a frame may change its slots -/
def Kept (C : Ctx) (b : Addr) (o : Obj) (h' : Heap) : Prop :=
  h'.get? b = some o ∨ (C.B.get? b = none ∧ (∃ es ep, o.data = .dict es ep) ∧ ∃ sl, h'.get? b = some { o with slots := sl })

section
variable {C : Ctx} {b : Addr} {o : Obj} {h₁ h₂ : Heap}
theorem Kept.there (x : Kept C b o h₁) : ∃ sl, h₁.get? b = some { o with slots := sl } := by
  rcases x with e | ⟨_, _, sl, e⟩
  · exact ⟨o.slots, e⟩
  · exact ⟨sl, e⟩
theorem Kept.not_none (x : Kept C b o h₁) (e : h₁.get? b = none) : False := by
  obtain ⟨sl, e'⟩ := x.there
  rw [e] at e'; cases e'
theorem Kept.same (x : Kept C b o h₁) (hd : ¬ ∃ es ep, o.data = .dict es ep) : h₁.get? b = some o := by
  rcases x with e | ⟨_, q, _⟩
  · exact e
  · exact absurd q hd
theorem Kept.imm (x : Kept C b o h₁) (hi : Imm o) : h₁.get? b = some o := x.same fun ⟨es, ep, q⟩ => not_imm_dict q hi
theorem Kept.cell (x : Kept C b o h₁) {v} (hi : o.data = .cell v) : h₁.get? b = some o := x.same fun ⟨es, ep, q⟩ => by rw [hi] at q; cases q
theorem Kept.trans (x : Kept C b o h₁) (y : ∀ o₁, h₁.get? b = some o₁ → Kept C b o₁ h₂) : Kept C b o h₂ := by
  rcases x with e | ⟨q1, q2, sl, e⟩
  · exact y _ e
  · rcases y _ e with e' | ⟨_, _, sl', e'⟩
    · exact .inr ⟨q1, q2, sl, e'⟩
    · exact .inr ⟨q1, q2, sl', e'⟩
theorem Kept.now (e : h₁.get? b = some o) : Kept C b o h₁ := .inl e
end
theorem ns_kept {C : Ctx} {h h' : Heap} {a : Addr} {f : Str → Option Value} (x : h.Ns a f) (k : ∀ o, h.get? a = some o → Kept C a o h') : h'.Ns a f := by
  obtain ⟨o, es, ep, e, hd, r⟩ := x
  obtain ⟨sl, e'⟩ := (k o e).there
  exact ⟨_, es, ep, e', hd, r⟩

/-- from one state to a later one: what lies outside the owned and ex stays -/
structure Post (C : Ctx) (ex : Addr → Prop) (ρ ρ' : List Addr) (s s' : Shared) : Prop where
  gens : s'.gens = s.gens
  os : s'.os = s.os
  pre : ∀ (i : Nat) (a : Addr), ρ[i]? = some a → ρ'[i]? = some a
  fresh : ∀ a, a ∈ ρ' → a ∉ ρ → s.heap.get? a = none ∧ ¬ ex a
  keep : ∀ b o, s.heap.get? b = some o → b ∉ ρ → ¬ ex b → Kept C b o s'.heap

theorem Post.refl {C : Ctx} {ex ρ s} : Post C ex ρ ρ s s := ⟨rfl, rfl, fun _ _ e => e, fun _ h h' => absurd h h', fun _ _ e _ _ => .inl e⟩
theorem Post.tok {C : Ctx} {ex ρ s} {t : Nat} : Post C ex ρ ρ s { s with toks := t } := ⟨rfl, rfl, fun _ _ e => e, fun _ h h' => absurd h h', fun _ _ e _ _ => .inl e⟩
theorem Post.trans {C : Ctx} {ex : Addr → Prop} {ρ ρ₁ ρ₂ : List Addr} {s s₁ s₂ : Shared} (x : Post C ex ρ ρ₁ s s₁) (y : Post C ex ρ₁ ρ₂ s₁ s₂) : Post C ex ρ ρ₂ s s₂ where
  gens := y.gens.trans x.gens
  os := y.os.trans x.os
  pre := fun i a e => y.pre i a (x.pre i a e)
  fresh := fun a h h' => by
    by_cases h1 : a ∈ ρ₁
    · exact x.fresh a h1 h'
    · obtain ⟨f1, f2⟩ := y.fresh a h h1
      refine ⟨?_, f2⟩
      cases q : s.heap.get? a with
      | none => rfl
      | some o => exact ((x.keep a o q h' f2).not_none f1).elim
  keep := fun b o e h h' => (x.keep b o e h h').trans fun o₁ e₁ => y.keep b o₁ e₁ (fun h1 => by
    have := (x.fresh b h1 h).1; rw [e] at this; cases this) h'

/-- outer frames -/
def FrOk (C : Ctx) (ρ : List Addr) (h : Heap) (fr : List Env) : Prop :=
  ∀ e ∈ fr, e.scope.kind ≠ .module ∧ ∃ L o, e.frame = some L ∧ C.B.get? L = none ∧ h.get? L = some o ∧ (∃ es ep, o.data = .dict es ep) ∧ L ∉ ρ

theorem FrOk.fun {C : Ctx} {ρ : List Addr} {h : Heap} : ∀ {fr : List Env}, FrOk C ρ h fr → h.FunFrames C.B fr
  | [], _ => trivial
  | e :: r, x => by
    obtain ⟨hk, L, o, a1, a2, a3, a4, _⟩ := x e (.head _)
    exact ⟨hk, ⟨L, o, a1, a2, a3, fun vs q => by obtain ⟨es, ep, h⟩ := a4; rw [h] at q; cases q⟩, FrOk.fun fun e' he => x e' (.tail _ he)⟩

theorem FrOk.post {C : Ctx} {ex : Addr → Prop} {ρ ρ' : List Addr} {s s' : Shared} {fr : List Env} (x : FrOk C ρ s.heap fr) (y : Post C ex ρ ρ' s s')
    (hex : ∀ b o, ex b → s.heap.get? b = some o → (∃ es ep, o.data = .dict es ep) → ∃ o', s'.heap.get? b = some o' ∧ ∃ es ep, o'.data = .dict es ep) : FrOk C ρ' s'.heap fr := fun e he => by
  obtain ⟨hk, L, o, a1, a2, a3, a4, a5⟩ := x e he
  have a6 : L ∉ ρ' := fun h => by have := (y.fresh L h a5).1; rw [a3] at this; cases this
  by_cases hL : ex L
  · obtain ⟨o', b1, b2⟩ := hex L o hL a3 a4
    exact ⟨hk, L, o', a1, a2, b1, b2, a6⟩
  · obtain ⟨sl, e'⟩ := (y.keep L o a3 a5 hL).there
    exact ⟨hk, L, _, a1, a2, e', a4, a6⟩

def exOf (env : Env) (b : Addr) : Prop := b = env.locals ∨ ∃ n, (n, b) ∈ env.cells

/-- the frame at hand and the store -/
structure Rel (C : Ctx) (env : Env) (st : St) (ρ : List Addr) (h : Heap) : Prop where
  sr : SR C st.σ ρ h
  ns : ∃ m, h.Ns env.locals m ∧ ∀ x v, st.loc x = some v → env.kindOf (Str.ofString x) = some .local → ∃ c, m (Str.ofString x) = some c ∧ VR C ρ h v c
  cell : ∀ n a, (n, a) ∈ env.cells → ∃ ov, h.IsCell a ov
  cellv : ∀ x v, st.loc x = some v → env.kindOf (Str.ofString x) = some .cell →
    ∃ a c, env.cells.lookup (Str.ofString x) = some a ∧ h.IsCell a (some c) ∧ VR C ρ h v c
  locNew : C.B.get? env.locals = none ∧ env.locals ∉ ρ
  cellNew : ∀ n a, (n, a) ∈ env.cells → C.B.get? a = none ∧ a ∉ ρ ∧ a ≠ env.locals
  apart : ∀ n n' a, (n, a) ∈ env.cells → (n', a) ∈ env.cells → n = n'

theorem Rel.ex_not_imm {C : Ctx} {env : Env} {st : St} {ρ : List Addr} {h : Heap} (R : Rel C env st ρ h) {b : Addr} {o : Obj} (ho : h.get? b = some o) (hi : Imm o) : ¬ exOf env b := by
  rintro (rfl | ⟨n, hn⟩)
  · obtain ⟨m, ⟨ob, es, ep, e1, e2, _⟩, _⟩ := R.ns
    rw [ho] at e1; cases e1; exact not_imm_dict e2 hi
  · obtain ⟨ov, ob, e1, e2⟩ := R.cell n b hn
    rw [ho] at e1; cases e1; exact not_imm_cell e2 hi
theorem Rel.ex_there {C : Ctx} {env : Env} {st : St} {ρ : List Addr} {h : Heap} (R : Rel C env st ρ h) (b : Addr) (hb : exOf env b) : ∃ o, h.get? b = some o ∧ ∀ vs, o.data ≠ .fields vs := by
  rcases hb with rfl | ⟨n, hn⟩
  · obtain ⟨m, ⟨ob, es, ep, e1, e2, _⟩, _⟩ := R.ns
    exact ⟨ob, e1, fun vs q => by rw [e2] at q; cases q⟩
  · obtain ⟨ov, ob, e1, e2⟩ := R.cell n b hn
    exact ⟨ob, e1, fun vs q => by rw [e2] at q; cases q⟩
theorem Rel.fr_there {C : Ctx} {env : Env} {st st' : St} {ρ ρ' : List Addr} {h h' : Heap} (R : Rel C env st ρ h) (R' : Rel C env st' ρ' h') (b : Addr) (o : Obj) (hb : exOf env b) (ho : h.get? b = some o) (hd : ∃ es ep, o.data = .dict es ep) :
    ∃ o', h'.get? b = some o' ∧ ∃ es ep, o'.data = .dict es ep := by
  rcases hb with rfl | ⟨n, hn⟩
  · obtain ⟨m, ⟨ob, es, ep, e1, e2, _⟩, _⟩ := R'.ns
    exact ⟨ob, e1, es, ep, e2⟩
  · obtain ⟨ov, ob, e1, e2⟩ := R.cell n b hn
    obtain ⟨es, ep, q⟩ := hd
    rw [ho] at e1; cases e1; rw [q] at e2; cases e2
theorem Rel.imm {C : Ctx} {env : Env} {st : St} {ρ ρ' : List Addr} {s s' : Shared} (R : Rel C env st ρ s.heap) (y : Post C (exOf env) ρ ρ' s s') :
    ∀ b o, s.heap.get? b = some o → Imm o → s'.heap.get? b = some o := fun b o ho hi => (y.keep b o ho (R.sr.not_imm ho hi) (R.ex_not_imm ho hi)).imm hi
theorem VR.post {C : Ctx} {env : Env} {st : St} {ρ ρ' : List Addr} {s s' : Shared} {v : V} {c : Value} (hv : VR C ρ s.heap v c) (R : Rel C env st ρ s.heap) (y : Post C (exOf env) ρ ρ' s s') : VR C ρ' s'.heap v c :=
  hv.mono y.pre (R.imm y)
theorem VRs.post {C : Ctx} {env : Env} {st : St} {ρ ρ' : List Addr} {s s' : Shared} {v : List V} {c : List Value} (hv : VRs C ρ s.heap v c) (R : Rel C env st ρ s.heap) (y : Post C (exOf env) ρ ρ' s s') : VRs C ρ' s'.heap v c :=
  hv.mono y.pre (R.imm y)

/-- a change that keeps all that is owned and the frame: a new object, a token -/
theorem Rel.grow {C : Ctx} {env : Env} {st : St} {ρ : List Addr} {h h' : Heap} (R : Rel C env st ρ h) (hk : ∀ b o, h.get? b = some o → h'.get? b = some o) : Rel C env st ρ h' where
  sr := ⟨R.sr.len, fun i o a e1 e2 => (R.sr.obj i o a e1 e2).mono (fun _ _ e => e) (fun b o e _ => hk b o e) (hk a), R.sr.inj, R.sr.new, fun b o e => hk b o (R.sr.base b o e)⟩
  ns := let ⟨m, h1, h2⟩ := R.ns; ⟨m, h1.keeps hk, fun x v e1 e2 => let ⟨c, e3, e4⟩ := h2 x v e1 e2; ⟨c, e3, e4.mono (fun _ _ e => e) fun b o e _ => hk b o e⟩⟩
  cell := fun n a hm => let ⟨ov, x⟩ := R.cell n a hm; ⟨ov, x.keeps hk⟩
  cellv := fun x v e1 e2 => let ⟨a, c, e3, e4, e5⟩ := R.cellv x v e1 e2; ⟨a, c, e3, e4.keeps hk, e5.mono (fun _ _ e => e) fun b o e _ => hk b o e⟩
  locNew := R.locNew
  cellNew := R.cellNew
  apart := R.apart
theorem Post.grow {C : Ctx} {ex ρ} {s s' : Shared} (hk : ∀ b o, s.heap.get? b = some o → s'.heap.get? b = some o) (hg : s'.gens = s.gens) (ho : s'.os = s.os) : Post C ex ρ ρ s s' :=
  ⟨hg, ho, fun _ _ e => e, fun _ h h' => absurd h h', fun b o e _ _ => .inl (hk b o e)⟩

end Mine

end

section
open PySem PySem.W PyProof.Rows
set_option linter.unusedVariables false
namespace Mine

/-- the inner form of expressions and statements -/
inductive E where
  | cint (i : Int) | cbool (b : Bool) | cnone | cstr (s : String)
  | loc (x : String) | glob (x : String)
  | bin (op : Operator) (a b : E)
  | neg (a : E) | inv (a : E) | not (a : E)
  | cmp (op : CmpOp) (a b : E)
  | all (es : List E) | any (es : List E)
  | ite (t b o : E)
  | call (f : E) (args : List E)
  | bcall (f : String) (args : List E)
  | attr (x : String) (n : String)
  | sub (a i : E)
  | upto (a : E) (k : Int)
  | tup (es : List E) | lst (es : List E)
  | dct (k v : E)
  | comp (elt : E) (x : String) (src : E) (conds : List E)

inductive T where
  | name (x : String)
  | tup (xs : List String)
  | sub (a i : E)
  | attr (x : String) (n : String)

inductive S where
  | assign (t : T) (e : E)
  | aug (x : String) (op : Operator) (e : E)
  | augsub (a i : E) (op : Operator) (e : E)
  | expr (e : E)
  | append (a : E) (e : E)
  | ite (t : E) (b o : List S)
  | for (t : T) (src : E) (body : List S)
  | while (t : E) (body : List S)
  | ret (e : E)
  | pass | cont
  | raise (c : String) (m : String)
  | try (f : E) (args : List E) (c : String)

def bnames : List String := ["len", "abs", "max", "min", "sum", "sorted", "list", "range"]

/-- the translation -/
abbrev Kinds := Str → Option NameKind

def nameOk (x : Str) : Bool := Str.ofString x.toString == x && x != ("__debug__" : Str)
def trName (k : Kinds) (x : Str) : Option E :=
  if nameOk x then match k x with
    | some .globalImplicit => some (.glob x.toString)
    | some .local | some .cell | some .free => some (.loc x.toString)
    | _ => none
  else none
def trLoc (k : Kinds) (x : Str) : Option String :=
  if nameOk x then match k x with
    | some .local | some .cell => some x.toString
    | _ => none
  else none
def isLoc (k : Kinds) (x : Str) : Bool := match k x with
  | some .local | some .cell | some .free => true
  | _ => false

def trList (f : Expr → Option E) : List Expr → Option (List E)
  | [] => some []
  | e :: r => match f e, trList f r with
    | some a, some b => some (a :: b)
    | _, _ => none

def isSl : Expr → Bool
  | .Slice .. => true
  | _ => false
def isStar : Expr → Bool
  | .Starred .. => true
  | _ => false
def isSetE : Expr → Bool
  | .Set .. => true
  | _ => false

def trE : Nat → Kinds → Expr → Option E
  | 0, _, _ => none
  | n + 1, k, e => match e with
    | .Constant c _ _ => (match c with
      | .int i => some (.cint i)
      | .bool b => some (.cbool b)
      | .none => some .cnone
      | .str s => if Str.ofString s.toString == s then some (.cstr s.toString) else none
      | _ => none)
    | .Name x _ => trName k x
    | .BinOp l op r _ => (match trE n k l, trE n k r with
      | some a, some b => some (.bin op a b)
      | _, _ => none)
    | .UnaryOp op x _ => (match trE n k x with
      | some a => (match op with
        | .USub => some (.neg a)
        | .Not => some (.not a)
        | .Invert => some (.inv a)
        | _ => none)
      | none => none)
    | .Compare l ops rs _ => (match ops, rs with
      | [op], [r] => if isSetE r then none else (match trE n k l, trE n k r with
        | some a, some b => some (.cmp op a b)
        | _, _ => none)
      | _, _ => none)
    | .BoolOp op vs _ => if vs.isEmpty then none else (match trList (trE n k) vs with
      | some es => (match op with
        | .And => some (.all es)
        | .Or => some (.any es))
      | none => none)
    | .IfExp t b o _ => (match trE n k t, trE n k b, trE n k o with
      | some t, some b, some o => some (.ite t b o)
      | _, _, _ => none)
    | .Call f args kws _ => if !kws.isEmpty || args.any isStar || args.isEmpty then none else (match f with
      | .Name x _ => (match trName k x, trList (trE n k) args with
        | some (.glob g), some es => if bnames.contains g then some (.bcall g es) else some (.call (.glob g) es)
        | some (.loc g), some es => some (.call (.loc g) es)
        | _, _ => none)
      | _ => none)
    | .Attribute o a _ => (match o with
      | .Name x _ => if nameOk x && isLoc k x && Str.ofString a.toString == a then some (.attr x.toString a.toString) else none
      | _ => none)
    | .Subscript v i _ => (match i with
      | .Slice lo up st _ => (match lo, up, st with
        | none, some (.Constant (.int u) _ _), none => (match trE n k v with
          | some a => some (.upto a u)
          | none => none)
        | _, _, _ => none)
      | i => (match trE n k v, trE n k i with
        | some a, some b => some (.sub a b)
        | _, _ => none))
    | .Tuple es _ _ => if es.any isStar || decide (1000 < es.length) then none else (match trList (trE n k) es with
      | some xs => some (.tup xs)
      | none => none)
    | .List es _ => if es.any isStar || decide (1000 < es.length) then none else (match trList (trE n k) es with
      | some xs => some (.lst xs)
      | none => none)
    | .Dict ks vs _ => (match ks, vs with
      | [some (.Name x _)], [.Name y _] => (match trName k x, trName k y with
        | some (.glob a), some (.glob b) => some (.dct (.glob a) (.glob b))
        | _, _ => none)
      | _, _ => none)
    | .ListComp elt gens sc _ => (match gens with
      | [⟨.Name x _, iter, ifs, 0⟩] =>
        if compOk k sc x && sc.names.lookup x == some .local && nameOk x && !isSetE iter then
          (match trE n (fun y => sc.names.lookup y) elt, trE n k iter, trList (trE n fun y => sc.names.lookup y) ifs with
          | some a, some b, some cs => if cs.length ≤ 1 then some (.comp a x.toString b cs) else none
          | _, _, _ => none)
        else none
      | _ => none)
    | _ => none
where
  /-- the block's own names: the target alone (and .0) are local; what is free is a cell outside -/
  compOk (k : Kinds) (sc : Scope) (x : Str) : Bool :=
    sc.kind == .function && sc.names.all (fun p => p.2 != .cell) &&
    sc.names.all (fun p => p.2 != .local || ((p.1 == x || p.1 == (".0" : Str)) && sc.names.lookup p.1 == some .local)) &&
    sc.names.all (fun p => p.2 != .free || (k p.1 == some .cell && sc.names.lookup p.1 == some .free && p.1 != (".0" : Str))) &&
    !sc.isGenerator && !sc.isCoroutine

def noDup : List String → Bool
  | [] => true
  | x :: r => !r.contains x && noDup r

def trT (n : Nat) (k : Kinds) : Expr → Option T
  | .Name x _ => (trLoc k x).map .name
  | .Tuple es _ _ => (match names es with
    | some xs => if noDup xs then some (.tup xs) else none
    | none => none)
  | .Subscript v i _ => if isSl i then none else (match trE n k v, trE n k i with
    | some a, some b => some (.sub a b)
    | _, _ => none)
  | .Attribute o a _ => (match o with
    | .Name x _ => if nameOk x && isLoc k x && Str.ofString a.toString == a then some (.attr x.toString a.toString) else none
    | _ => none)
  | _ => none
where
  names : List Expr → Option (List String)
    | [] => some []
    | .Name x _ :: r => (match trLoc k x, names r with
      | some a, some b => some (a :: b)
      | _, _ => none)
    | _ => none

def isListComp : Expr → Bool
  | .ListComp .. => true
  | .SetComp .. => true
  | .DictComp .. => true
  | _ => false

def notSuper : Expr → Bool
  | .Call (.Name _ _) [] [] _ => false
  | _ => true

def isNameE : Expr → Bool
  | .Name .. => true
  | _ => false
def isTupE : Expr → Bool
  | .Tuple .. => true
  | _ => false

/-- a display of constants alone -/
def constTup : Expr → Bool
  | .Tuple vs _ _ => vs.all (constantsAlone 8)
  | _ => false

mutual
def trS : Nat → Kinds → Stmt → Option S
  | 0, _, _ => none
  | n + 1, k, s => match s with
    | .Assign ts v _ => (match ts with
      | [t] => if (isTupE t && constTup v) || (isListComp v && !isNameE t) then none else (match trT n k t, trE n k v with
        | some a, some b => some (.assign a b)
        | _, _ => none)
      | _ => none)
    | .AugAssign t op v _ => (match t with
      | .Name x _ => (match trLoc k x, trE n k v with
        | some a, some b => some (.aug a op b)
        | _, _ => none)
      | .Subscript a i _ => if isSl i then none else (match trE n k a, trE n k i, trE n k v with
        | some a, some i, some b => some (.augsub a i op b)
        | _, _, _ => none)
      | _ => none)
    | .Expr e _ => (match e with
      | .Call (.Attribute o m apos) args kws cpos => if m == ("append" : Str) && kws.isEmpty && !args.any isStar && notSuper o && apos.endLine == cpos.line then (match args with
        | [x] => (match trE n k o, trE n k x with
          | some a, some b => some (.append a b)
          | _, _ => none)
        | _ => none) else none
      | e => if isListComp e then none else (trE n k e).map .expr)
    | .If t b o _ => (match trE n k t, trSs n k b, trSs n k o with
      | some t, some b, some o => some (.ite t b o)
      | _, _, _ => none)
    | .For t it b o _ => if isSetE it || !o.isEmpty then none else (match trT n k t, trE n k it, trSs n k b with
      | some t, some e, some b => some (.for t e b)
      | _, _, _ => none)
    | .While t b o _ => if !o.isEmpty then none else (match trE n k t, trSs n k b with
      | some t, some b => some (.while t b)
      | _, _ => none)
    | .Return v _ => (match v with
      | some e => (trE n k e).map .ret
      | none => none)
    | .Pass _ => some .pass
    | .Continue _ => some .cont
    | .Raise e c _ => (match e, c with
      | some (.Call (.Name x _) [.Constant (.str m) _ _] [] _), none =>
        if nameOk x && k x == some .globalImplicit && Str.ofString m.toString == m then some (.raise x.toString m.toString) else none
      | _, _ => none)
    | .Try b hs o f _ => (match b, hs, o, f with
      | [.Expr (.Call (.Name x _) args [] _) _, .Return (some (.Constant (.bool false) _ _)) _], [.ExceptHandler (some (.Name c _)) none [.Pass _] _], [], [] =>
        if args.any isStar || args.isEmpty || !(nameOk c && k c == some .globalImplicit) then none else (match trName k x, trList (trE n k) args with
          | some (.loc g), some es => some (.try (.loc g) es c.toString)
          | _, _ => none)
      | _, _, _, _ => none)
    | _ => none
def trSs : Nat → Kinds → List Stmt → Option (List S)
  | 0, _, _ => none
  | n + 1, k, l => match l with
    | [] => some []
    | s :: r => (match trS n k s, trSs n k r with
      | some a, some b => some (a :: b)
      | _, _ => none)
end

end Mine

end

section
open PySem PySem.W PyProof.Rows
set_option linter.unusedVariables false
namespace Mine

structure Room (A : Around) (n : Nat) : Prop where
  handled : A.handled = none
  depth : A.depth + n + 60 < recursionLimit
  units : A.units + 4 * n + 200 < cLine

/-- no frame at hand -/
def noEx : Addr → Prop := fun _ => False

def frAt (fr : List Env) : List Addr := fr.filterMap (·.frame)

/-- an exception of the class BadTable is at hand; the store that is left fits X -/
def ExcG (W : Heap → List Env → Addr → Value → Value → Heap → Prop) (C : Ctx) (fr : List Env) (X : Store → Prop) (ex : Addr → Prop) (ρ : List Addr) (s : Shared) (e : Value) (s' : Shared) : Prop :=
  ∃ σ' ρ' ea a0 Bx K, X σ' ∧ e = .ref ea ∧ C.fnv "BadTable" = some (.ref K) ∧ W Bx fr ea (.ref K) a0 s'.heap ∧ SR C σ' ρ' Bx ∧
    s'.gens = s.gens ∧ s'.os = s.os ∧ (∀ (i : Nat) (a : Addr), ρ[i]? = some a → ρ'[i]? = some a) ∧ (∀ a, a ∈ ρ' → a ∉ ρ → s.heap.get? a = none ∧ ¬ ex a) ∧
    (∀ b o, s.heap.get? b = some o → b ∉ ρ → ¬ ex b → b ∉ frAt fr → Kept C b o Bx) ∧
    (∀ L o, L ∈ frAt fr → ¬ ex L → s.heap.get? L = some o → ∃ sl, s'.heap.get? L = some { o with slots := sl })

/-- it flies -/
abbrev ExcP := ExcG Heap.FlyingW
/-- it is made, and nobody has noted it yet -/
def MadeW (base : Heap) (l : List Env) (e : Addr) (cls a0 : Value) (h : Heap) : Prop :=
  base.StaysIn h ∧ base.get? e = none ∧ h.FunFrames base l ∧ ∃ oe vs, h.get? e = some oe ∧ oe.cls = cls ∧ oe.data = .fields vs ∧ vs[1]? = some .none ∧ vs[0]? = some a0

theorem ExcG.after {W : Heap → List Env → Addr → Value → Value → Heap → Prop} {C : Ctx} {fr : List Env} {X : Store → Prop} {ex : Addr → Prop} {ρ ρ₁ : List Addr} {s s₁ s' : Shared} {e : Value}
    (x : ExcG W C fr X ex ρ₁ s₁ e s') (p : Post C ex ρ ρ₁ s s₁) (hfr : FrOk C ρ s.heap fr) : ExcG W C fr X ex ρ s e s' := by
  obtain ⟨σ', ρ', ea, a0, Bx, K, h1, h2, h3, h4, h5, h6, h7, h8, h9, h10, h11⟩ := x
  have low : ∀ b o, s.heap.get? b = some o → b ∉ ρ → b ∉ ρ₁ := fun b o e h hb => by
    have := (p.fresh b hb h).1; rw [e] at this; cases this
  refine ⟨σ', ρ', ea, a0, Bx, K, h1, h2, h3, h4, h5, h6.trans p.gens, h7.trans p.os, fun i a e => h8 i a (p.pre i a e), fun a ha hn => ?_, fun b o e h1 h2 h3 => ?_, fun L o hL h1 e => ?_⟩
  · by_cases hq : a ∈ ρ₁
    · exact p.fresh a hq hn
    · obtain ⟨f1, f2⟩ := h9 a ha hq
      refine ⟨?_, f2⟩
      cases q : s.heap.get? a with
      | none => rfl
      | some o => exact ((p.keep a o q hn f2).not_none f1).elim
  · exact (p.keep b o e h1 h2).trans fun o₁ e₁ => h10 b o₁ e₁ (low b o e h1) h2 h3
  · obtain ⟨env, he, hf⟩ := List.mem_filterMap.mp hL
    obtain ⟨_, L', o', a1, _, a3, _, a5⟩ := hfr env he
    obtain rfl : L' = L := Option.some.inj (a1.symm.trans hf)
    obtain ⟨sl, e'⟩ := (p.keep L' o e a5 h1).there
    obtain ⟨sl', e''⟩ := h11 L' _ hL h1 e'
    exact ⟨sl', e''⟩

theorem ExcG.mono {W : Heap → List Env → Addr → Value → Value → Heap → Prop} {C : Ctx} {fr : List Env} {X X' : Store → Prop} {ex : Addr → Prop} {ρ : List Addr} {s s' : Shared} {e : Value}
    (x : ExcG W C fr X ex ρ s e s') (h : ∀ σ, X σ → X' σ) : ExcG W C fr X' ex ρ s e s' := by
  obtain ⟨σ', ρ', ea, a0, Bx, K, h1, r⟩ := x
  exact ⟨σ', ρ', ea, a0, Bx, K, h _ h1, r⟩

/-- a call of the global f on abstract values -/
def SemCall (C : Ctx) (n : Nat) (f : String) (vs : List V) (σ : Store) (Q : V → Store → Prop) (X : Store → Prop) : Prop :=
  ∀ (A : Around) (fr : List Env) (ρ : List Addr) (s : Shared) (c : Value) (cs : List Value),
    Room A n → A.frames = some fr → FrOk C ρ s.heap fr → SR C σ ρ s.heap → VRs C ρ s.heap vs cs → C.fnv f = some c →
    wpAny (model C.prog C.w) A (call c cs)
      (fun r s' => ∃ v σ' ρ', Q v σ' ∧ VR C ρ' s'.heap v r ∧ SR C σ' ρ' s'.heap ∧ Post C noEx ρ ρ' s s')
      (ExcP C fr X noEx ρ s) s

theorem SemCall.mono {C : Ctx} {n : Nat} {f : String} {vs : List V} {σ : Store} {Q Q' : V → Store → Prop} {X X' : Store → Prop} (h : SemCall C n f vs σ Q X)
    (hQ : ∀ v σ', Q v σ' → Q' v σ') (hX : ∀ σ', X σ' → X' σ') : SemCall C n f vs σ Q' X' := fun A fr ρ s c cs h1 h2 h3 h4 h5 h6 =>
  wpAny_mono (h A fr ρ s c cs h1 h2 h3 h4 h5 h6) (fun r s' ⟨v, σ', ρ', a, b⟩ => ⟨v, σ', ρ', hQ _ _ a, b⟩) fun e s' x => x.mono hX

/-- ints of a list of values -/
def intsOf : List V → Option (List Int)
  | [] => some []
  | .int i :: r => (match intsOf r with
    | some l => some (i :: l)
    | none => none)
  | _ => none
theorem intsOf_map (l : List Int) : intsOf (l.map .int) = some l := by
  induction l with
  | nil => rfl
  | cons a r ih => simp [intsOf, ih]
theorem intsOf_eq : ∀ {xs : List V} {l : List Int}, intsOf xs = some l → xs = l.map .int
  | [], _, h => by cases h; rfl
  | .int i :: r, l, h => by
    simp only [intsOf] at h
    split at h
    · rename_i l' h'; cases h; rw [List.map_cons, ← intsOf_eq h']
    · cases h
  | .none :: _, _, h => by simp [intsOf] at h
  | .bool _ :: _, _, h => by simp [intsOf] at h
  | .str _ :: _, _, h => by simp [intsOf] at h
  | .tup _ :: _, _, h => by simp [intsOf] at h
  | .ref _ :: _, _, h => by simp [intsOf] at h
  | .rng _ _ _ :: _, _, h => by simp [intsOf] at h
  | .fn _ :: _, _, h => by simp [intsOf] at h
  | .script _ :: _, _, h => by simp [intsOf] at h

def eqV (σ : Store) : V → V → Option Bool
  | .int a, .int b => some (decide (a = b))
  | .bool a, .bool b => some (decide (a = b))
  | .tup xs, .tup ys => (match intsOf xs, intsOf ys with
    | some a, some b => some (decide (a = b))
    | _, _ => none)
  | .ref i, .ref j => (match σ[i]?, σ[j]? with
    | some (.list xs), some (.list ys) => if ys.isEmpty then some xs.isEmpty else (match intsOf xs, intsOf ys with
      | some a, some b => some (decide (a = b))
      | _, _ => none)
    | _, _ => none)
  | _, _ => none

def neV (σ : Store) : V → V → Option Bool
  | .int a, .int b => some (!decide (a = b))
  | .bool a, .bool b => some (!decide (a = b))
  | .ref i, .ref j => (match σ[i]?, σ[j]? with
    | some (.list xs), some (.list ys) => (match intsOf xs, intsOf ys with
      | some a, some b => some (!decide (a = b))
      | _, _ => none)
    | _, _ => none)
  | _, _ => none

def truthV : V → Option Bool
  | .bool b => some b
  | .int i => some (decide (i ≠ 0))
  | _ => none

def isNoneV : V → Option Bool
  | .none => some true
  | .tup _ => some false
  | .int _ => some false
  | .ref _ => some false
  | _ => none

def memV (σ : Store) (a : Int) : V → Option Bool
  | .tup xs => (match intsOf xs with
    | some l => some (decide (a ∈ l))
    | none => none)
  | .ref i => (match σ[i]? with
    | some (.list xs) => (match intsOf xs with
      | some l => some (decide (a ∈ l))
      | none => none)
    | _ => none)
  | _ => none

def cmpV (σ : Store) : CmpOp → V → V → Option Bool
  | .Eq, a, b => eqV σ a b
  | .NotEq, a, b => neV σ a b
  | .Lt, .int a, .int b => some (decide (a < b))
  | .LtE, .int a, .int b => some (decide (a ≤ b))
  | .Gt, .int a, .int b => some (decide (b < a))
  | .GtE, .int a, .int b => some (decide (b ≤ a))
  | .Is, a, .none => isNoneV a
  | .In, .int a, b => memV σ a b
  | .NotIn, .int a, b => (match memV σ a b with
    | some r => some (!r)
    | none => none)
  | _, _, _ => none

/-- an operator; Q takes the value and the store behind it -/
def wpBin (op : Operator) (v w : V) (σ : Store) (Q : V → Store → Prop) : Prop :=
  match op, v, w with
  | .Add, .int a, .int b => Q (.int (a + b)) σ
  | .Sub, .int a, .int b => Q (.int (a - b)) σ
  | .Mult, .int a, .int b => (a.natAbs < 2 ^ 64 ∨ b.natAbs < 2 ^ 64) ∧ Q (.int (a * b)) σ
  | .FloorDiv, .int a, .int b => (0 < b ∧ b < 1073741824) ∧ Q (.int (a / b)) σ
  | .Mod, .int a, .int b => (0 < b ∧ b < 1073741824) ∧ Q (.int (a % b)) σ
  | .Pow, .int a, .int b => (0 ≤ b ∧ b ≤ 1000000 ∧ a.natAbs < 2 ^ 64) ∧ Q (.int (a ^ b.toNat)) σ
  | .LShift, .int a, .int b => (0 ≤ b ∧ b ≤ 1000000 ∧ a.natAbs < 2 ^ 64) ∧ Q (.int (a * 2 ^ b.toNat)) σ
  | .RShift, .int a, .int b => 0 ≤ b ∧ Q (.int (a / 2 ^ b.toNat)) σ
  | .BitAnd, .int a, .int b => Q (.int (Builtin.bitAnd a b)) σ
  | .BitOr, .int a, .int b => Q (.int (Builtin.bitOr a b)) σ
  | .BitXor, .int a, .int b => Q (.int (Builtin.bitXor a b)) σ
  | .Mult, .ref i, .int n => (∃ x, σ[i]? = some (.list [x]) ∧ (0 ≤ n ∧ n ≤ 1000000) ∧ Q (.ref σ.length) (σ ++ [.list (List.replicate n.toNat x)]))
  | .Add, .ref i, .ref j => (∃ xs ys, σ[i]? = some (.list xs) ∧ σ[j]? = some (.list ys) ∧ xs.length + ys.length ≤ 1000000 ∧ Q (.ref σ.length) (σ ++ [.list (xs ++ ys)]))
  | _, _, _ => False

/-- an operator in place: numbers alone -/
def wpAug (op : Operator) (v w : V) (Q : V → Prop) : Prop :=
  match op, v, w with
  | .Add, .int a, .int b => Q (.int (a + b))
  | .Sub, .int a, .int b => Q (.int (a - b))
  | .BitOr, .int a, .int b => Q (.int (Builtin.bitOr a b))
  | _, _, _ => False

def fitIx (k : Int) (n : Nat) : Prop := 0 ≤ k ∧ k < n ∧ k < 2 ^ 63

/-- a[i] -/
def wpItem (v w : V) (σ : Store) (Q : V → Prop) : Prop :=
  match v, w with
  | .tup xs, .int k => k < 2 ^ 63 ∧ 0 ≤ k ∧ ∃ x, xs[k.toNat]? = some x ∧ Q x
  | .script ns, .int k => k < 2 ^ 63 ∧ 0 ≤ k ∧ ∃ x, ns[k.toNat]? = some x ∧ Q (.int x)
  | .ref i, .int k => (match σ[i]? with
    | some (.list xs) => k < 2 ^ 63 ∧ 0 ≤ k ∧ ∃ x, xs[k.toNat]? = some x ∧ Q x
    | some (.dict f _) => ∃ x, f k = some x ∧ Q x
    | _ => False)
  | _, _ => False

def wpUpto (v : V) (k : Int) (σ : Store) (Q : V → Store → Prop) : Prop :=
  match v with
  | .tup xs => 0 ≤ k ∧ k < xs.length ∧ xs.length < 1000000 ∧ Q (.tup (xs.take k.toNat)) σ
  | .ref i => (match σ[i]? with
    | some (.list xs) => 0 ≤ k ∧ k < 1000000 ∧ xs.length < 1000000 ∧ Q (.ref σ.length) (σ ++ [.list (xs.take k.toNat)])
    | _ => False)
  | _ => False

def isFnV : V → Bool
  | .fn _ => true
  | _ => false
def wpAttr (v : V) (n : String) (σ : Store) (Q : V → Prop) : Prop :=
  match v with
  | .ref i => (match σ[i]? with
    | some (.inst "Geometry" d) => (match σ[d]? with
      | some (.ns f) => geoAttrs.contains n = true ∧ ∃ x, f n = some x ∧ isFnV x = false ∧ Q x
      | _ => False)
    | _ => False)
  | _ => False

def rngList (a b c : Int) : List Int := (List.range (Builtin.Range.rangeSize a b c).toNat).map fun (i : Nat) => a + (i : Int) * c

def srcItems (σ : Store) : V → Option (List V)
  | .rng a b c => some ((rngList a b c).map .int)
  | .tup xs => some xs
  | .ref i => (match σ[i]? with
    | some (.list xs) => some xs
    | _ => none)
  | _ => none

/-- the built-in functions -/
def wpB (f : String) (vs : List V) (σ : Store) (Q : V → Store → Prop) : Prop :=
  match f, vs with
  | "len", [.tup xs] => xs.length < 1000000 ∧ Q (.int xs.length) σ
  | "len", [.script ns] => ns.length < 1000000 ∧ Q (.int ns.length) σ
  | "len", [.ref i] => (match σ[i]? with
    | some (.list xs) => xs.length < 1000000 ∧ Q (.int xs.length) σ
    | _ => False)
  | "abs", [.int a] => Q (.int a.natAbs) σ
  | "max", [.int a, .int b] => Q (.int (max a b)) σ
  | "max", [.tup xs] => ∃ l, intsOf xs = some l ∧ l ≠ [] ∧ l.length < 1000000 ∧ ∀ M, M ∈ l → (∀ a ∈ l, a ≤ M) → Q (.int M) σ
  | "max", [.ref i] => (match σ[i]? with
    | some (.list xs) => ∃ l, intsOf xs = some l ∧ l ≠ [] ∧ ∀ M, M ∈ l → (∀ a ∈ l, a ≤ M) → Q (.int M) σ
    | _ => False)
  | "min", [.ref i] => (match σ[i]? with
    | some (.list xs) => ∃ l, intsOf xs = some l ∧ l ≠ [] ∧ ∀ M, M ∈ l → (∀ a ∈ l, M ≤ a) → Q (.int M) σ
    | _ => False)
  | "sum", [.ref i] => (match σ[i]? with
    | some (.list xs) => ∃ l, intsOf xs = some l ∧ l.length ≤ 1000000 ∧ (∀ x ∈ l, x.natAbs ≤ 2 ^ 40) ∧ Q (.int l.sum) σ
    | _ => False)
  | "sorted", [.ref i] => (match σ[i]? with
    | some (.list xs) => ∃ a b, xs = [.int a, .int b] ∧ Q (.ref σ.length) (σ ++ [.list (if b < a then [.int b, .int a] else [.int a, .int b])])
    | _ => False)
  | "list", [.rng a b c] => c = 1 ∧ (0 ≤ a ∧ a < 1000000 ∧ 0 ≤ b ∧ b < 1000000) ∧ Q (.ref σ.length) (σ ++ [.list ((rngList a b c).map .int)])
  | "range", [.int b] => (b.natAbs < 2 ^ 40) ∧ Q (.rng 0 b 1) σ
  | "range", [.int a, .int b] => (a.natAbs < 2 ^ 40 ∧ b.natAbs < 2 ^ 40) ∧ Q (.rng a b 1) σ
  | "range", [.int a, .int b, .int c] => (a.natAbs < 2 ^ 40 ∧ b.natAbs < 2 ^ 40 ∧ c = -1) ∧ Q (.rng a b c) σ
  | _, _ => False

abbrev Loc := String → Option V
def upd (m : Loc) (x : String) (v : V) : Loc := fun y => if y = x then some v else m y
def clr (m : Loc) (x : String) : Loc := fun y => if y = x then none else m y

/-- a comprehension's turns over what is left; acc: what has been taken -/
def compW (src : V) (items : List V) (x : String) (conds : Loc → Store → (Bool → Store → Prop) → Prop) (elt : Loc → Store → (V → Store → Prop) → Prop) :
    List V → List V → Loc → Store → (List V → Store → Prop) → Prop
  | [], acc, m, σ, Q => srcItems σ src = some items ∧ Q acc σ
  | v :: r, acc, m, σ, Q => srcItems σ src = some items ∧ conds (upd m x v) σ fun b σ₁ =>
      if b then elt (upd m x v) σ₁ fun y σ₂ => compW src items x conds elt r (acc ++ [y]) (upd m x v) σ₂ Q
      else compW src items x conds elt r acc (upd m x v) σ₁ Q

section
variable (C : Ctx) (n : Nat)

mutual
def wpE (X : Store → Prop) : E → Loc → Store → (V → Store → Prop) → Prop
  | .cint i, _, σ, Q => Q (.int i) σ
  | .cbool b, _, σ, Q => Q (.bool b) σ
  | .cnone, _, σ, Q => Q .none σ
  | .cstr x, _, σ, Q => Q (.str x) σ
  | .loc x, m, σ, Q => ∃ v, m x = some v ∧ Q v σ
  | .glob x, _, σ, Q => ∃ v, C.glb x = some v ∧ Q v σ
  | .bin op a b, m, σ, Q => wpE X a m σ fun va σ₁ => wpE X b m σ₁ fun vb σ₂ => wpBin op va vb σ₂ Q
  | .neg a, m, σ, Q => wpE X a m σ fun va σ₁ => ∃ i, va = .int i ∧ Q (.int (-i)) σ₁
  | .inv a, m, σ, Q => wpE X a m σ fun va σ₁ => ∃ i, va = .int i ∧ Q (.int (Builtin.bitNot i)) σ₁
  | .not a, m, σ, Q => wpE X a m σ fun va σ₁ => ∃ b, truthV va = some b ∧ Q (.bool (!b)) σ₁
  | .cmp op a b, m, σ, Q => wpE X a m σ fun va σ₁ => wpE X b m σ₁ fun vb σ₂ => ∃ r, cmpV σ₂ op va vb = some r ∧ Q (.bool r) σ₂
  | .all es, m, σ, Q => wpAll X es m σ Q
  | .any es, m, σ, Q => wpAnyL X es m σ Q
  | .ite t b o, m, σ, Q => wpT X t m σ fun c σ₁ => if c then wpE X b m σ₁ Q else wpE X o m σ₁ Q
  | .call f as, m, σ, Q => wpE X f m σ fun fv σ₁ => wpEs X as m σ₁ fun vs σ₂ => ∃ g k, fv = .fn g ∧ n = k + 1 ∧ SemCall C k g vs σ₂ Q X
  | .bcall f as, m, σ, Q => wpEs X as m σ fun vs σ₁ => wpB f vs σ₁ Q
  | .attr x a, m, σ, Q => ∃ v, m x = some v ∧ wpAttr v a σ fun y => Q y σ
  | .sub a i, m, σ, Q => wpE X a m σ fun va σ₁ => wpE X i m σ₁ fun vi σ₂ => wpItem va vi σ₂ fun y => Q y σ₂
  | .upto a k, m, σ, Q => wpE X a m σ fun va σ₁ => wpUpto va k σ₁ Q
  | .tup es, m, σ, Q => wpEs X es m σ fun vs σ₁ => Q (.tup vs) σ₁
  | .lst es, m, σ, Q => wpEs X es m σ fun vs σ₁ => Q (.ref σ₁.length) (σ₁ ++ [.list vs])
  | .dct k v, m, σ, Q => wpE X k m σ fun vk σ₁ => wpE X v m σ₁ fun vv σ₂ => ∃ i, vk = .int i ∧ Q (.ref σ₂.length) (σ₂ ++ [.dict (fun j => if j = i then some vv else none) 1])
  | .comp elt x src conds, m, σ, Q => wpE X src m σ fun sv σ₁ => ∃ items, srcItems σ₁ sv = some items ∧ items.length < 1000000 ∧
      compW sv items x (fun m σ Q => wpCs (fun _ => False) conds m σ Q) (fun m σ Q => wpE (fun _ => False) elt m σ Q) items [] (clr (clr m x) ".0") σ₁ fun vs σ₂ => Q (.ref σ₂.length) (σ₂ ++ [.list vs])
termination_by e => (sizeOf e, 0)
def wpT (X : Store → Prop) : E → Loc → Store → (Bool → Store → Prop) → Prop
  | .not a, m, σ, Q => wpT X a m σ fun b σ₁ => Q (!b) σ₁
  | .all es, m, σ, Q => wpTAll X es m σ Q
  | .any es, m, σ, Q => wpTAny X es m σ Q
  | .ite t b o, m, σ, Q => wpT X t m σ fun c σ₁ => if c then wpT X b m σ₁ Q else wpT X o m σ₁ Q
  | e, m, σ, Q => wpE X e m σ fun v σ₁ => ∃ b, truthV v = some b ∧ Q b σ₁
termination_by e => (sizeOf e, 1)
def wpEs (X : Store → Prop) : List E → Loc → Store → (List V → Store → Prop) → Prop
  | [], _, σ, Q => Q [] σ
  | e :: r, m, σ, Q => wpE X e m σ fun v σ₁ => wpEs X r m σ₁ fun vs σ₂ => Q (v :: vs) σ₂
termination_by e => (sizeOf e, 2)
def wpAll (X : Store → Prop) : List E → Loc → Store → (V → Store → Prop) → Prop
  | [], _, _, _ => False
  | [e], m, σ, Q => wpE X e m σ Q
  | e :: r, m, σ, Q => wpE X e m σ fun v σ₁ => ∃ b, truthV v = some b ∧ if b then wpAll X r m σ₁ Q else Q v σ₁
termination_by e => (sizeOf e, 2)
def wpAnyL (X : Store → Prop) : List E → Loc → Store → (V → Store → Prop) → Prop
  | [], _, _, _ => False
  | [e], m, σ, Q => wpE X e m σ Q
  | e :: r, m, σ, Q => wpE X e m σ fun v σ₁ => ∃ b, truthV v = some b ∧ if b then Q v σ₁ else wpAnyL X r m σ₁ Q
termination_by e => (sizeOf e, 2)
def wpTAll (X : Store → Prop) : List E → Loc → Store → (Bool → Store → Prop) → Prop
  | [], _, σ, Q => Q true σ
  | e :: r, m, σ, Q => wpT X e m σ fun b σ₁ => if b then wpTAll X r m σ₁ Q else Q false σ₁
termination_by e => (sizeOf e, 2)
def wpTAny (X : Store → Prop) : List E → Loc → Store → (Bool → Store → Prop) → Prop
  | [], _, σ, Q => Q false σ
  | e :: r, m, σ, Q => wpT X e m σ fun b σ₁ => if b then Q true σ₁ else wpTAny X r m σ₁ Q
termination_by e => (sizeOf e, 2)
def wpCs (X : Store → Prop) : List E → Loc → Store → (Bool → Store → Prop) → Prop
  | [], _, σ, Q => Q true σ
  | e :: _, m, σ, Q => wpT X e m σ Q
termination_by e => (sizeOf e, 2)
end
end

inductive Fl where
  | next | cont | ret (v : V)

/-- names bound from a value -/
def bindL : List String → List V → Loc → Option Loc
  | [], [], m => some m
  | x :: xs, v :: vs, m => bindL xs vs (upd m x v)
  | _, _, _ => none
def setItemV (σ : Store) (va vi v : V) : Option Store := match va, vi with
  | .ref i, .int k => (match σ[i]? with
    | some (.list xs) => if 0 ≤ k ∧ k < xs.length ∧ xs.length < 1000000 then some (σ.set i (.list (xs.set k.toNat v))) else none
    | some (.dict f n) => if n < 1000000 then some (σ.set i (.dict (fun j => if j = k then some v else f j) (n + 1))) else none
    | _ => none)
  | _, _ => none
def setAttrV (σ : Store) (va : V) (a : String) (v : V) : Option Store := match va with
  | .ref i => (match σ[i]? with
    | some (.inst "Geometry" d) => (match σ[d]? with
      | some (.ns f) => if geoAttrs.contains a = true then some (σ.set d (.ns (fun y => if y = a then some v else f y))) else none
      | _ => none)
    | _ => none)
  | _ => none
def appendV (σ : Store) (va v : V) : Option Store := match va with
  | .ref i => (match σ[i]? with
    | some (.list xs) => if xs.length < 1000000 then some (σ.set i (.list (xs ++ [v]))) else none
    | _ => none)
  | _ => none

def isListV (σ : Store) (va : V) : Prop := ∃ i xs, va = .ref i ∧ σ[i]? = some (.list xs)

/-- for: bnd binds an item; body walks the body -/
def forW (src : V) (items : List V) (bnd : V → Loc → Option Loc) (body : Loc → Store → (Fl → Loc → Store → Prop) → Prop) :
    List V → Loc → Store → (Fl → Loc → Store → Prop) → Prop
  | [], m, σ, Q => srcItems σ src = some items ∧ Q .next m σ
  | v :: r, m, σ, Q => srcItems σ src = some items ∧ ∃ m', bnd v m = some m' ∧ body m' σ fun fl m₁ σ₁ => match fl with
      | .ret v => Q (.ret v) m₁ σ₁
      | _ => forW src items bnd body r m₁ σ₁ Q

def whileW (test : Loc → Store → (Bool → Store → Prop) → Prop) (body : Loc → Store → (Fl → Loc → Store → Prop) → Prop) :
    Nat → Loc → Store → (Fl → Loc → Store → Prop) → Prop
  | 0, _, _, _ => False
  | k + 1, m, σ, Q => test m σ fun b σ₁ => if b then body m σ₁ fun fl m₁ σ₂ => (match fl with
      | .ret v => Q (.ret v) m₁ σ₂
      | _ => whileW test body k m₁ σ₂ Q)
    else Q .next m σ₁

def bndT : T → V → Loc → Option Loc
  | .name x, v, m => some (upd m x v)
  | .tup xs, .tup vs, m => bindL xs vs m
  | _, _, _ => none

section
variable (C : Ctx) (n : Nat)

def wpAssign (X : Store → Prop) (t : T) (v : V) (m : Loc) (σ : Store) (Q : Loc → Store → Prop) : Prop :=
  match t with
  | .name x => Q (upd m x v) σ
  | .tup xs => ∃ m', bndT (.tup xs) v m = some m' ∧ Q m' σ
  | .sub a i => wpE C n X a m σ fun va σ₁ => wpE C n X i m σ₁ fun vi σ₂ => ∃ σ', setItemV σ₂ va vi v = some σ' ∧ Q m σ'
  | .attr x a => ∃ va, m x = some va ∧ ∃ σ', setAttrV σ va a v = some σ' ∧ Q m σ'

mutual
def wpS (X : Store → Prop) : S → Loc → Store → (Fl → Loc → Store → Prop) → Prop
  | .assign t e, m, σ, Q => wpE C n X e m σ fun v σ₁ => wpAssign C n X t v m σ₁ fun m' σ₂ => Q .next m' σ₂
  | .aug x op e, m, σ, Q => ∃ old, m x = some old ∧ wpE C n X e m σ fun v σ₁ => wpAug op old v fun r => Q .next (upd m x r) σ₁
  | .augsub a i op e, m, σ, Q => wpE C n X a m σ fun va σ₁ => wpE C n X i m σ₁ fun vi σ₂ => wpItem va vi σ₂ fun old => wpE C n X e m σ₂ fun v σ₃ =>
      wpAug op old v fun r => ∃ σ', setItemV σ₃ va vi r = some σ' ∧ Q .next m σ'
  | .expr e, m, σ, Q => wpE C n X e m σ fun _ σ₁ => Q .next m σ₁
  | .append a e, m, σ, Q => wpE C n X a m σ fun va σ₁ => isListV σ₁ va ∧ wpE C n X e m σ₁ fun v σ₂ => ∃ σ', appendV σ₂ va v = some σ' ∧ Q .next m σ'
  | .ite t b o, m, σ, Q => wpT C n X t m σ fun c σ₁ => if c then wpSs X b m σ₁ Q else wpSs X o m σ₁ Q
  | .for t src body, m, σ, Q => wpE C n X src m σ fun sv σ₁ => ∃ items, srcItems σ₁ sv = some items ∧
      forW sv items (bndT t) (fun m σ Q => wpSs X body m σ Q) items m σ₁ Q
  | .while t body, m, σ, Q => ∃ k, whileW (fun m σ Q => wpT C n X t m σ Q) (fun m σ Q => wpSs X body m σ Q) k m σ Q
  | .ret e, m, σ, Q => wpE C n X e m σ fun v σ₁ => Q (.ret v) m σ₁
  | .pass, m, σ, Q => Q .next m σ
  | .cont, m, σ, Q => Q .cont m σ
  | .raise c _, _, σ, _ => c = "BadTable" ∧ X σ
  | .try f as c, m, σ, Q => c = "BadTable" ∧ wpE C n (fun _ => False) f m σ fun fv σ₁ => wpEs C n (fun _ => False) as m σ₁ fun vs σ₂ => ∃ g k, fv = .fn g ∧ n = k + 1 ∧
      SemCall C k g vs σ₂ (fun _ σ₃ => Q (.ret (.bool false)) m σ₃) (fun σ₃ => Q .next m σ₃)
def wpSs (X : Store → Prop) : List S → Loc → Store → (Fl → Loc → Store → Prop) → Prop
  | [], m, σ, Q => Q .next m σ
  | s :: r, m, σ, Q => wpS X s m σ fun fl m₁ σ₁ => match fl with
      | .next => wpSs X r m₁ σ₁ Q
      | fl => Q fl m₁ σ₁
end
end

end Mine

end

section
open PySem PySem.W PyProof.Rows
set_option linter.unusedVariables false
namespace Mine

def GlobAt (C : Ctx) (x : String) (c : Value) : Prop :=
  ∃ mg mb, C.B.Ns mainGlobals mg ∧ C.B.Ns builtinsNs mb ∧ (mg (Str.ofString x) = some c ∨ (mg (Str.ofString x) = none ∧ mb (Str.ofString x) = some c))

def bval (f : String) : Value := if f = "list" ∨ f = "range" then .type f else .builtin f

structure ClsOk (C : Ctx) (a : Addr) : Prop where
  get : findIn C.K (.ref a) "__getattribute__" = some (some (.builtin "object.__getattribute__"))
  set : findIn C.K (.ref a) "__setattr__" = some (some (.builtin "object.__setattr__"))
  dict : ∃ cd, clsIn C.K a = some cd ∧ cd.hasDict = true
  over : plainOver C.K a = true
  attrs : ∀ n ∈ geoAttrs, findIn C.K (.ref a) (Str.ofString n) = some none

/-- a value that a call may take: who keeps its arguments is told -/
def KeeperOk (C : Ctx) (c : Value) : Prop :=
  ∀ (A : Around) (E : Value → Shared → Prop) (Q : Keeper → Shared → Prop) (s : Shared), C.B.StaysIn s.heap → (∀ kp, Q kp s) → wpAny (model C.prog C.w) A (keeperOf c) Q E s

structure Ctx.Ok (C : Ctx) : Prop where
  keeper : ∀ x c, C.fnv x = some c → KeeperOk C c
  KB : C.K.In C.B
  geo : ∀ a, C.fnv "Geometry" = some (.ref a) → ClsOk C a
  glb : ∀ x v, C.glb x = some v → ∃ c, GlobAt C x c ∧ VR C [] C.B v c
  blt : ∀ f ∈ bnames, GlobAt C f (bval f)
  nolimit : C.B.NoLimit

structure EnvOk (k : Kinds) (env : Env) : Prop where
  kind : env.scope.kind = .function
  globals : env.globals = mainGlobals
  builtins : env.builtins = builtinsNs
  glob : ∀ x, k x = some .globalImplicit → env.kindOf x = some .globalImplicit
  loc : ∀ x, k x = some .local → env.kindOf x = some .local
  cell : ∀ x, k x = some .cell → env.kindOf x = some .cell
  free : ∀ x, k x = some .free → env.kindOf x = some .cell
  cellAt : ∀ x, env.kindOf x = some .cell → ∃ a, env.cells.lookup x = some a

structure Sit (C : Ctx) (n : Nat) (A : Around) (fr : List Env) (env : Env) (m : Loc) (σ : Store) (ρ : List Addr) (s : Shared) : Prop where
  room : Room A n
  frs : A.frames = some fr
  fok : FrOk C ρ s.heap fr
  rel : Rel C env ⟨m, σ⟩ ρ s.heap

theorem Sit.tok {C n A fr env m σ ρ} {s : Shared} (x : Sit C n A fr env m σ ρ s) (t : Nat) : Sit C n A fr env m σ ρ { s with toks := t } := ⟨x.room, x.frs, x.fok, x.rel⟩

theorem getElem?_snoc_of {α : Type} {l : List α} {i : Nat} {a b : α} (e : l[i]? = some a) : (l ++ [b])[i]? = some a := by
  rw [List.getElem?_append_left (List.getElem?_eq_some_iff.mp e).1]; exact e

/-- what lies apart stays: the store by a change of one owned object -/
theorem SR.update {C : Ctx} {σ : Store} {ρ : List Addr} {h h' : Heap} {i : Nat} {o o' : AObj} {a : Addr} (x : SR C σ ρ h) (hi : σ[i]? = some o) (ha : ρ[i]? = some a)
    (hs : Heap.SameBut a h h') (ho : OR C ρ h' o' a) : SR C (σ.set i o') ρ h' where
  len := by rw [List.length_set]; exact x.len
  obj := fun j oj aj e1 e2 => by
    by_cases hj : i = j
    · subst hj
      rw [List.getElem?_set_self (by exact (List.getElem?_eq_some_iff.mp hi).1)] at e1
      rw [ha] at e2; cases e1; cases e2; exact ho
    · rw [List.getElem?_set_ne hj] at e1
      have hne : aj ≠ a := fun q => hj (x.inj i j a ha (q ▸ e2))
      refine (x.obj j oj aj e1 e2).mono (fun _ _ e => e) (fun b ob e hb => ?_) (fun ob e => (hs.2 aj hne).trans e)
      refine (hs.2 b fun q => ?_).trans e
      subst q
      exact x.not_imm e hb (List.mem_of_getElem? ha)
  inj := x.inj
  new := x.new
  base := fun b ob e => (hs.2 b fun q => by subst q; rw [x.new _ (List.mem_of_getElem? ha)] at e; cases e).trans (x.base b ob e)

theorem SR.alloc {C : Ctx} {σ : Store} {ρ : List Addr} {h h' : Heap} {o : AObj} {a : Addr} (x : SR C σ ρ h) (hn : h.get? a = none)
    (hk : ∀ b o, h.get? b = some o → h'.get? b = some o) (ho : OR C (ρ ++ [a]) h' o a) : SR C (σ ++ [o]) (ρ ++ [a]) h' := by
  have low : ∀ i : Nat, ρ[i]? ≠ some a := fun i e => by
    obtain ⟨_, _, _, _, r⟩ := x.owned (List.mem_of_getElem? e)
    obtain ⟨_, h1, _⟩ := r.there
    rw [hn] at h1; cases h1
  have cut : ∀ (j : Nat) (b : Addr), (ρ ++ [a])[j]? = some b → (ρ[j]? = some b) ∨ (j = ρ.length ∧ b = a) := fun j b e => by
    rw [List.getElem?_append] at e
    split at e
    · exact .inl e
    · rename_i hj
      have : j - ρ.length = 0 := by
        have := (List.getElem?_eq_some_iff.mp e).1
        simp at this; omega
      rw [this] at e
      simp at e
      exact .inr ⟨by omega, e.symm⟩
  refine ⟨by simp [x.len], fun j oj aj e1 e2 => ?_, fun i j b e1 e2 => ?_, fun b hb => ?_, fun b ob e => hk _ _ (x.base b ob e)⟩
  · rcases cut j aj e2 with e | ⟨rfl, rfl⟩
    · have hj : j < σ.length := by rw [← x.len]; exact (List.getElem?_eq_some_iff.mp e).1
      rw [List.getElem?_append_left hj] at e1
      exact (x.obj j oj aj e1 e).mono (fun _ _ e => getElem?_snoc_of e) (fun b ob e _ => hk b ob e) (fun ob e => hk _ _ e)
    · rw [x.len, List.getElem?_append_right (Nat.le_refl _)] at e1
      simp at e1; subst e1; exact ho
  · rcases cut i b e1 with q | ⟨rfl, rfl⟩ <;> rcases cut j b e2 with q' | ⟨rfl, q'⟩
    · exact x.inj i j b q q'
    · subst q'; exact absurd q (low i)
    · exact absurd q' (low j)
    · rfl
  · rcases List.mem_append.mp hb with hb | hb
    · exact x.new b hb
    · rw [List.mem_singleton.mp hb]
      cases q : C.B.get? a with
      | none => rfl
      | some ob => have := x.base a ob q; rw [hn] at this; cases this

theorem Rel.sameBut {C : Ctx} {env : Env} {st : St} {ρ : List Addr} {h h' : Heap} {σ' : Store} {a : Addr} (R : Rel C env st ρ h) (ha : a ∈ ρ) (hs : Heap.SameBut a h h')
    (hsr : SR C σ' ρ h') : Rel C env ⟨st.loc, σ'⟩ ρ h' := by
  have hL : env.locals ≠ a := fun q => R.locNew.2 (q ▸ ha)
  have hC : ∀ n b, (n, b) ∈ env.cells → b ≠ a := fun n b hm q => (R.cellNew n b hm).2.1 (q ▸ ha)
  have imm : ∀ b o, h.get? b = some o → Imm o → h'.get? b = some o := fun b o e hi => (hs.2 b fun q => by subst q; exact R.sr.not_imm e hi ha).trans e
  refine ⟨hsr, ?_, fun n b hm => ?_, fun x v e1 e2 => ?_, R.locNew, R.cellNew, R.apart⟩
  · obtain ⟨m, h1, h2⟩ := R.ns
    exact ⟨m, h1.sameBut hs hL, fun x v e1 e2 => let ⟨c, e3, e4⟩ := h2 x v e1 e2; ⟨c, e3, e4.mono (fun _ _ e => e) imm⟩⟩
  · obtain ⟨ov, hc⟩ := R.cell n b hm
    exact ⟨ov, hc.sameBut hs (hC n b hm)⟩
  · obtain ⟨b, c, e3, e4, e5⟩ := R.cellv x v e1 e2
    exact ⟨b, c, e3, e4.sameBut hs (hC _ _ (mem_of_lookup e3)), e5.mono (fun _ _ e => e) imm⟩

theorem Rel.alloc {C : Ctx} {env : Env} {st : St} {ρ : List Addr} {h h' : Heap} {o : AObj} {a : Addr} (R : Rel C env st ρ h) (hn : h.get? a = none)
    (hk : ∀ b o, h.get? b = some o → h'.get? b = some o) (ho : OR C (ρ ++ [a]) h' o a) : Rel C env ⟨st.loc, st.σ ++ [o]⟩ (ρ ++ [a]) h' := by
  have G := R.grow hk
  have up : ∀ {v c}, VR C ρ h' v c → VR C (ρ ++ [a]) h' v c := fun hv => hv.mono (fun _ _ e => getElem?_snoc_of e) fun _ _ e _ => e
  obtain ⟨mL, hL1, hL2⟩ := R.ns
  have la : env.locals ≠ a := fun q => by obtain ⟨ob, _, _, e, _⟩ := hL1; rw [q, hn] at e; cases e
  refine ⟨R.sr.alloc hn hk ho, ?_, G.cell, fun x v e1 e2 => ?_, ⟨R.locNew.1, ?_⟩, fun n b hm => ?_, R.apart⟩
  · obtain ⟨m, h1, h2⟩ := G.ns
    exact ⟨m, h1, fun x v e1 e2 => let ⟨c, e3, e4⟩ := h2 x v e1 e2; ⟨c, e3, up e4⟩⟩
  · obtain ⟨b, c, e3, e4, e5⟩ := G.cellv x v e1 e2
    exact ⟨b, c, e3, e4, up e5⟩
  · rw [List.mem_append, List.mem_singleton]; rintro (q | q)
    · exact R.locNew.2 q
    · exact la q
  · obtain ⟨c1, c2, c3⟩ := R.cellNew n b hm
    refine ⟨c1, ?_, c3⟩
    rw [List.mem_append, List.mem_singleton]; rintro (q | q)
    · exact c2 q
    · obtain ⟨ov, ob, e, _⟩ := R.cell n b hm
      rw [q, hn] at e; cases e

theorem Post.alloc {C : Ctx} {ex : Addr → Prop} {ρ : List Addr} {s s' : Shared} {a : Addr} (hn : s.heap.get? a = none) (hx : ¬ ex a)
    (hk : ∀ b o, s.heap.get? b = some o → s'.heap.get? b = some o) (hg : s'.gens = s.gens) (ho : s'.os = s.os) : Post C ex ρ (ρ ++ [a]) s s' :=
  ⟨hg, ho, fun _ _ e => getElem?_snoc_of e, fun b hb hnb => by
    rcases List.mem_append.mp hb with q | q
    · exact absurd q hnb
    · rw [List.mem_singleton.mp q]; exact ⟨hn, hx⟩, fun b o e _ _ => .inl (hk b o e)⟩
theorem Post.update {C : Ctx} {ex : Addr → Prop} {ρ : List Addr} {s s' : Shared} {a : Addr} (ha : a ∈ ρ) (hs : Heap.SameBut a s.heap s'.heap) (hg : s'.gens = s.gens) (ho : s'.os = s.os) : Post C ex ρ ρ s s' :=
  ⟨hg, ho, fun _ _ e => e, fun _ h h' => absurd h h', fun b o e hb _ => .inl ((hs.2 b fun q => hb (q ▸ ha)).trans e)⟩

theorem Sit.post {C n A fr env m σ ρ} {m' : Loc} {σ' : Store} {ρ' : List Addr} {s s' : Shared} (x : Sit C n A fr env m σ ρ s) (p : Post C (exOf env) ρ ρ' s s') (R : Rel C env ⟨m', σ'⟩ ρ' s'.heap) :
    Sit C n A fr env m' σ' ρ' s' := ⟨x.room, x.frs, x.fok.post p (x.rel.fr_there R), R⟩

theorem Rel.not_ex_of_none {C : Ctx} {env : Env} {st : St} {ρ : List Addr} {h : Heap} (R : Rel C env st ρ h) {a : Addr} (hn : h.get? a = none) : ¬ exOf env a := fun q => by
  obtain ⟨o, e, _⟩ := R.ex_there a q
  rw [hn] at e; cases e

theorem Sit.grow {C n A fr env m σ ρ} {s s' : Shared} (x : Sit C n A fr env m σ ρ s) (hk : ∀ b o, s.heap.get? b = some o → s'.heap.get? b = some o) (hg : s'.gens = s.gens) (ho : s'.os = s.os) :
    Sit C n A fr env m σ ρ s' ∧ Post C (exOf env) ρ ρ s s' :=
  have p : Post C (exOf env) ρ ρ s s' := .grow hk hg ho
  ⟨x.post p (x.rel.grow hk), p⟩
theorem Sit.alloc {C n A fr env m σ ρ} {s s' : Shared} {o : AObj} {a : Addr} (x : Sit C n A fr env m σ ρ s) (hn : s.heap.get? a = none)
    (hk : ∀ b o, s.heap.get? b = some o → s'.heap.get? b = some o) (ho : OR C (ρ ++ [a]) s'.heap o a) (hg : s'.gens = s.gens) (hos : s'.os = s.os) :
    Sit C n A fr env m (σ ++ [o]) (ρ ++ [a]) s' ∧ Post C (exOf env) ρ (ρ ++ [a]) s s' ∧ VR C (ρ ++ [a]) s'.heap (.ref σ.length) (.ref a) :=
  have p : Post C (exOf env) ρ (ρ ++ [a]) s s' := .alloc hn (x.rel.not_ex_of_none hn) hk hg hos
  ⟨x.post p (x.rel.alloc hn hk ho), p, .ref (by rw [show σ.length = ρ.length from x.rel.sr.len.symm]; simp)⟩
theorem Sit.update {C n A fr env m σ ρ} {s s' : Shared} {i : Nat} {o o' : AObj} {a : Addr} (x : Sit C n A fr env m σ ρ s) (hi : σ[i]? = some o) (ha : ρ[i]? = some a)
    (hs : Heap.SameBut a s.heap s'.heap) (ho : OR C ρ s'.heap o' a) (hg : s'.gens = s.gens) (hos : s'.os = s.os) :
    Sit C n A fr env m (σ.set i o') ρ s' ∧ Post C (exOf env) ρ ρ s s' :=
  have p : Post C (exOf env) ρ ρ s s' := .update (List.mem_of_getElem? ha) hs hg hos
  ⟨x.post p (x.rel.sameBut (List.mem_of_getElem? ha) hs (x.rel.sr.update hi ha hs ho)), p⟩

/-- an object of this call's own that was not owned yet becomes owned -/
theorem SR.adopt {C : Ctx} {σ : Store} {ρ : List Addr} {h h' : Heap} {o : AObj} {a : Addr} (x : SR C σ ρ h) (ha : a ∉ ρ) (hB : C.B.get? a = none) (himm : ∀ o, h.get? a = some o → ¬ Imm o)
    (hk : ∀ b o, b ≠ a → h.get? b = some o → h'.get? b = some o) (ho : OR C (ρ ++ [a]) h' o a) : SR C (σ ++ [o]) (ρ ++ [a]) h' := by
  have cut : ∀ (j : Nat) (b : Addr), (ρ ++ [a])[j]? = some b → (ρ[j]? = some b) ∨ (j = ρ.length ∧ b = a) := fun j b e => by
    rw [List.getElem?_append] at e
    split at e
    · exact .inl e
    · rename_i hj
      have : j - ρ.length = 0 := by
        have := (List.getElem?_eq_some_iff.mp e).1
        simp at this; omega
      rw [this] at e
      simp at e
      exact .inr ⟨by omega, e.symm⟩
  have imm : ∀ b o, h.get? b = some o → Imm o → h'.get? b = some o := fun b o e hi => hk b o (fun q => by subst q; exact himm o e hi) e
  refine ⟨by simp [x.len], fun j oj aj e1 e2 => ?_, fun i j b e1 e2 => ?_, fun b hb => ?_, fun b ob e => hk _ _ (fun q => by subst q; rw [hB] at e; cases e) (x.base b ob e)⟩
  · rcases cut j aj e2 with e | ⟨rfl, rfl⟩
    · have hj : j < σ.length := by rw [← x.len]; exact (List.getElem?_eq_some_iff.mp e).1
      rw [List.getElem?_append_left hj] at e1
      exact (x.obj j oj aj e1 e).mono (fun _ _ e => getElem?_snoc_of e) imm (fun ob e' => hk _ _ (fun q => ha (q ▸ List.mem_of_getElem? e)) e')
    · rw [x.len, List.getElem?_append_right (Nat.le_refl _)] at e1
      simp at e1; subst e1; exact ho
  · rcases cut i b e1 with q | ⟨rfl, rfl⟩ <;> rcases cut j b e2 with q' | ⟨rfl, q'⟩
    · exact x.inj i j b q q'
    · subst q'; exact absurd (List.mem_of_getElem? q) ha
    · exact absurd (List.mem_of_getElem? q') ha
    · rfl
  · rcases List.mem_append.mp hb with hb | hb
    · exact x.new b hb
    · rw [List.mem_singleton.mp hb]; exact hB

theorem Rel.adopt {C : Ctx} {env : Env} {st : St} {ρ : List Addr} {h h' : Heap} {o : AObj} {a : Addr} (R : Rel C env st ρ h) (ha : a ∉ ρ) (hx : ¬ exOf env a) (hB : C.B.get? a = none) (himm : ∀ o, h.get? a = some o → ¬ Imm o)
    (hk : ∀ b o, b ≠ a → h.get? b = some o → h'.get? b = some o) (ho : OR C (ρ ++ [a]) h' o a) : Rel C env ⟨st.loc, st.σ ++ [o]⟩ (ρ ++ [a]) h' := by
  have imm : ∀ b o, h.get? b = some o → Imm o → h'.get? b = some o := fun b o e hi => hk b o (fun q => by subst q; exact himm o e hi) e
  have up : ∀ {v c}, VR C ρ h v c → VR C (ρ ++ [a]) h' v c := fun hv => hv.mono (fun _ _ e => getElem?_snoc_of e) imm
  have la : env.locals ≠ a := fun q => hx (.inl q.symm)
  have ca : ∀ nm b, (nm, b) ∈ env.cells → b ≠ a := fun nm b hm q => hx (.inr ⟨nm, q ▸ hm⟩)
  refine ⟨R.sr.adopt ha hB himm hk ho, ?_, fun nm b hm => ?_, fun x v e1 e2 => ?_, ⟨R.locNew.1, ?_⟩, fun n b hm => ?_, R.apart⟩
  · obtain ⟨m, ⟨ob, es, ep, e1, r⟩, h2⟩ := R.ns
    exact ⟨m, ⟨ob, es, ep, hk _ _ la e1, r⟩, fun x v e1 e2 => let ⟨c, e3, e4⟩ := h2 x v e1 e2; ⟨c, e3, up e4⟩⟩
  · obtain ⟨ov, ob, e1, e2⟩ := R.cell nm b hm
    exact ⟨ov, ob, hk _ _ (ca nm b hm) e1, e2⟩
  · obtain ⟨b, c, e3, ⟨ob, e4, e4'⟩, e5⟩ := R.cellv x v e1 e2
    exact ⟨b, c, e3, ⟨ob, hk _ _ (ca _ _ (mem_of_lookup e3)) e4, e4'⟩, up e5⟩
  · rw [List.mem_append, List.mem_singleton]; rintro (q | q)
    · exact R.locNew.2 q
    · exact la q
  · obtain ⟨c1, c2, c3⟩ := R.cellNew n b hm
    refine ⟨c1, ?_, c3⟩
    rw [List.mem_append, List.mem_singleton]; rintro (q | q)
    · exact c2 q
    · exact ca n b hm q

theorem Sit.adopt {C n A fr env m σ ρ} {σ₀ : Store} {ρ₀ : List Addr} {s₀ s s' : Shared} {o : AObj} {a : Addr} (x₀ : Sit C n A fr env m σ₀ ρ₀ s₀) (hn : s₀.heap.get? a = none)
    (x : Sit C n A fr env m σ ρ s) (p : Post C (exOf env) ρ₀ ρ s₀ s) (ha : a ∉ ρ) (himm : ∀ o, s.heap.get? a = some o → ¬ Imm o)
    (hk : ∀ b o, b ≠ a → s.heap.get? b = some o → s'.heap.get? b = some o) (ho : OR C (ρ ++ [a]) s'.heap o a) (hg : s'.gens = s.gens) (hos : s'.os = s.os) :
    Sit C n A fr env m (σ ++ [o]) (ρ ++ [a]) s' ∧ Post C (exOf env) ρ₀ (ρ ++ [a]) s₀ s' ∧ VR C (ρ ++ [a]) s'.heap (.ref σ.length) (.ref a) := by
  have hx : ¬ exOf env a := x₀.rel.not_ex_of_none hn
  have hB : C.B.get? a = none := by
    cases q : C.B.get? a with
    | none => rfl
    | some ob => have := x₀.rel.sr.base a ob q; rw [hn] at this; cases this
  have R := x.rel.adopt ha hx hB himm hk ho
  have p' : Post C (exOf env) ρ₀ (ρ ++ [a]) s₀ s' := by
    refine ⟨hg.trans p.gens, hos.trans p.os, fun i b e => getElem?_snoc_of (p.pre i b e), fun b hb hnb => ?_, fun b ob e h1 h2 => (p.keep b ob e h1 h2).trans fun o₁ e₁ => .inl (hk b o₁ (fun q => by subst q; rw [hn] at e; cases e) e₁)⟩
    rcases List.mem_append.mp hb with q | q
    · exact p.fresh b q hnb
    · rw [List.mem_singleton.mp q]; exact ⟨hn, hx⟩
  exact ⟨x₀.post p' R, p', .ref (by rw [show σ.length = ρ.length from x.rel.sr.len.symm]; simp)⟩

end Mine

end

section
open PySem PySem.W PyProof.Rows
set_option linter.unusedVariables false
namespace Mine

/-- the post of an expression -/
def PE (C : Ctx) (n : Nat) (A : Around) (fr : List Env) (env : Env) (m : Loc) (ρ : List Addr) (s : Shared) (Q : V → Store → Prop) (c : Value) (s' : Shared) : Prop :=
  ∃ v σ' ρ', Q v σ' ∧ VR C ρ' s'.heap v c ∧ Sit C n A fr env m σ' ρ' s' ∧ Post C (exOf env) ρ ρ' s s'
def PT (C : Ctx) (n : Nat) (A : Around) (fr : List Env) (env : Env) (m : Loc) (ρ : List Addr) (s : Shared) (Q : Bool → Store → Prop) (b : Bool) (s' : Shared) : Prop :=
  ∃ σ' ρ', Q b σ' ∧ Sit C n A fr env m σ' ρ' s' ∧ Post C (exOf env) ρ ρ' s s'
def PEs (C : Ctx) (n : Nat) (A : Around) (fr : List Env) (env : Env) (m : Loc) (ρ : List Addr) (s : Shared) (Q : List V → Store → Prop) (cs : List Value) (s' : Shared) : Prop :=
  ∃ vs σ' ρ', Q vs σ' ∧ VRs C ρ' s'.heap vs cs ∧ Sit C n A fr env m σ' ρ' s' ∧ Post C (exOf env) ρ ρ' s s'

theorem PE.after {C n A fr env m ρ ρ₁ s s₁ Q c s'} (x : PE C n A fr env m ρ₁ s₁ Q c s') (p : Post C (exOf env) ρ ρ₁ s s₁) : PE C n A fr env m ρ s Q c s' :=
  let ⟨v, σ', ρ', a, b, c, d⟩ := x; ⟨v, σ', ρ', a, b, c, p.trans d⟩
theorem PT.after {C n A fr env m ρ ρ₁ s s₁ Q c s'} (x : PT C n A fr env m ρ₁ s₁ Q c s') (p : Post C (exOf env) ρ ρ₁ s s₁) : PT C n A fr env m ρ s Q c s' :=
  let ⟨σ', ρ', a, c, d⟩ := x; ⟨σ', ρ', a, c, p.trans d⟩
theorem PEs.after {C n A fr env m ρ ρ₁ s s₁ Q c s'} (x : PEs C n A fr env m ρ₁ s₁ Q c s') (p : Post C (exOf env) ρ ρ₁ s s₁) : PEs C n A fr env m ρ s Q c s' :=
  let ⟨v, σ', ρ', a, b, c, d⟩ := x; ⟨v, σ', ρ', a, b, c, p.trans d⟩

def SoundE (C : Ctx) (n : Nat) (X : Store → Prop) (k : Kinds) (ast : Expr) (e : E) : Prop :=
  ∀ A fr env m σ ρ s Q, EnvOk k env → Sit C n A fr env m σ ρ s → wpE C n X e m σ Q →
    wpAny (model C.prog C.w) A (eval ast env) (PE C n A fr env m ρ s Q) (ExcP C fr X (exOf env) ρ s) s
def SoundT (C : Ctx) (n : Nat) (X : Store → Prop) (k : Kinds) (ast : Expr) (e : E) : Prop :=
  ∀ A fr env m σ ρ s Q, EnvOk k env → Sit C n A fr env m σ ρ s → wpT C n X e m σ Q →
    wpAny (model C.prog C.w) A (isTrue ast env (eval ast env)) (PT C n A fr env m ρ s Q) (ExcP C fr X (exOf env) ρ s) s

/-- the one way to go on behind an expression -/
theorem go_on {α : Type} {C : Ctx} {A : Around} {fr : List Env} {env : Env} {ρ ρ₁ : List Addr} {s s₁ : Shared} {X : Store → Prop} {t : Sem α} {Q Q' : α → Shared → Prop}
    (h : wpAny (model C.prog C.w) A t Q (ExcP C fr X (exOf env) ρ₁ s₁) s₁) (p : Post C (exOf env) ρ ρ₁ s s₁) (hf : FrOk C ρ s.heap fr)
    (hQ : ∀ a s', Q a s' → Q' a s') : wpAny (model C.prog C.w) A t Q' (ExcP C fr X (exOf env) ρ s) s₁ :=
  wpAny_mono h hQ fun _ _ x => x.after p hf

section
variable {C : Ctx} {n : Nat} {X : Store → Prop} {A : Around} {fr : List Env} {env : Env} {m : Loc} {σ : Store} {ρ : List Addr} {s : Shared} {k : Kinds}

theorem nameOk_eq {x : Str} (h : nameOk x = true) : Str.ofString x.toString = x ∧ (x == ("__debug__" : Str)) = false := by
  unfold nameOk at h
  simp only [Bool.and_eq_true, beq_iff_eq, bne_iff_ne, ne_eq] at h
  exact ⟨h.1, by simpa using h.2⟩

theorem load_loc (hk : EnvOk k env) (sit : Sit C n A fr env m σ ρ s) {x : Str} {v : V} (hx : Str.ofString x.toString = x) (hl : isLoc k x = true) (hv : m x.toString = some v)
    {E : Value → Shared → Prop} {Q : Value → Shared → Prop} (h : ∀ c, VR C ρ s.heap v c → Q c s) : wpAny (model C.prog C.w) A (loadName env x) Q E s := by
  have hkind : env.kindOf x = some .local ∨ env.kindOf x = some .cell := by
    unfold isLoc at hl
    split at hl
    · rename_i e; exact .inl (hk.loc _ e)
    · rename_i e; exact .inr (hk.cell _ e)
    · rename_i e; exact .inr (hk.free _ e)
    · cases hl
  rcases hkind with e | e
  · obtain ⟨mm, h1, h2⟩ := sit.rel.ns
    obtain ⟨c, h3, h4⟩ := h2 x.toString v hv (by rw [hx]; exact e)
    rw [hx] at h3
    exact wpAny_loadName_local hk.kind e h1 h3 (h c h4)
  · obtain ⟨a, c, h3, h4, h5⟩ := sit.rel.cellv x.toString v hv (by rw [hx]; exact e)
    rw [hx] at h3
    exact wpAny_loadName_cell hk.kind e h3 h4 (h c h5)

theorem Sit.setLocal (hk : EnvOk k env) (sit : Sit C n A fr env m σ ρ s) {x : String} {v : V} {c : Value} (hv : VR C ρ s.heap v c) {h' : Heap} {mm : Str → Option Value}
    (h1 : s.heap.Ns env.locals mm) (h2 : ∀ x v, m x = some v → env.kindOf (Str.ofString x) = some .local → ∃ c, mm (Str.ofString x) = some c ∧ VR C ρ s.heap v c)
    (hn : h'.Ns env.locals fun y => if y = Str.ofString x then some c else mm y) (hs : Heap.SameBut env.locals s.heap h') {tk : Nat} (hnc : env.kindOf (Str.ofString x) = some .local)
    (hinj : ∀ y, Str.ofString y = Str.ofString x → y = x) :
    Sit C n A fr env (upd m x v) σ ρ { s with heap := h', toks := tk } ∧ Post C (exOf env) ρ ρ s { s with heap := h', toks := tk } := by
  have imm : ∀ b o, s.heap.get? b = some o → Imm o → h'.get? b = some o := fun b o e hi => (hs.2 b fun q => sit.rel.ex_not_imm e hi (.inl q)).trans e
  have p : Post C (exOf env) ρ ρ s { s with heap := h', toks := tk } := ⟨rfl, rfl, fun _ _ e => e, fun _ h h' => absurd h h', fun b o e hb hx => .inl ((hs.2 b fun q => hx (.inl q)).trans e)⟩
  have own : ∀ b, b ∈ ρ → b ≠ env.locals := fun b hb q => sit.rel.locNew.2 (q ▸ hb)
  have R : Rel C env ⟨upd m x v, σ⟩ ρ h' := by
    refine ⟨⟨sit.rel.sr.len, fun i o a e1 e2 => (sit.rel.sr.obj i o a e1 e2).mono (fun _ _ e => e) imm fun o e => (hs.2 a (own a (List.mem_of_getElem? e2))).trans e, sit.rel.sr.inj, sit.rel.sr.new,
        fun b o e => (hs.2 b fun q => by rw [q, sit.rel.locNew.1] at e; cases e).trans (sit.rel.sr.base b o e)⟩, ⟨_, hn, fun y w e1 e2 => ?_⟩, fun nm a hm => ?_, fun y w e1 e2 => ?_, sit.rel.locNew, sit.rel.cellNew, sit.rel.apart⟩
    · simp only [upd] at e1
      split at e1
      · rename_i q; subst q; cases e1
        exact ⟨c, by simp, hv.mono (fun _ _ e => e) imm⟩
      · rename_i q
        obtain ⟨c', e3, e4⟩ := h2 y w e1 e2
        exact ⟨c', by rw [if_neg fun z => q (hinj y z)]; exact e3, e4.mono (fun _ _ e => e) imm⟩
    · obtain ⟨ov, hc⟩ := sit.rel.cell nm a hm
      exact ⟨ov, hc.sameBut hs (sit.rel.cellNew nm a hm).2.2⟩
    · simp only [upd] at e1
      split at e1
      · rename_i q; subst q; rw [hnc] at e2; cases e2
      · obtain ⟨a, c', e3, e4, e5⟩ := sit.rel.cellv y w e1 e2
        exact ⟨a, c', e3, e4.sameBut hs (sit.rel.cellNew _ a (mem_of_lookup e3)).2.2, e5.mono (fun _ _ e => e) imm⟩
  exact ⟨⟨sit.room, sit.frs, sit.fok.post p (sit.rel.fr_there R), R⟩, p⟩

theorem Sit.setCell (hk : EnvOk k env) (sit : Sit C n A fr env m σ ρ s) {x : String} {v : V} {c : Value} (hv : VR C ρ s.heap v c) {h' : Heap} {a : Addr}
    (ha : env.cells.lookup (Str.ofString x) = some a) (hn : h'.IsCell a (some c)) (hs : Heap.SameBut a s.heap h') {tk : Nat} (hnc : env.kindOf (Str.ofString x) = some .cell)
    (hinj : ∀ y, Str.ofString y = Str.ofString x → y = x) :
    Sit C n A fr env (upd m x v) σ ρ { s with heap := h', toks := tk } ∧ Post C (exOf env) ρ ρ s { s with heap := h', toks := tk } := by
  have hm := mem_of_lookup ha
  have hex : exOf env a := .inr ⟨_, hm⟩
  have imm : ∀ b o, s.heap.get? b = some o → Imm o → h'.get? b = some o := fun b o e hi => (hs.2 b fun q => sit.rel.ex_not_imm e hi (q ▸ hex)).trans e
  have p : Post C (exOf env) ρ ρ s { s with heap := h', toks := tk } := ⟨rfl, rfl, fun _ _ e => e, fun _ h h' => absurd h h', fun b o e hb hx => .inl ((hs.2 b fun q => hx (q ▸ hex)).trans e)⟩
  obtain ⟨c1, c2, c3⟩ := sit.rel.cellNew _ a hm
  have R : Rel C env ⟨upd m x v, σ⟩ ρ h' := by
    refine ⟨⟨sit.rel.sr.len, fun i o b e1 e2 => (sit.rel.sr.obj i o b e1 e2).mono (fun _ _ e => e) imm fun o e => (hs.2 b fun q => c2 (q ▸ List.mem_of_getElem? e2)).trans e, sit.rel.sr.inj, sit.rel.sr.new,
        fun b o e => (hs.2 b fun q => by rw [q, c1] at e; cases e).trans (sit.rel.sr.base b o e)⟩, ?_, fun nm b hb => ?_, fun y w e1 e2 => ?_, sit.rel.locNew, sit.rel.cellNew, sit.rel.apart⟩
    · obtain ⟨mm, h1, h2⟩ := sit.rel.ns
      refine ⟨mm, h1.sameBut hs (Ne.symm c3), fun y w e1 e2 => ?_⟩
      simp only [upd] at e1
      split at e1
      · rename_i q; subst q; rw [hnc] at e2; cases e2
      · obtain ⟨c', e3, e4⟩ := h2 y w e1 e2
        exact ⟨c', e3, e4.mono (fun _ _ e => e) imm⟩
    · by_cases hba : b = a
      · subst hba; exact ⟨_, hn⟩
      · obtain ⟨ov, hc⟩ := sit.rel.cell nm b hb
        exact ⟨ov, hc.sameBut hs hba⟩
    · simp only [upd] at e1
      split at e1
      · rename_i q; subst q; cases e1
        exact ⟨a, c, ha, hn, hv.mono (fun _ _ e => e) imm⟩
      · rename_i q
        obtain ⟨b, c', e3, e4, e5⟩ := sit.rel.cellv y w e1 e2
        have hba : b ≠ a := fun z => q (hinj y (sit.rel.apart _ _ _ (mem_of_lookup e3) (z ▸ hm)))
        exact ⟨b, c', e3, e4.sameBut hs hba, e5.mono (fun _ _ e => e) imm⟩
  exact ⟨⟨sit.room, sit.frs, sit.fok.post p (sit.rel.fr_there R), R⟩, p⟩
end

theorem ofString_inj {a b : String} (h : Str.ofString a = Str.ofString b) : a = b := by
  rw [Str.ofString_eq_toList, Str.ofString_eq_toList] at h
  have h1 : a.toList.map Char.toNat = b.toList.map Char.toNat := by
    have := congrArg (fun x => x.cps.toList) h
    simpa using this
  have h2 : a.toList = b.toList := List.map_inj_right (fun x y e => Char.ext (UInt32.toNat_inj.mp e)) |>.mp h1
  exact String.ext (by simpa using h2)

section
variable {C : Ctx} {n : Nat} {X : Store → Prop} {A : Around} {fr : List Env} {env : Env} {m : Loc} {σ : Store} {ρ : List Addr} {s : Shared} {k : Kinds}
theorem store_loc (hk : EnvOk k env) (sit : Sit C n A fr env m σ ρ s) {x : Str} {y : String} {v : V} {c : Value} (hl : trLoc k x = some y) (hv : VR C ρ s.heap v c)
    {E : Value → Shared → Prop} {Q : Unit → Shared → Prop} (h : ∀ s', Sit C n A fr env (upd m y v) σ ρ s' → Post C (exOf env) ρ ρ s s' → Q () s') : wpAny (model C.prog C.w) A (storeName env x c) Q E s := by
  unfold trLoc at hl
  split at hl
  · rename_i hn
    have hx := (nameOk_eq hn).1
    have key : y = x.toString ∧ (env.kindOf x = some .local ∨ env.kindOf x = some .cell) := by
      split at hl
      · rename_i e; cases hl; exact ⟨rfl, .inl (hk.loc _ e)⟩
      · rename_i e; cases hl; exact ⟨rfl, .inr (hk.cell _ e)⟩
      · cases hl
    obtain ⟨rfl, hkk⟩ := key
    rw [← hx] at hkk ⊢
    have hinj : ∀ y, Str.ofString y = Str.ofString x.toString → y = x.toString := fun y e => ofString_inj e
    rcases hkk with e | e
    · obtain ⟨mm, h1, h2⟩ := sit.rel.ns
      refine wpAny_storeName_local e h1 (fun h' hn hs => ?_) (by rw [hk.kind]; rfl)
      obtain ⟨a, b⟩ := sit.setLocal hk hv h1 h2 hn hs (tk := s.toks + 1) e hinj
      exact h _ a b
    · obtain ⟨a, ha⟩ := hk.cellAt _ e
      obtain ⟨ov, hc⟩ := sit.rel.cell _ a (mem_of_lookup ha)
      refine wpAny_storeName_cell hk.kind e ha hc fun h' hn hs => ?_
      obtain ⟨a, b⟩ := sit.setCell hk hv ha hn hs (tk := s.toks) e hinj
      exact h _ a b
  · cases hl
end

end Mine

end

section
open PySem PySem.W PyProof.Rows
set_option linter.unusedVariables false
set_option maxRecDepth 100000
namespace Mine

section
variable {C : Ctx} {n : Nat} {A : Around} {fr : List Env} {env : Env} {m : Loc} {σ : Store} {ρ : List Addr} {s : Shared} {E : Value → Shared → Prop} {Q : V → Store → Prop}

theorem PE.tok (sit : Sit C n A fr env m σ ρ s) {v : V} {c : Value} (h : Q v σ) (hv : VR C ρ s.heap v c) (t : Nat) : PE C n A fr env m ρ s Q c { s with toks := t } :=
  ⟨v, σ, ρ, h, hv, sit.tok t, .tok⟩
theorem PE.same (sit : Sit C n A fr env m σ ρ s) {v : V} {c : Value} (h : Q v σ) (hv : VR C ρ s.heap v c) : PE C n A fr env m ρ s Q c s :=
  ⟨v, σ, ρ, h, hv, sit, .refl⟩
theorem PE.int (sit : Sit C n A fr env m σ ρ s) {i : Int} (h : Q (.int i) σ) (u t : Nat) : PE C n A fr env m ρ s Q (.int i u) { s with toks := t } := PE.tok sit h (.int i u) t
theorem PE.bool (sit : Sit C n A fr env m σ ρ s) {b : Bool} (h : Q (.bool b) σ) : PE C n A fr env m ρ s Q (.bool b) s := PE.same sit h (.bool b)
/-- a new list -/
theorem PE.newList (sit : Sit C n A fr env m σ ρ s) {xs : List V} {cs : List Value} (hv : VRs C ρ s.heap xs cs) (h : Q (.ref σ.length) (σ ++ [.list xs])) :
    PE C n A fr env m ρ s Q (.ref s.heap.objs.size) { s with heap := s.heap.push { cls := .type "list", data := .seq cs.toArray } } := by
  have hk : ∀ b o, s.heap.get? b = some o → (s.heap.push { cls := .type "list", data := .seq cs.toArray }).get? b = some o := fun b o e => Heap.get?_push_of_some _ e
  obtain ⟨a, b, c⟩ := sit.alloc (s' := { s with heap := s.heap.push { cls := .type "list", data := .seq cs.toArray } }) (o := .list xs) (Heap.get?_none_of_le (Nat.le_refl _)) hk
    (.list ⟨_, _, Heap.get?_push_size _ rfl, rfl, rfl, rfl⟩ (hv.mono (fun _ _ e => getElem?_snoc_of e) fun b o e _ => hk b o e)) rfl rfl
  exact ⟨_, _, _, h, c, a, b⟩

theorem intBits_le {a : Int} (h : a.natAbs < 2 ^ 64) : Builtin.Int.intBits a ≤ 64 := by
  unfold Builtin.Int.intBits
  split
  · exact Nat.zero_le _
  · rename_i hne
    have h0 : a.natAbs ≠ 0 := by simpa using hne
    have := (Nat.log2_lt h0).mpr h
    omega

theorem isList_obj {h : Heap} {a : Addr} {cs : List Value} (x : h.IsList a cs.toArray) : ∃ d n sl, h.get? a = some ⟨.type "list", d, .seq cs.toArray n, sl⟩ := by
  obtain ⟨⟨c, d, dt, sl⟩, ho, hc, n, hd⟩ := x
  dsimp only at hc hd; subst hc hd
  exact ⟨d, n, sl, ho⟩

theorem bin_sound (op : Operator) (sit : Sit C n A fr env m σ ρ s) {v w : V} {c d : Value} (hv : VR C ρ s.heap v c) (hw : VR C ρ s.heap w d) (h : wpBin op v w σ Q) :
    wpAny (model C.prog C.w) A (binaryOp op c d) (PE C n A fr env m ρ s Q) E s := by
  unfold wpBin at h
  split at h
  · cases hv; cases hw; exact PyProof.Rows.add_int (PE.int sit h _ _)
  · cases hv; cases hw; exact PyProof.Rows.sub_int (PE.int sit h _ _)
  · cases hv; cases hw
    exact PySem.P.mul_int (PE.int sit h.2 _ _) (h.1.elim (fun q => IntMulOk.of_left (intBits_le q)) fun q => IntMulOk.of_right (intBits_le q))
  · rename_i a b; cases hv; cases hw
    refine PyProof.Rows.floordiv_int (by omega) ?_ (.inl (PyProof.noPylong_small (by omega)))
    rw [Int.fdiv_eq_ediv_of_nonneg _ (by omega)]
    exact PE.int sit h.2 _ _
  · rename_i a b; cases hv; cases hw
    refine PyProof.Rows.mod_int' (by omega) ?_
    rw [Int.fmod_eq_emod_of_nonneg _ (by omega)]
    exact PE.int sit h.2 _ _
  · cases hv; cases hw; exact PyProof.Rows.pow_int_small h.1.1 h.1.2.1 h.1.2.2 (PE.int sit h.2 _ _)
  · cases hv; cases hw; exact PyProof.Rows.lshift_int_small h.1.1 h.1.2.1 h.1.2.2 (PE.int sit h.2 _ _)
  · rename_i a b; cases hv; cases hw
    refine PyProof.Rows.rshift_int h.1 ?_
    rw [Int.fdiv_eq_ediv_of_nonneg _ (Int.le_of_lt (Int.pow_pos (by decide)))]
    exact PE.int sit h.2 _ _
  · cases hv; cases hw; exact PyProof.Rows.and_int (PE.int sit h _ _)
  · cases hv; cases hw; exact PyProof.Rows.or_int (PE.int sit h _ _)
  · cases hv; cases hw; exact PyProof.Rows.xor_int (PE.int sit h _ _)
  · rename_i i x
    obtain ⟨y, h1, h2, h3⟩ := h
    cases hw; rename_i u
    cases hv; rename_i l e1
    obtain ⟨a', e2, r⟩ := sit.rel.sr.addr h1
    rw [e1] at e2; cases e2
    cases r with
    | list hl hvs =>
      rename_i cs
      cases hvs with
      | cons hy hnil =>
        cases hnil
        rename_i cy
        obtain ⟨d, k, sl, ho⟩ := isList_obj hl.isList
        refine wpAny_binaryOp_repeat_ref (T := "list") (U := "int") (by decide) ⟨_, ho, rfl⟩ (fun s' => typeIs_int s' x u) noFill_list_mul PySem.F.fills_int_mul PySem.F.slot_int_rmul repeat_list PySem.F.slot_int_index.lookup
          (call_meets PySem.F.slot_int_rmul (typeIs_int s x u) PySem.F.entry_int_rmul (PySem.F.args_int_rmul_2 _ _) (lm_int_rmul_list_any x u l [cy].toArray k d sl)
            ⟨ho, rfl, ⟨_, ho, rfl⟩, call_meets PySem.F.slot_list_mul ⟨_, ho, rfl⟩ PySem.F.entry_list_mul (PySem.F.args_list_mul_2 _ _)
              (lm_list_mul_any l [cy].toArray k d sl x u (by simp [Builtin.List.listFitsIndex]; omega) (by simp; omega) (by simp [Builtin.List.listTooLong, sizeLine]; omega))
              ⟨ho, ?_⟩⟩)
        rw [listMul_foldl_if]
        have e : (List.replicate x.toNat [cy].toArray.toList).flatten = List.replicate x.toNat cy := by
          simp
        rw [e]
        exact PE.newList sit (VRs.replicate hy _) h3
  · rename_i i j
    obtain ⟨xs, ys, h1, h2, h3, h4⟩ := h
    cases hv; rename_i l e1
    cases hw; rename_i b e2
    obtain ⟨a', e1', r⟩ := sit.rel.sr.addr h1
    rw [e1] at e1'; cases e1'
    obtain ⟨b', e2', r'⟩ := sit.rel.sr.addr h2
    rw [e2] at e2'; cases e2'
    cases r with
    | list hl hvs => cases r' with
      | list hb hws =>
        rename_i cs ds
        obtain ⟨dd, k, sl, ho⟩ := isList_obj hl.isList
        obtain ⟨dd2, k2, sl2, ho2⟩ := isList_obj hb.isList
        have e : cs.toArray ++ ds.toArray = (cs ++ ds).toArray := by simp
        refine concat_meets ⟨_, ho, rfl⟩ ⟨_, ho2, rfl⟩ noFill_list_add seq_list_add PySem.F.slot_list_add PySem.F.entry_list_add (PySem.F.args_list_add_2 _ _)
          (list_addW l b cs.toArray ds.toArray k k2 dd dd2 sl sl2 (by have := hvs.length; have := hws.length; rw [sizeLine_eq]; simp; omega)) ⟨ho, ho2, ?_⟩
        rw [e]
        exact PE.newList sit (hvs.append hws) h4
  · cases h
end

end Mine

end

section
open PySem PySem.W PyProof.Rows PyProof.V PySem.Spec PySem.SeqAt
set_option linter.unusedVariables false
set_option maxRecDepth 100000
namespace Mine

section
variable {C : Ctx} {n : Nat} {A : Around} {fr : List Env} {env : Env} {m : Loc} {σ : Store} {ρ : List Addr} {s : Shared} {E : Value → Shared → Prop} {Q : V → Store → Prop}

theorem plain_at (sit : Sit C n A fr env m σ ρ s) {i : Nat} {xs : List V} {l : Addr} (h : σ[i]? = some (.list xs)) (e : ρ[i]? = some l) : ∃ cs, PlainL s.heap l cs.toArray ∧ VRs C ρ s.heap xs cs := by
  obtain ⟨a, e', r⟩ := sit.rel.sr.addr h
  rw [e] at e'; cases e'
  cases r with
  | list hl hv => exact ⟨_, hl, hv⟩

theorem list_at (sit : Sit C n A fr env m σ ρ s) {i : Nat} {xs : List V} {l : Addr} (h : σ[i]? = some (.list xs)) (e : ρ[i]? = some l) : ∃ cs, s.heap.IsList l cs.toArray ∧ VRs C ρ s.heap xs cs :=
  let ⟨cs, a, b⟩ := plain_at sit h e; ⟨cs, a.isList, b⟩

theorem decide_beq {a b : Int} : (a == b) = decide (a = b) := rfl
theorem any_beq (ns : List Int) (k : Int) : ns.any (· == k) = decide (k ∈ ns) := by
  rw [Bool.eq_iff_iff]
  simp

theorem reads_of_tup {h : Heap} {a : Addr} {vs : List Value} {ns : List Int} (hl : h.IsTuple a vs.toArray) (hi : IntsAre vs ns) : Reads h (.ref a) (.tuple (ns.map PyData.int)) [] := by
  obtain ⟨o, ho, hc, n, hd⟩ := hl
  exact Reads.tuple ho hc hd (by simpa using readsAll_of_ints hi)
theorem shaped_tup (ns : List Int) : shaped (.tuple (ns.map PyData.int)) = true := by
  have h1 := PySem.W.depthAll_ints ns
  have h2 : PyData.depth (.tuple (ns.map PyData.int)) ≤ 64 := by simp only [PyData.depth]; omega
  show (PyData.canLay0 (.tuple (ns.map PyData.int)) && decide (PyData.depth (.tuple (ns.map PyData.int)) ≤ 64)) = true
  rw [Bool.and_eq_true]
  exact ⟨by simp only [PyData.canLay0]; exact canLayAll0_ints ns, decide_eq_true h2⟩

theorem mem_sound (sit : Sit C n A fr env m σ ρ s) {a : Int} {t : Tok} {w : V} {d : Value} (hw : VR C ρ s.heap w d) {b : Bool} (h : memV σ a w = some b) {Q : Value → Shared → Prop} :
    (Q (.bool b) s → wpAny (model C.prog C.w) A (compareOp .In (.int a t) d) Q E s) ∧ (Q (.bool (!b)) s → wpAny (model C.prog C.w) A (compareOp .NotIn (.int a t) d) Q E s) := by
  unfold memV at h
  split at h
  · rename_i xs
    split at h
    · rename_i l hl
      cases h
      rw [intsOf_eq hl] at hw
      cases hw; rename_i ta cs ht hvs
      have hi := hvs.ints
      have hf : ∀ y, y ∈ cs.toArray → EqAt A.in1 s y (.int a t) (isInt a y) := fun y hy => by
        have : ∃ n u, y = Value.int n u := by
          have hy' : y ∈ cs := by simpa using hy
          clear hvs ht hl
          induction hi with
          | nil => cases hy'
          | cons k u r ih =>
            rcases List.mem_cons.mp hy' with rfl | hy'
            · exact ⟨_, _, rfl⟩
            · exact ih (by simpa using hy') hy'
        obtain ⟨n, u, rfl⟩ := this
        exact EqAt.int_int n u a t
      have hany : cs.toArray.any (isInt a) = decide (a ∈ l) := by
        rw [← Array.any_toList, show cs.toArray.toList = cs from rfl, any_isInt a hi, any_beq]
      exact ⟨fun q => in_tupleAt (isInt a) ht hf (by rw [hany]; exact q), fun q => notIn_tupleAt (isInt a) ht hf (by rw [hany]; exact q)⟩
    · cases h
  · rename_i i
    split at h
    · rename_i xs hs
      split at h
      · rename_i l hl
        cases h
        cases hw; rename_i la e
        obtain ⟨cs, h1, h2⟩ := list_at sit hs e
        rw [intsOf_eq hl] at h2
        have hi := h2.ints
        exact ⟨fun q => in_list_ints h1 hi (by rw [any_beq]; exact q), fun q => notin_list_ints h1 hi (by rw [any_beq]; exact q)⟩
      · cases h
    · cases h
  · cases h

theorem cmp_sound (op : CmpOp) (sit : Sit C n A fr env m σ ρ s) {v w : V} {c d : Value} (hv : VR C ρ s.heap v c) (hw : VR C ρ s.heap w d) {b : Bool} (h : cmpV σ op v w = some b) {Q : Value → Shared → Prop} (hQ : Q (.bool b) s) :
    wpAny (model C.prog C.w) A (compareOp op c d) Q E s := by
  have hu : A.units + 64 < cLine := by have := sit.room.units; omega
  have hu' : A.units < cLine := by omega
  unfold cmpV at h
  split at h
  · unfold eqV at h
    split at h
    · cases h; cases hv; cases hw; exact PyProof.Rows.eq_int hQ
    · cases h; cases hv; cases hw; refine PyProof.Rows.eq_bool ?_; rename_i a b
      rw [show (a == b) = decide (a = b) from by cases a <;> cases b <;> rfl]; exact hQ
    · split at h
      · rename_i xs ys a b h1 h2
        cases h
        rw [intsOf_eq h1] at hv; rw [intsOf_eq h2] at hw
        cases hv; cases hw; rename_i ta cs ht hvs tb ds ht' hvs'
        have hi := hvs.ints; have hi' := hvs'.ints
        exact eq_dataH_same (reads_of_tup ht hi) (reads_of_tup ht' hi') (shaped_tup a) (shaped_tup b) hu (by simp only [noMix]; exact noMix_ints a b) (by simp only [PySem.Spec.same]; rw [same_ints]; exact hQ)
      · cases h
    · split at h
      · rename_i i j xs ys h1 h2
        cases hv; cases hw; rename_i la e1 lb e2
        obtain ⟨cs, hl, hvs⟩ := list_at sit h1 e1
        obtain ⟨ds, hl', hvs'⟩ := list_at sit h2 e2
        split at h
        · rename_i he
          cases h
          obtain rfl : ys = [] := by simpa using he
          cases hvs'
          cases xs with
          | nil => cases hvs; exact eq_intsK hl .nil hl' .nil hu (by simpa using hQ)
          | cons x xs =>
            have hne := hvs.length
            refine eq_list_lengthsAt hl hl' (by simp at hne ⊢; intro q; rw [q] at hne; simp at hne) hu' (by simpa using hQ)
        · split at h
          · rename_i a b h3 h4
            cases h
            rw [intsOf_eq h3] at hvs; rw [intsOf_eq h4] at hvs'
            exact eq_intsK hl hvs.ints hl' hvs'.ints hu hQ
          · cases h
      · cases h
    · cases h
  · unfold neV at h
    split at h
    · cases h; cases hv; cases hw; exact PyProof.Rows.ne_int hQ
    · cases h; cases hv; cases hw; refine PyProof.Rows.ne_bool ?_; rename_i a b
      rw [show (a != b) = !decide (a = b) from by cases a <;> cases b <;> rfl]; exact hQ
    · split at h
      · rename_i i j xs ys h1 h2
        split at h
        · rename_i a b h3 h4
          cases h
          cases hv; cases hw; rename_i la e1 lb e2
          obtain ⟨cs, hl, hvs⟩ := list_at sit h1 e1
          obtain ⟨ds, hl', hvs'⟩ := list_at sit h2 e2
          rw [intsOf_eq h3] at hvs; rw [intsOf_eq h4] at hvs'
          exact ne_intsK hl hvs.ints hl' hvs'.ints hu hQ
        · cases h
      · cases h
    · cases h
  · cases h; cases hv; cases hw; exact PyProof.Rows.lt_int hQ
  · cases h; cases hv; cases hw; exact PyProof.Rows.le_int hQ
  · cases h; cases hv; cases hw; exact PyProof.Rows.gt_int hQ
  · cases h; cases hv; cases hw; exact PyProof.Rows.ge_int hQ
  · cases hw
    unfold isNoneV at h
    split at h <;> first | cases h | skip
    · cases hv; exact wpAny_is_self rfl hQ
    · cases hv; exact wpAny_is_other rfl (by simp) hQ
    · cases hv; exact wpAny_is_other rfl (by simp) hQ
    · cases hv; exact wpAny_is_other rfl (by simp) hQ
  · cases hv; exact (mem_sound sit hw h).1 hQ
  · split at h
    · rename_i r hr
      cases h; cases hv; exact (mem_sound sit hw hr).2 hQ
    · cases h
  · cases h

theorem truth_sound {v : V} {c : Value} {h : Heap} (hv : VR C ρ h v c) {b : Bool} (e : truthV v = some b) {Q : Bool → Shared → Prop} (hQ : Q b s) : wpAny (model C.prog C.w) A (truthy c) Q E s := by
  unfold truthV at e
  split at e
  · cases e; cases hv; exact wpAny_truthy_bool hQ
  · cases e; cases hv; rename_i i t
    refine PyProof.Rows.truthy_int ?_
    rw [show (i != 0) = decide (i ≠ 0) from by by_cases q : i = 0 <;> simp [q]]; exact hQ
  · cases e
end

end Mine

end

section
open PySem PySem.W PyProof.Rows
set_option linter.unusedVariables false
set_option maxRecDepth 100000
namespace Mine

section
variable {C : Ctx} {n : Nat} {X : Store → Prop} {k : Kinds}

theorem SoundE.cint (i : Int) (kd : Nat) (pos : Pos) : SoundE C n X k (.Constant (.int i) kd pos) (.cint i) := fun A fr env m σ ρ s Q hk sit h => by
  rw [wpE] at h
  exact wpAny_Constant_int (PE.int sit h _ _)
theorem SoundE.cbool (b : Bool) (kd : Nat) (pos : Pos) : SoundE C n X k (.Constant (.bool b) kd pos) (.cbool b) := fun A fr env m σ ρ s Q hk sit h => by
  rw [wpE] at h
  exact wpAny_Constant_bool (PE.bool sit h)
theorem SoundE.cnone (kd : Nat) (pos : Pos) : SoundE C n X k (.Constant .none kd pos) .cnone := fun A fr env m σ ρ s Q hk sit h => by
  rw [wpE] at h
  exact PySem.wpAny_Constant_none (PE.same sit h .none)
theorem SoundE.cstr {x : Str} (hx : Str.ofString x.toString = x) (kd : Nat) (pos : Pos) : SoundE C n X k (.Constant (.str x) kd pos) (.cstr x.toString) := fun A fr env m σ ρ s Q hk sit h => by
  rw [wpE] at h
  refine wpAny_Constant_str (PE.tok sit h ?_ _)
  have := VR.str (C := C) (ρ := ρ) (h := s.heap) x.toString s.toks
  rwa [hx] at this
theorem SoundE.loc {x : Str} (hx : nameOk x = true) (hl : isLoc k x = true) (pos : Pos) : SoundE C n X k (.Name x pos) (.loc x.toString) := fun A fr env m σ ρ s Q hk sit h => by
  rw [wpE] at h
  obtain ⟨v, h1, h2⟩ := h
  exact wpAny_Name (load_loc hk sit (nameOk_eq hx).1 hl h1 fun c hc => PE.same sit h2 hc) (nameOk_eq hx).2
theorem load_globAt {A : Around} {fr env m σ ρ} {s : Shared} (hk : EnvOk k env) (sit : Sit C n A fr env m σ ρ s) {x : Str} (hx : Str.ofString x.toString = x) {c : Value} (hg : GlobAt C x.toString c)
    {E : Value → Shared → Prop} {Q : Value → Shared → Prop} (h : Q c s) : wpAny (model C.prog C.w) A (loadGlobal env x) Q E s := by
  obtain ⟨mg, mb, h1, h2, h3⟩ := hg
  rw [hx] at h3
  have g1 : s.heap.Ns env.globals mg := by rw [hk.globals]; exact h1.keeps sit.rel.sr.base
  have g2 : s.heap.Ns env.builtins mb := by rw [hk.builtins]; exact h2.keeps sit.rel.sr.base
  rcases h3 with h3 | ⟨h3, h4⟩
  · exact Calls.loadGlobal_global g1 h3 h
  · exact Calls.loadGlobal_builtin g1 h3 g2 h4 h
theorem SoundE.glob (OK : C.Ok) {x : Str} (hx : nameOk x = true) (hl : k x = some .globalImplicit) (pos : Pos) : SoundE C n X k (.Name x pos) (.glob x.toString) := fun A fr env m σ ρ s Q hk sit h => by
  rw [wpE] at h
  obtain ⟨v, h1, h2⟩ := h
  obtain ⟨c, h3, h4⟩ := OK.glb _ _ h1
  refine Calls.Name_function_global hk.kind (hk.glob _ hl) (load_globAt hk sit (nameOk_eq hx).1 h3 ?_) (nameOk_eq hx).2
  exact PE.same sit h2 (h4.mono (fun i a e => by simp at e) fun b o e _ => sit.rel.sr.base b o e)

theorem SoundE.bin {l r : Expr} {a b : E} (op : Operator) (pos : Pos) (ha : SoundE C n X k l a) (hb : SoundE C n X k r b) : SoundE C n X k (.BinOp l op r pos) (.bin op a b) := fun A fr env m σ ρ s Q hk sit h => by
  rw [wpE] at h
  refine wpAny_BinOp (wpAny_mono (ha _ _ _ _ _ _ _ _ hk sit h) (fun c s₁ ⟨v, σ₁, ρ₁, q, hv, sit₁, p₁⟩ => ?_) fun _ _ x => x)
  refine go_on (hb _ _ _ _ _ _ _ _ hk sit₁ q) p₁ sit.fok (fun d s₂ ⟨w, σ₂, ρ₂, q₂, hw, sit₂, p₂⟩ => ?_)
  exact wpAny_mono (bin_sound op sit₂ (hv.post sit₁.rel p₂) hw q₂) (fun _ _ x => (x.after p₂).after p₁) fun _ _ x => x

theorem SoundE.neg {l : Expr} {a : E} (pos : Pos) (ha : SoundE C n X k l a) : SoundE C n X k (.UnaryOp .USub l pos) (.neg a) := fun A fr env m σ ρ s Q hk sit h => by
  rw [wpE] at h
  refine UnaryOp_ (wpAny_mono (ha _ _ _ _ _ _ _ _ hk sit h) (fun c s₁ ⟨v, σ₁, ρ₁, ⟨i, e, q⟩, hv, sit₁, p₁⟩ => ?_) fun _ _ x => x)
  subst e; cases hv
  exact PyProof.Rows.neg_int ((PE.int sit₁ q _ _).after p₁)
theorem SoundE.inv {l : Expr} {a : E} (pos : Pos) (ha : SoundE C n X k l a) : SoundE C n X k (.UnaryOp .Invert l pos) (.inv a) := fun A fr env m σ ρ s Q hk sit h => by
  rw [wpE] at h
  refine UnaryOp_ (wpAny_mono (ha _ _ _ _ _ _ _ _ hk sit h) (fun c s₁ ⟨v, σ₁, ρ₁, ⟨i, e, q⟩, hv, sit₁, p₁⟩ => ?_) fun _ _ x => x)
  subst e; cases hv
  exact PyProof.Rows.invert_int ((PE.int sit₁ q _ _).after p₁)
theorem SoundE.not {l : Expr} {a : E} (pos : Pos) (ha : SoundE C n X k l a) : SoundE C n X k (.UnaryOp .Not l pos) (.not a) := fun A fr env m σ ρ s Q hk sit h => by
  rw [wpE] at h
  refine UnaryOp_ (wpAny_mono (ha _ _ _ _ _ _ _ _ hk sit h) (fun c s₁ ⟨v, σ₁, ρ₁, ⟨b, e, q⟩, hv, sit₁, p₁⟩ => ?_) fun _ _ x => x)
  exact PyProof.Rows.not_of (truth_sound hv e ((PE.bool sit₁ q).after p₁))

theorem behindInMarks_of {op : CmpOp} {e : Expr} (h : isSetE e = false) : behindInMarks op e = false := by
  cases e <;> first | rfl | (simp [isSetE] at h)

theorem SoundE.cmp {l r : Expr} {a b : E} (op : CmpOp) (pos : Pos) (hs : isSetE r = false) (ha : SoundE C n X k l a) (hb : SoundE C n X k r b) : SoundE C n X k (.Compare l [op] [r] pos) (.cmp op a b) := fun A fr env m σ ρ s Q hk sit h => by
  rw [wpE] at h
  refine wpAny_Compare1 (wpAny_mono (ha _ _ _ _ _ _ _ _ hk sit h) (fun c s₁ ⟨v, σ₁, ρ₁, q, hv, sit₁, p₁⟩ => ?_) fun _ _ x => x) (behindInMarks_of hs)
  refine go_on (hb _ _ _ _ _ _ _ _ hk sit₁ q) p₁ sit.fok (fun d s₂ ⟨w, σ₂, ρ₂, ⟨r, e, q₂⟩, hw, sit₂, p₂⟩ => ?_)
  exact cmp_sound op sit₂ (hv.post sit₁.rel p₂) hw e (((PE.bool sit₂ q₂).after p₂).after p₁)

/-- a test of an expression that is no not, and, or, if -/
theorem SoundT.cmp {l r : Expr} {a b : E} (op : CmpOp) (pos : Pos) (hs : isSetE r = false) (ha : SoundE C n X k l a) (hb : SoundE C n X k r b) : SoundT C n X k (.Compare l [op] [r] pos) (.cmp op a b) := fun A fr env m σ ρ s Q hk sit h => by
  rw [wpT, wpE] at h
  refine wpAny_isTrue_Compare1 (wpAny_mono (ha _ _ _ _ _ _ _ _ hk sit h) (fun c s₁ ⟨v, σ₁, ρ₁, q, hv, sit₁, p₁⟩ => ?_) fun _ _ x => x) (behindInMarks_of hs)
  refine go_on (hb _ _ _ _ _ _ _ _ hk sit₁ q) p₁ sit.fok (fun d s₂ ⟨w, σ₂, ρ₂, ⟨r, e, b, eb, q₂⟩, hw, sit₂, p₂⟩ => ?_)
  cases eb
  exact cmp_sound op sit₂ (hv.post sit₁.rel p₂) hw e (wpAny_truthy_bool ⟨_, _, q₂, sit₂, p₁.trans p₂⟩)
  all_goals simp

theorem SoundT.not {l : Expr} {a : E} (pos : Pos) (ha : SoundT C n X k l a) : SoundT C n X k (.UnaryOp .Not l pos) (.not a) := fun A fr env m σ ρ s Q hk sit h => by
  rw [wpT] at h
  exact isTrue_not (wpAny_mono (ha _ _ _ _ _ _ _ _ hk sit h) (fun b s' x => x) fun _ _ x => x)

def All2 {α β : Type} (P : α → β → Prop) : List α → List β → Prop
  | [], [] => True
  | a :: as, b :: bs => P a b ∧ All2 P as bs
  | _, _ => False
theorem All2.of_trList {f : Expr → Option E} {P : Expr → E → Prop} (hf : ∀ a e, f a = some e → P a e) : ∀ {as : List Expr} {es : List E}, trList f as = some es → All2 P as es
  | [], es, h => by simp only [trList] at h; cases h; trivial
  | a :: as, es, h => by
    simp only [trList] at h
    split at h
    · rename_i e r h1 h2; cases h; exact ⟨hf _ _ h1, All2.of_trList hf h2⟩
    · cases h

theorem SoundE.all {es : List E} (pos : Pos) : ∀ {as : List Expr}, as ≠ [] → All2 (SoundE C n X k) as es → SoundE C n X k (.BoolOp .And as pos) (.all es) := by
  induction es with
  | nil => intro as h0 h; cases as with
    | nil => exact absurd rfl h0
    | cons a as => exact h.elim
  | cons e es ih =>
    intro as h0 h
    cases as with
    | nil => exact h.elim
    | cons a as =>
      obtain ⟨h1, h2⟩ := h
      cases as with
      | nil =>
        cases es with
        | nil =>
          intro A fr env m σ ρ s Q hk sit h
          rw [wpE, wpAll] at h
          exact BoolOp_one (h1 _ _ _ _ _ _ _ _ hk sit h)
        | cons e' es => exact h2.elim
      | cons a' as =>
        cases es with
        | nil => exact h2.elim
        | cons e' es =>
          intro A fr env m σ ρ s Q hk sit h
          rw [wpE, wpAll] at h
          · refine BoolOp_and (wpAny_mono (h1 _ _ _ _ _ _ _ _ hk sit h) (fun c s₁ ⟨v, σ₁, ρ₁, ⟨b, e, q⟩, hv, sit₁, p₁⟩ => ?_) fun _ _ x => x)
            refine truth_sound hv e ?_
            cases b with
            | true => exact go_on (ih (List.cons_ne_nil _ _) h2 _ _ _ _ _ _ _ _ hk sit₁ (by rw [wpE]; exact q)) p₁ sit.fok fun _ _ x => x.after p₁
            | false => exact ⟨v, σ₁, ρ₁, q, hv, sit₁, p₁⟩
          · simp

theorem SoundE.any {es : List E} (pos : Pos) : ∀ {as : List Expr}, as ≠ [] → All2 (SoundE C n X k) as es → SoundE C n X k (.BoolOp .Or as pos) (.any es) := by
  induction es with
  | nil => intro as h0 h; cases as with
    | nil => exact absurd rfl h0
    | cons a as => exact h.elim
  | cons e es ih =>
    intro as h0 h
    cases as with
    | nil => exact h.elim
    | cons a as =>
      obtain ⟨h1, h2⟩ := h
      cases as with
      | nil =>
        cases es with
        | nil =>
          intro A fr env m σ ρ s Q hk sit h
          rw [wpE, wpAnyL] at h
          exact BoolOp_one (h1 _ _ _ _ _ _ _ _ hk sit h)
        | cons e' es => exact h2.elim
      | cons a' as =>
        cases es with
        | nil => exact h2.elim
        | cons e' es =>
          intro A fr env m σ ρ s Q hk sit h
          rw [wpE, wpAnyL] at h
          · refine BoolOp_or (wpAny_mono (h1 _ _ _ _ _ _ _ _ hk sit h) (fun c s₁ ⟨v, σ₁, ρ₁, ⟨b, e, q⟩, hv, sit₁, p₁⟩ => ?_) fun _ _ x => x)
            refine truth_sound hv e ?_
            cases b with
            | false => exact go_on (ih (List.cons_ne_nil _ _) h2 _ _ _ _ _ _ _ _ hk sit₁ (by rw [wpE]; exact q)) p₁ sit.fok fun _ _ x => x.after p₁
            | true => exact ⟨v, σ₁, ρ₁, q, hv, sit₁, p₁⟩
          · simp

theorem SoundT.all {es : List E} (pos : Pos) : ∀ {as : List Expr}, All2 (SoundT C n X k) as es → SoundT C n X k (.BoolOp .And as pos) (.all es) := by
  induction es with
  | nil => intro as h; cases as with
    | nil =>
      intro A fr env m σ ρ s Q hk sit h
      rw [wpT, wpTAll] at h
      exact isTrue_and_nil ⟨_, _, h, sit, .refl⟩
    | cons a as => exact h.elim
  | cons e es ih =>
    intro as h
    cases as with
    | nil => exact h.elim
    | cons a as =>
      obtain ⟨h1, h2⟩ := h
      intro A fr env m σ ρ s Q hk sit h
      rw [wpT, wpTAll] at h
      refine isTrue_and (wpAny_mono (h1 _ _ _ _ _ _ _ _ hk sit h) (fun b s₁ ⟨σ₁, ρ₁, q, sit₁, p₁⟩ => ?_) fun _ _ x => x)
      cases b with
      | true => exact go_on (ih h2 _ _ _ _ _ _ _ _ hk sit₁ (by rw [wpT]; exact q)) p₁ sit.fok fun _ _ x => x.after p₁
      | false => exact ⟨σ₁, ρ₁, q, sit₁, p₁⟩
theorem SoundT.any {es : List E} (pos : Pos) : ∀ {as : List Expr}, All2 (SoundT C n X k) as es → SoundT C n X k (.BoolOp .Or as pos) (.any es) := by
  induction es with
  | nil => intro as h; cases as with
    | nil =>
      intro A fr env m σ ρ s Q hk sit h
      rw [wpT, wpTAny] at h
      exact isTrue_or_nil ⟨_, _, h, sit, .refl⟩
    | cons a as => exact h.elim
  | cons e es ih =>
    intro as h
    cases as with
    | nil => exact h.elim
    | cons a as =>
      obtain ⟨h1, h2⟩ := h
      intro A fr env m σ ρ s Q hk sit h
      rw [wpT, wpTAny] at h
      refine isTrue_or (wpAny_mono (h1 _ _ _ _ _ _ _ _ hk sit h) (fun b s₁ ⟨σ₁, ρ₁, q, sit₁, p₁⟩ => ?_) fun _ _ x => x)
      cases b with
      | false => exact go_on (ih h2 _ _ _ _ _ _ _ _ hk sit₁ (by rw [wpT]; exact q)) p₁ sit.fok fun _ _ x => x.after p₁
      | true => exact ⟨σ₁, ρ₁, q, sit₁, p₁⟩

theorem SoundE.ite {t b o : Expr} {t' b' o' : E} (pos : Pos) (ht : SoundT C n X k t t') (hb : SoundE C n X k b b') (ho : SoundE C n X k o o') : SoundE C n X k (.IfExp t b o pos) (.ite t' b' o') := fun A fr env m σ ρ s Q hk sit h => by
  rw [wpE] at h
  refine IfExp_ (wpAny_mono (ht _ _ _ _ _ _ _ _ hk sit h) (fun c s₁ ⟨σ₁, ρ₁, q, sit₁, p₁⟩ => ?_) fun _ _ x => x)
  cases c with
  | true => exact go_on (hb _ _ _ _ _ _ _ _ hk sit₁ q) p₁ sit.fok fun _ _ x => x.after p₁
  | false => exact go_on (ho _ _ _ _ _ _ _ _ hk sit₁ q) p₁ sit.fok fun _ _ x => x.after p₁
theorem SoundT.ite {t b o : Expr} {t' b' o' : E} (pos : Pos) (ht : SoundT C n X k t t') (hb : SoundT C n X k b b') (ho : SoundT C n X k o o') : SoundT C n X k (.IfExp t b o pos) (.ite t' b' o') := fun A fr env m σ ρ s Q hk sit h => by
  rw [wpT] at h
  refine isTrue_IfExp (wpAny_mono (ht _ _ _ _ _ _ _ _ hk sit h) (fun c s₁ ⟨σ₁, ρ₁, q, sit₁, p₁⟩ => ?_) fun _ _ x => x)
  cases c with
  | true => exact go_on (hb _ _ _ _ _ _ _ _ hk sit₁ q) p₁ sit.fok fun _ _ x => x.after p₁
  | false => exact go_on (ho _ _ _ _ _ _ _ _ hk sit₁ q) p₁ sit.fok fun _ _ x => x.after p₁

/-- the plain test -/
theorem SoundT.plain {a : Expr} {e : E} (ha : SoundE C n X k a e) (he : ∀ m σ Q, wpT C n X e m σ Q → wpE C n X e m σ fun v σ₁ => ∃ b, truthV v = some b ∧ Q b σ₁)
    (hi : ∀ env whole, isTrue a env whole = (do let v ← whole; standAt a.pos; holding [v] (truthy v))) : SoundT C n X k a e := fun A fr env m σ ρ s Q hk sit h => by
  refine isTrue_plain (wpAny_mono (ha _ _ _ _ _ _ _ _ hk sit (he _ _ _ h)) (fun c s₁ ⟨v, σ₁, ρ₁, ⟨b, e, q⟩, hv, sit₁, p₁⟩ => ?_) fun _ _ x => x) (hi _ _)
  exact truth_sound hv e ⟨_, _, q, sit₁, p₁⟩

/-- a list of expressions -/
theorem starEach_plain : ∀ {as : List Expr} (pos : Pos) (env : Env), as.any isStar = false → backTo pos (starEach as env) = as.map fun e => (false, eval e env)
  | [], _, _, _ => rfl
  | a :: as, pos, env, h => by
    simp only [List.any_cons, Bool.or_eq_false_iff] at h
    have ih := starEach_plain (as := as) pos env h.2
    have : starEach (a :: as) env = (false, eval a env) :: starEach as env := by
      cases a <;> first | rfl | (simp [isStar] at h)
    rw [this]
    show (false, _) :: backTo pos (starEach as env) = _
    rw [ih]; rfl
theorem sound_spliced {es : List E} : ∀ {as : List Expr}, All2 (SoundE C n X k) as es → ∀ A fr env m σ ρ s Q, EnvOk k env → Sit C n A fr env m σ ρ s → wpEs C n X es m σ Q →
    wpAny (model C.prog C.w) A (spliced (as.map fun e => (false, eval e env))) (fun cs s' => cs.length = as.length ∧ PEs C n A fr env m ρ s Q cs s') (ExcP C fr X (exOf env) ρ s) s := by
  induction es with
  | nil => intro as h A fr env m σ ρ s Q hk sit hq; cases as with
    | nil => rw [wpEs] at hq; exact Calls.spliced_nil ⟨rfl, [], _, _, hq, .nil, sit, .refl⟩
    | cons a as => exact h.elim
  | cons e es ih =>
    intro as h A fr env m σ ρ s Q hk sit hq
    cases as with
    | nil => exact h.elim
    | cons a as =>
      obtain ⟨h1, h2⟩ := h
      rw [wpEs] at hq
      refine Calls.spliced_cons (wpAny_mono (h1 _ _ _ _ _ _ _ _ hk sit hq) (fun c s₁ ⟨v, σ₁, ρ₁, q, hv, sit₁, p₁⟩ => ?_) fun _ _ x => x)
      refine go_on (ih h2 _ _ _ _ _ _ _ _ hk sit₁ q) p₁ sit.fok (fun cs s₂ ⟨hl, vs, σ₂, ρ₂, q₂, hvs, sit₂, p₂⟩ => ?_)
      exact ⟨by simp [hl], v :: vs, σ₂, ρ₂, q₂, .cons (hv.post sit₁.rel p₂) hvs, sit₂, p₁.trans p₂⟩

/-- a new tuple -/
theorem PE.newTuple {A : Around} {fr env m σ ρ} {s : Shared} {Q : V → Store → Prop} (sit : Sit C n A fr env m σ ρ s) {xs : List V} {cs : List Value} (hv : VRs C ρ s.heap xs cs) (h : Q (.tup xs) σ) :
    PE C n A fr env m ρ s Q (.ref s.heap.objs.size) { s with heap := s.heap.push { cls := .type "tuple", data := .seq cs.toArray } } := by
  have hk : ∀ b o, s.heap.get? b = some o → (s.heap.push { cls := .type "tuple", data := .seq cs.toArray }).get? b = some o := fun b o e => Heap.get?_push_of_some _ e
  obtain ⟨a, p⟩ := sit.grow (s' := { s with heap := s.heap.push { cls := .type "tuple", data := .seq cs.toArray } }) hk rfl rfl
  exact ⟨.tup xs, σ, ρ, h, .tup ⟨_, Heap.get?_push_size _ rfl, rfl, _, rfl⟩ (hv.post sit.rel p), a, p⟩

theorem SoundE.tup {as : List Expr} {es : List E} (kd : Nat) (pos : Pos) (hs : as.any isStar = false) (hl : as.length ≤ 1000) (h : All2 (SoundE C n X k) as es) : SoundE C n X k (.Tuple as kd pos) (.tup es) := fun A fr env m σ ρ s Q hk sit hq => by
  rw [wpE] at hq
  refine wpAny_Tuple ?_
  rw [starEach_plain pos env hs]
  refine wpAny_mono (sound_spliced h _ _ _ _ _ _ _ _ hk sit hq) (fun cs s₁ ⟨hcl, vs, σ₁, ρ₁, q, hv, sit₁, p₁⟩ => ⟨?_, (PE.newTuple sit₁ hv q).after p₁⟩) fun _ _ x => x
  rw [sizeLine_eq]; omega
theorem SoundE.lst {as : List Expr} {es : List E} (pos : Pos) (hs : as.any isStar = false) (hl : as.length ≤ 1000) (h : All2 (SoundE C n X k) as es) : SoundE C n X k (.List as pos) (.lst es) := fun A fr env m σ ρ s Q hk sit hq => by
  rw [wpE] at hq
  refine wpAny_List ?_
  rw [starEach_plain pos env hs]
  refine wpAny_mono (sound_spliced h _ _ _ _ _ _ _ _ hk sit hq) (fun cs s₁ ⟨hcl, vs, σ₁, ρ₁, q, hv, sit₁, p₁⟩ => ⟨?_, (PE.newList sit₁ hv q).after p₁⟩) fun _ _ x => x
  rw [sizeLine_eq]; omega

end

end Mine

end

section
open PySem PySem.W PyProof.Rows
set_option linter.unusedVariables false
set_option maxRecDepth 100000
namespace Mine

section
variable {C : Ctx} {n : Nat} {A : Around} {fr : List Env} {env : Env} {m : Loc} {σ : Store} {ρ : List Addr} {s : Shared} {E : Value → Shared → Prop} {Q : V → Store → Prop}

theorem dict_at (sit : Sit C n A fr env m σ ρ s) {i : Nat} {f : Int → Option V} {z : Nat} {l : Addr} (h : σ[i]? = some (.dict f z)) (e : ρ[i]? = some l) :
    ∃ g, s.heap.IntMap l g ∧ s.heap.DictLe l z ∧ ∀ k v, f k = some v → ∃ c, g k = some c ∧ VR C ρ s.heap v c := by
  obtain ⟨a, e', r⟩ := sit.rel.sr.addr h
  rw [e] at e'; cases e'
  cases r with
  | dict h1 h2 h3 => exact ⟨_, h1, h2, h3⟩

theorem subscripted_plain {e : Expr} (h : isSl e = false) (o i : Value) : subscripted e false o i = operate [o, i] (getItem o i) := by
  cases e <;> first | rfl | (simp [isSl] at h)

/-- an item -/
theorem item_sound {v w : V} {c d : Value} (sit : Sit C n A fr env m σ ρ s) (hv : VR C ρ s.heap v c) (hw : VR C ρ s.heap w d) (h : wpItem v w σ fun y => Q y σ) :
    ∃ T id, s.TypeIs c T ∧ typeLookup (.type T) "__getitem__" = pure (some (.builtin id)) ∧ wpAny (model C.prog C.w) A (getItem c d) (PE C n A fr env m ρ s Q) E s := by
  unfold wpItem at h
  split at h
  · rename_i xs k
    obtain ⟨h1, h2, x, h3, h4⟩ := h
    cases hv; cases hw; rename_i ta cs ht hvs u
    obtain ⟨cx, h5, h6⟩ := hvs.get h3
    refine ⟨_, _, ht.typeIs, slot_tuple_getitem.lookup, ?_⟩
    have hk : k.toNat < cs.length := (List.getElem?_eq_some_iff.mp h5).1
    exact PyProof.Rows.getItem_tuple ht (by omega) h1 (PySem.seqIndex_of h2 (by simp; omega)) (by simpa using h5) (PE.same sit h4 h6)
  · rename_i ns k
    obtain ⟨h1, h2, x, h3, h4⟩ := h
    cases hv; cases hw; rename_i la vs hl hi u
    have hvs := VRs.of_ints (C := C) (ρ := ρ) (h := s.heap) hi
    obtain ⟨cx, h5, h6⟩ := hvs.get (i := k.toNat) (v := .int x) (by rw [List.getElem?_map, h3]; rfl)
    have hl' : s.heap.IsList la vs.toArray := hl.at fun o e => sit.rel.sr.base _ _ e
    exact ⟨_, _, hl'.typeIs, slot_list_getitem.lookup, wpAny_getItem_list hl' h2 h1 (by simpa using h5) (PE.same sit h4 h6)⟩
  · rename_i i k
    split at h
    · rename_i xs hs
      obtain ⟨h1, h2, x, h3, h4⟩ := h
      cases hv; cases hw; rename_i la e u
      obtain ⟨cs, hl, hvs⟩ := list_at sit hs e
      obtain ⟨cx, h5, h6⟩ := hvs.get h3
      exact ⟨_, _, hl.typeIs, slot_list_getitem.lookup, wpAny_getItem_list hl h2 h1 (by simpa using h5) (PE.same sit h4 h6)⟩
    · rename_i f z hs
      obtain ⟨x, h3, h4⟩ := h
      cases hv; cases hw; rename_i la e u
      obtain ⟨g, hm, hz, hf⟩ := dict_at sit hs e
      obtain ⟨cx, h5, h6⟩ := hf _ _ h3
      exact ⟨_, _, hm.typeIs, slot_dict_getitem.lookup, wpAny_getItem_intMap hm h5 (PE.tok sit h4 h6 _)⟩
    · exact h.elim
  · exact h.elim

theorem adjust_upto (b n : Nat) (hb : b ≤ n) : Builtin.Slice.sliceAdjust none (some (b : Int)) 1 (n : Int) = (0, (b : Int)) := by
  unfold Builtin.Slice.sliceAdjust
  have h1 : ¬ ((1 : Int) < 0) := by omega
  have h2 : ¬ ((b : Int) < 0) := by omega
  simp only [h1, h2, if_false]
  congr 1
  omega
theorem places_upto (b : Nat) : Builtin.Slice.slicePlaces 0 (b : Int) 1 = b := by
  unfold Builtin.Slice.slicePlaces
  have h1 : (1 : Int) > 0 := by omega
  simp only [h1, if_true, Int.ediv_one]
  split <;> omega
theorem sliceApplied_upto {sl : Addr} {b n : Nat} {u : Tok} {Q : Int × Int × Nat → Shared → Prop} (hs : s.heap.IsSliceOf sl .none (.int b u) .none) (hb : b ≤ n) (h : Q (0, 1, b) s) :
    wpAny (model C.prog C.w) A (Builtin.Slice.sliceApplied (.ref sl) (pure (n : Int))) Q E s := by
  obtain ⟨os, hos, hcs, hds⟩ := id hs
  unfold Builtin.Slice.sliceApplied Builtin.Slice.sliceFields
  refine wpAny_bind (wpAny_bind (wpAny_field hos hds (x := .none) rfl (wpAny_bind (wpAny_field hos hds (x := .int b u) rfl (wpAny_bind (wpAny_field hos hds (x := .none) rfl (wpAny_pure ?_)))))))
  refine wpAny_bind (slicePart_none ?_)
  show wpAny _ _ (if ((1 : Int) == 0) = true then _ else _) _ _ s
  rw [if_neg (by decide)]
  refine wpAny_bind (slicePart_none (wpAny_bind (slicePart_int (wpAny_bind (wpAny_pure ?_)))))
  show wpAny _ _ (match Builtin.Slice.sliceAdjust none (some (b : Int)) 1 (n : Int) with | (lo, hi) => pure (lo, (1 : Int), Builtin.Slice.slicePlaces lo hi 1)) _ _ s
  rw [adjust_upto b n hb]
  show wpAny _ _ (pure ((0 : Int), (1 : Int), Builtin.Slice.slicePlaces 0 (b : Int) 1)) _ _ s
  rw [places_upto]
  exact wpAny_pure h
theorem pick_upto (xs : Array Value) (b : Nat) : ((List.range b).filterMap fun (k : Nat) => xs[((0 : Int) + (k : Int) * 1).toNat]?).toArray = (xs.toList.take b).toArray := by
  have e : (fun (k : Nat) => xs[((0 : Int) + (k : Int) * 1).toNat]?) = (fun x => xs[x]?) ∘ fun x => 0 + x := by
    funext k
    have : ((0 : Int) + (k : Int) * 1).toNat = 0 + k := by omega
    simp only [this, Function.comp]
  have := pick_run xs 0 b
  rw [List.filterMap_map] at this
  rw [e, this]; simp
theorem getItem_tuple_upto {t sl : Addr} {items : Array Value} {b : Nat} {u : Tok} {Q : Value → Shared → Prop} (ht : IsTup s.heap t items) (hs : s.heap.IsSliceOf sl .none (.int b u) .none) (hb : b < items.size)
    (h : Q (.ref s.heap.objs.size) { s with heap := s.heap.push { cls := .type "tuple", data := .seq (items.toList.take b).toArray } })
    (hsz : items.size ≤ sizeLine) : wpAny (model C.prog C.w) A (getItem (.ref t) (.ref sl)) Q E s := by
  have hok : sizeOk (.seq (items.toList.take b).toArray) := by
    show (items.toList.take b).toArray.size ≤ sizeLine
    rw [List.size_toArray, List.length_take, Array.length_toList]
    omega
  obtain ⟨os, hos, hcs, hds⟩ := id hs
  have hTs : s.TypeIs (.ref sl) "slice" := ⟨os, hos, hcs⟩
  unfold getItem
  try with_reducible refine wpAny_holding ?_
  first | refine wpAny_bind (wpAny_pure ?_) | skip
  refine wpAny_bind (wpAny_sequenceKey ht.typeIs (by decide) ?_)
  refine wpAny_bind (wpAny_callSpecial?_slot (name := Str.ofString "__getitem__") ht.typeIs slot_tuple_getitem
    (wpAny_call_entry slot_tuple_getitem ht.typeIs entry_tuple_getitem ?_ (args_tuple_getitem _ _)))
  show wpAny _ _ (Builtin.Tuple.tupleItemsOf (.ref t) >>= _) _ _ s
  refine wpAny_bind (tupleItemsOf_ ht ?_)
  refine wpAny_bind (wpAny_typeOf hTs ?_)
  rw [if_pos (by decide)]
  refine wpAny_bind (sliceApplied_upto hs (Nat.le_of_lt hb) ?_)
  have hno : ¬ (((0 : Int) == 0 && (1 : Int) == 1 && b == items.size) = true) := by
    simp; omega
  show wpAny _ _ (if ((0 : Int) == 0 && (1 : Int) == 1 && b == items.size) = true then _ else _) _ _ s
  rw [if_neg hno, pick_upto items b]
  first
    | exact wpAny_bind (m := Builtin.Tuple.tupleExact _) (wpAny_newObj_type (wpAny_pure ⟨_, rfl, wpAny_pure h⟩) hok)
    | exact wpAny_bind (m := Builtin.Tuple.tupleExact _) (wpAny_newObj_type (wpAny_bind (wpAny_pure (wpAny_pure ⟨_, rfl, wpAny_pure h⟩))) hok)
    | exact wpAny_bind (wpAny_bind (m := Builtin.Tuple.tupleExact _) (wpAny_newObj_type (wpAny_pure (wpAny_pure ⟨_, rfl, wpAny_pure h⟩)) hok))
    | exact wpAny_bind (wpAny_bind (m := Builtin.Tuple.tupleExact _) (wpAny_newObj_type (wpAny_pure ⟨_, rfl, wpAny_pure h⟩) hok))
end

section
variable {C : Ctx} {n : Nat} {X : Store → Prop} {k : Kinds}
theorem SoundE.sub {l r : Expr} {a b : E} (pos : Pos) (hs : isSl r = false) (ha : SoundE C n X k l a) (hb : SoundE C n X k r b) : SoundE C n X k (.Subscript l r pos) (.sub a b) := fun A fr env m σ ρ s Q hk sit h => by
  rw [wpE] at h
  refine Subscript_ (wpAny_mono (ha _ _ _ _ _ _ _ _ hk sit h) (fun c s₁ ⟨v, σ₁, ρ₁, q, hv, sit₁, p₁⟩ => ?_) fun _ _ x => x)
  refine go_on (hb _ _ _ _ _ _ _ _ hk sit₁ q) p₁ sit.fok (fun d s₂ ⟨w, σ₂, ρ₂, q₂, hw, sit₂, p₂⟩ => ?_)
  obtain ⟨T, id, hT, hl, hg⟩ := item_sound (E := ExcP C fr X (exOf env) ρ s) (A := A) sit₂ (hv.post sit₁.rel p₂) hw q₂
  exact tail_any hT hl (wpAny_mono hg (fun _ _ x => (x.after p₂).after p₁) fun _ _ x => x) (subscripted_plain hs _ _)

theorem SoundE.upto {l : Expr} {a : E} {u : Int} {kd : Nat} {p1 p2 pos : Pos} (ha : SoundE C n X k l a) :
    SoundE C n X k (.Subscript l (.Slice none (some (.Constant (.int u) kd p1)) none p2) pos) (.upto a u) := fun A fr env m σ ρ s Q hk sit h => by
  rw [wpE] at h
  refine Subscript_ (wpAny_mono (ha _ _ _ _ _ _ _ _ hk sit h) (fun c s₁ ⟨v, σ₁, ρ₁, q, hv, sit₁, p₁⟩ => ?_) fun _ _ x => x)
  refine wpAny_Slice ?_
  rw [evalPart_none, evalPart_some]
  refine wpAny_pure (wpAny_Constant_int ?_)
  refine wpAny_pure ?_
  have hk2 : ∀ b o, s₁.heap.get? b = some o → (s₁.heap.push { cls := .type "slice", data := .fields #[.none, .int u s₁.toks, .none] }).get? b = some o := fun b o e => Heap.get?_push_of_some _ e
  obtain ⟨sit₂, p₂⟩ := sit₁.grow (s' := { s₁ with heap := s₁.heap.push { cls := .type "slice", data := .fields #[.none, .int u s₁.toks, .none] }, toks := s₁.toks + 1 }) hk2 rfl rfl
  have hsl := Heap.IsSliceOf.new s₁.heap .none (.int u s₁.toks) .none
  have hv₂ := hv.post sit₁.rel p₂
  unfold wpUpto at q
  dsimp only at q
  split at q
  · rename_i xs
    obtain ⟨q1, q2, q3, q4⟩ := q
    cases hv₂ with
    | tup ht hvs =>
      have hlen := hvs.length
      obtain ⟨b, rfl⟩ := Int.eq_ofNat_of_zero_le q1
      refine tail_any (Heap.IsTuple.typeIs (s := { s₁ with heap := s₁.heap.push { cls := .type "slice", data := .fields #[.none, .int b s₁.toks, .none] }, toks := s₁.toks + 1 }) ht) slot_tuple_getitem.lookup (getItem_tuple_upto ht hsl (by simp; omega) ?_ (by rw [sizeLine_eq]; simp; omega)) rfl
      exact ((PE.newTuple sit₂ (hvs.take b) (by simpa using q4)).after p₂).after p₁
  · rename_i i
    split at q
    · rename_i xs hs
      obtain ⟨q1, q2, q3, q4⟩ := q
      cases hv₂ with
      | ref e =>
        obtain ⟨cs, hl, hvs⟩ := list_at sit₂ hs e
        have hlen := hvs.length
        obtain ⟨b, rfl⟩ := Int.eq_ofNat_of_zero_le q1
        refine tail_any (Heap.IsList.typeIs (s := { s₁ with heap := s₁.heap.push { cls := .type "slice", data := .fields #[.none, .int b s₁.toks, .none] }, toks := s₁.toks + 1 }) hl) slot_list_getitem.lookup
          (wpAny_getItem_list_slice hl hsl .none (.int _ _) .none (by simp) ?_ (by rw [sizeLine_eq]; simp; omega)) rfl
        rw [slicePick_upto']
        exact ((PE.newList sit₂ (hvs.take b) (by simpa using q4)).after p₂).after p₁
    · exact q.elim
  · exact q.elim
end

end Mine

end

section
open PySem PySem.W PyProof.Rows
set_option linter.unusedVariables false
set_option maxRecDepth 100000
namespace Mine

section
variable {C : Ctx} {n : Nat} {A : Around} {fr : List Env} {env : Env} {m : Loc} {σ : Store} {ρ : List Addr} {s : Shared} {E : Value → Shared → Prop} {Q : V → Store → Prop}

theorem inst_at (sit : Sit C n A fr env m σ ρ s) {i d : Nat} {cls : String} {l : Addr} (h : σ[i]? = some (.inst cls d)) (e : ρ[i]? = some l) :
    ∃ K D, C.fnv cls = some (.ref K) ∧ ρ[d]? = some D ∧ s.heap.get? l = some (instObj K D) := by
  obtain ⟨a, e', r⟩ := sit.rel.sr.addr h
  rw [e] at e'; cases e'
  cases r with
  | inst h1 h2 h3 => exact ⟨_, _, h1, h2, h3⟩
theorem ns_at (sit : Sit C n A fr env m σ ρ s) {i : Nat} {f : String → Option V} {l : Addr} (h : σ[i]? = some (.ns f)) (e : ρ[i]? = some l) :
    ∃ g, s.heap.Ns1 l g ∧ Within g (geoAttrs.map Str.ofString) ∧ ∀ x v, f x = some v → ∃ c, g (Str.ofString x) = some c ∧ VR C ρ s.heap v c := by
  obtain ⟨a, e', r⟩ := sit.rel.sr.addr h
  rw [e] at e'; cases e'
  cases r with
  | ns h1 h2 h3 => exact ⟨_, h1, h2, h3⟩

theorem lookIn_of_ns {h : Heap} {a : Addr} {g : Str → Option Value} (x : h.Ns a g) {name : Str} : ∃ o es ep, h.get? a = some o ∧ o.data = .dict es ep ∧ lookIn name o = some (g name) := by
  obtain ⟨o, es, ep, h1, h2, h3, h4⟩ := x
  refine ⟨o, es, ep, h1, h2, ?_⟩
  unfold lookIn
  rw [h2]
  dsimp only
  have h5 := h4 name
  simp only [nsFind, findBy] at h5
  rw [← Array.find?_toList] at h5
  split
  · rename_i e he
    rw [he] at h5
    rw [← h5]; rfl
  · rename_i he
    rw [he] at h5
    rw [← h5]
    have : es.toList.any (·.refKey) = false := by
      rw [List.any_eq_false]
      intro e he'
      obtain ⟨nm, t, hk⟩ := h3 e (by simpa using he')
      simp [DictEntry.refKey, hk]
    simp [this]

theorem handedIn_of {v : V} {c : Value} {ρ : List Addr} {h : Heap} (hv : VR C ρ h v c) (hf : isFnV v = false) : handedIn c = true := by
  cases hv <;> first | rfl | (simp [isFnV] at hf)

theorem attr_sound (OK : C.Ok) {v : V} {c : Value} {name : String} (sit : Sit C n A fr env m σ ρ s) (hv : VR C ρ s.heap v c) (h : wpAttr v name σ fun y => Q y σ) :
    wpAny (model C.prog C.w) A (getAttr c (Str.ofString name) true) (PE C n A fr env m ρ s Q) E s := by
  unfold wpAttr at h
  split at h
  · rename_i i
    split at h
    · rename_i d hs
      split at h
      · rename_i f hd
        obtain ⟨h1, x, h2, h3, h4⟩ := h
        cases hv with
        | ref e =>
          obtain ⟨K, D, k1, k2, k3⟩ := inst_at sit hs e
          obtain ⟨g, g1, gw, g3⟩ := ns_at sit hd k2
          obtain ⟨cx, c1, c2⟩ := g3 _ _ h2
          obtain ⟨o, es, ep, o1, o2, o3⟩ := lookIn_of_ns (name := Str.ofString name) g1.ns
          obtain ⟨get, set, ⟨cd, cd1, cd2⟩, over, attrs⟩ := OK.geo K k1
          have I : InstAt s.heap _ (instObj K D) K (some o) := ⟨k3, rfl, rfl, o1⟩
          have hat := attrs name (by simpa using h1)
          refine get_value (OK.KB.keeps sit.rel.sr.base) I get ?_ (handedIn_of c2 h3) (PE.tok sit h4 c2 _)
          unfold findObj
          rw [cd1, Option.bind_some, hat, Option.bind_some]
          simp only [Option.bind_some, W.ownOf, cd2, if_true, o3, c1]
      · exact h.elim
    · exact h.elim
  · exact h.elim

theorem Within.set {g : Str → Option Value} {ns : List Str} (hw : Within g ns) {name : Str} {v : Value} (hin : name ∈ ns) : Within (fun y => if y = name then some v else g y) ns := fun y hy => by
  by_cases q : y = name
  · rw [q]; exact hin
  · exact hw y (by simpa [q] using hy)
theorem osa_ns {K : Frag} {x C₀ dx : Addr} {name : Str} {tk : Tok} {v : Value} {R : Result → Shared → Prop} {g : Str → Option Value} (X : K.In s.heap) (hx : s.heap.get? x = some (instObj C₀ dx)) {od : Option Obj}
    (I : InstAt s.heap x (instObj C₀ dx) C₀ od) (hp : plainOver K C₀ = true) (ht : takerIn K C₀ name = some none) {cd : ClassData} (hc : clsIn K C₀ = some cd) (hd : cd.hasDict = true) (hn : s.heap.Ns1 dx g) {ns : List Str} (hw : Within g ns) (hin : name ∈ ns) (hsz : ns.length ≤ 1000)
    (h : ∀ h', h'.Ns1 dx (fun y => if y = name then some v else g y) → Heap.SameBut dx s.heap h' → R (.ok (.ret .none)) { s with heap := h', toks := s.toks + 1 }) :
    codeAny (model C.prog C.w) A (.call (.builtin "object.__setattr__") ⟨[.ref x, .str name tk, v], []⟩) R s := by
  refine osa_open X I hp ht fun b => ?_
  refine wpAny_bind (wpAny_pure (wpAny_bind (wpAny_bind (wpAny_loadPart hx (wpAny_bind ((looks_clsIn X hc).here ?_))))))
  rw [hd]
  refine wpAny_pure (a := some dx) (wpAny_bind (wpAny_pure (wpAny_bind ?_)))
  refine wpAny_nsSet1 hn fun h' hn' hsb => ?_
  obtain ⟨oD, esD, epD, hoD, hdD, hcD⟩ := hn'.count (Within.set hw hin)
  refine wpAny_bind (wpAny_lookBehind hoD (by rw [hdD]; exact pastItsLine_dict (Nat.le_trans hcD (by rw [sizeLine_eq]; omega))) ?_)
  exact wpAny_pure (h h' hn' hsb)

theorem setAttr_sound (OK : C.Ok) {va v : V} {c d : Value} {name : String} {σ' : Store} (sit : Sit C n A fr env m σ ρ s) (ha : VR C ρ s.heap va c) (hv : VR C ρ s.heap v d) (h : setAttrV σ va name v = some σ')
    {Q : Unit → Shared → Prop} (hQ : ∀ s', Sit C n A fr env m σ' ρ s' → Post C (exOf env) ρ ρ s s' → Q () s') :
    wpAny (model C.prog C.w) A (setAttr c (Str.ofString name) d) Q E s := by
  unfold setAttrV at h
  split at h
  · rename_i i
    split at h
    · rename_i dd hs
      split at h
      · rename_i f hd
        split at h
        · rename_i hz
          cases h
          cases ha with
          | ref e =>
            obtain ⟨K, D, k1, k2, k3⟩ := inst_at sit hs e
            obtain ⟨g, g1, gw, g3⟩ := ns_at sit hd k2
            obtain ⟨o, es, ep, o1, o2, o3⟩ := lookIn_of_ns (name := Str.ofString name) g1.ns
            obtain ⟨get, set, ⟨cd, cd1, cd2⟩, over, attrs⟩ := OK.geo K k1
            have I : InstAt s.heap _ (instObj K D) K (some o) := ⟨k3, rfl, rfl, o1⟩
            have X := OK.KB.keeps sit.rel.sr.base
            refine set_plain X I set (osa_ns (s := { s with toks := s.toks + 1 }) X k3 I over (by unfold takerIn; rw [attrs name (by simpa using hz)]; rfl) cd1 cd2 g1 gw (List.mem_map_of_mem (by simpa using hz)) (by decide) fun h' hn hsb => ?_)
            have imm : ∀ b o, s.heap.get? b = some o → Imm o → h'.get? b = some o := fun b o e hi => (hsb.2 b fun q => by subst q; exact sit.rel.sr.not_imm e hi (List.mem_of_getElem? k2)).trans e
            have ho : OR C ρ h' (.ns (fun y => if y = name then some v else f y)) D := by
              refine .ns hn (Within.set gw (List.mem_map_of_mem (by simpa using hz))) fun x w e1 => ?_
              split at e1
              · rename_i q; subst q; cases e1
                exact ⟨d, by simp, hv.mono (fun _ _ e => e) imm⟩
              · rename_i q
                obtain ⟨c', e3, e4⟩ := g3 _ _ e1
                exact ⟨c', by rw [if_neg fun z => q (ofString_inj z)]; exact e3, e4.mono (fun _ _ e => e) imm⟩
            obtain ⟨si, p⟩ := sit.update (s' := { s with heap := h', toks := s.toks + 1 + 1 }) hd k2 hsb ho rfl rfl
            exact hQ _ si p
        · cases h
      · cases h
    · cases h
  · cases h

end

end Mine

end

section
open PySem PySem.W PyProof.Rows
set_option linter.unusedVariables false
set_option maxRecDepth 100000
namespace Mine

section
variable {C : Ctx} {n : Nat} {X : Store → Prop} {k : Kinds}

theorem SoundE.attr (OK : C.Ok) {x a : Str} (hx : nameOk x = true) (hl : isLoc k x = true) (ha : Str.ofString a.toString = a) (p pos : Pos) :
    SoundE C n X k (.Attribute (.Name x p) a pos) (.attr x.toString a.toString) := fun A fr env m σ ρ s Q hk sit h => by
  rw [wpE] at h
  obtain ⟨v, h1, h2⟩ := h
  refine Attribute_name (wpAny_Name (load_loc hk sit (nameOk_eq hx).1 hl h1 fun c hc => ?_) (nameOk_eq hx).2)
  have := attr_sound (E := ExcP C fr X (exOf env) ρ s) (A := A) OK sit hc h2
  rwa [ha] at this

theorem callWith_any {A : Around} {E : Value → Shared → Prop} {s : Shared} {pos : Pos} {f : Value} {as : List (Sem Value)} {Q : Value → Shared → Prop} (hne : as ≠ [])
    (h : wpAny (model C.prog C.w) A (spliced (as.map fun t => (false, t))) (fun vs s₁ => C.B.StaysIn s₁.heap ∧ KeeperOk C f ∧ wpAny (model C.prog C.w) A (call f vs) Q E s₁) E s) :
    wpAny (model C.prog C.w) A (callWith pos f [] (as.map fun t => (false, t)) []) Q E s := by
  have hev : wpAny (model C.prog C.w) A (evalArgs f true (as.map fun t => (false, t)) []) (fun a s₁ => a.kw = [] ∧ C.B.StaysIn s₁.heap ∧ KeeperOk C f ∧ wpAny (model C.prog C.w) A (call f a.pos) Q E s₁) E s := by
    cases as with
    | nil => exact absurd rfl hne
    | cons t as => exact Calls.evalArgs_plain (wpAny_mono h (fun vs s₁ h₁ => ⟨rfl, h₁⟩) fun _ _ x => x)
  unfold callWith
  refine wpAny_bind (wpAny_holding (wpAny_mono hev (fun a s₁ h₁ => wpAny_bind (wpAny_standAt ?_)) fun _ _ x => x))
  obtain ⟨pos', kw⟩ := a
  obtain ⟨rfl, h2, h3, h4⟩ := h₁
  have hst : ((as.map fun t => (false, t)).any (·.1)) = false := by simp
  have tail : ∀ {t : Sem Value}, wpAny (model C.prog C.w) A t Q E s₁ → wpAny (model C.prog C.w) A (t >>= fun r => holding [r] point >>= fun _ => pure r) Q E s₁ :=
    fun ht => wpAny_bind (wpAny_mono ht (fun r s₂ hr => wpAny_bind (wpAny_holding (wpAny_point (wpAny_pure hr)))) fun _ _ x => x)
  simp only [hst, List.any_nil, Bool.or_false]
  refine wpAny_bind (h3 _ _ _ _ h2 fun kp => ?_)
  cases kp
  · show wpAny _ _ (if _ then _ else _) _ _ _
    split
    · exact tail h4
    · exact tail (by unfold callMarked; exact Calls.wpAny_keep h4)
  · show wpAny _ _ (if _ then _ else _) _ _ _
    split
    · exact tail h4
    · exact tail (by unfold callMarked; exact Calls.wpAny_keep h4)
  · exact tail h4
  · exact tail (wpAny_operating h4)

/-- behind a call that knows no frame -/
theorem Sit.call {A : Around} {fr env m σ ρ} {s s' : Shared} {σ' : Store} {ρ' : List Addr} (x : Sit C n A fr env m σ ρ s) (p : Post C noEx ρ ρ' s s') (hr : SR C σ' ρ' s'.heap) :
    Sit C n A fr env m σ' ρ' s' ∧ Post C (exOf env) ρ ρ' s s' := by
  have p' : Post C (exOf env) ρ ρ' s s' := ⟨p.gens, p.os, p.pre, fun a h h' => ⟨(p.fresh a h h').1, x.rel.not_ex_of_none (p.fresh a h h').1⟩, fun b o e h _ => p.keep b o e h (fun q => q)⟩
  have imm : ∀ b o, s.heap.get? b = some o → Imm o → s'.heap.get? b = some o := fun b o e hi => (p.keep b o e (x.rel.sr.not_imm e hi) (fun q => q)).imm hi
  have old : ∀ b o, s.heap.get? b = some o → b ∉ ρ → b ∉ ρ' := fun b o e h h' => by have := (p.fresh b h' h).1; rw [e] at this; cases this
  have R : Rel C env ⟨m, σ'⟩ ρ' s'.heap := by
    refine ⟨hr, ?_, fun nm a hm => ?_, fun y v e1 e2 => ?_, ⟨x.rel.locNew.1, ?_⟩, fun nm a hm => ?_, x.rel.apart⟩
    · obtain ⟨mm, h1, h2⟩ := x.rel.ns
      exact ⟨mm, ns_kept h1 fun o e => p.keep _ o e x.rel.locNew.2 (fun q => q), fun y v e1 e2 => let ⟨c, e3, e4⟩ := h2 y v e1 e2; ⟨c, e3, e4.mono p.pre imm⟩⟩
    · obtain ⟨ov, o, h1, h2⟩ := x.rel.cell nm a hm
      exact ⟨ov, o, (p.keep _ _ h1 (x.rel.cellNew nm a hm).2.1 (fun q => q)).cell h2, h2⟩
    · obtain ⟨a, c, e3, ⟨o, h1, h2⟩, e5⟩ := x.rel.cellv y v e1 e2
      exact ⟨a, c, e3, ⟨o, (p.keep _ _ h1 (x.rel.cellNew _ a (mem_of_lookup e3)).2.1 (fun q => q)).cell h2, h2⟩, e5.mono p.pre imm⟩
    · obtain ⟨mm, ⟨o, es, ep, h1, r⟩, h2⟩ := x.rel.ns
      exact old _ _ h1 x.rel.locNew.2
    · obtain ⟨ov, o, h1, h2⟩ := x.rel.cell nm a hm
      obtain ⟨c1, c2, c3⟩ := x.rel.cellNew nm a hm
      exact ⟨c1, old _ _ h1 c2, c3⟩
  exact ⟨x.post p' R, p'⟩

theorem ExcG.ofCall {fr : List Env} {ex : Addr → Prop} {ρ : List Addr} {s s' : Shared} {e : Value} (x : ExcP C fr X noEx ρ s e s') (hx : ∀ a, s.heap.get? a = none → ¬ ex a) : ExcP C fr X ex ρ s e s' := by
  obtain ⟨σ', ρ', ea, a0, Bx, K, h1, h2, h3, h4, h5, h6, h7, h8, h9, h10, h11⟩ := x
  exact ⟨σ', ρ', ea, a0, Bx, K, h1, h2, h3, h4, h5, h6, h7, h8, fun a ha hn => ⟨(h9 a ha hn).1, hx a (h9 a ha hn).1⟩, fun b o e h1 _ h3 => h10 b o e h1 (fun q => q) h3, fun L o hL _ e => h11 L o hL (fun q => q) e⟩

theorem Room.mono {A : Around} {a b : Nat} (h : Room A a) (hab : b ≤ a) : Room A b := ⟨h.handled, by have := h.depth; omega, by have := h.units; omega⟩

theorem map_false {as : List Expr} {env : Env} : as.map (fun e => (false, eval e env)) = (as.map fun e => eval e env).map fun t => (false, t) := by simp

theorem SoundE.call (OK : C.Ok) {x : Str} {p pos : Pos} {f : E} {as : List Expr} {es : List E} (hf : SoundE C n X k (.Name x p) f) (hs : as.any isStar = false) (hne : as ≠ []) (h : All2 (SoundE C n X k) as es) :
    SoundE C n X k (.Call (.Name x p) as [] pos) (.call f es) := fun A fr env m σ ρ s Q hk sit hq => by
  rw [wpE] at hq
  refine wpAny_Call_Name_kw (wpAny_mono (hf _ _ _ _ _ _ _ _ hk sit hq) (fun c s₁ ⟨v, σ₁, ρ₁, q, hv, sit₁, p₁⟩ => ?_) fun _ _ x => x)
  rw [starEach_plain pos env hs, map_false]
  refine callWith_any (by simpa using hne) ?_
  rw [← map_false]
  refine go_on (sound_spliced h _ _ _ _ _ _ _ _ hk sit₁ q) p₁ sit.fok (fun cs s₂ ⟨_, vs, σ₂, ρ₂, ⟨g, j, e, en, hc⟩, hvs, sit₂, p₂⟩ => ?_)
  subst e en
  have hv₂ := hv.post sit₁.rel p₂
  cases hv₂ with
  | fn hfn =>
    refine ⟨sit₂.rel.sr.base, OK.keeper _ _ hfn, ?_⟩
    refine wpAny_mono (hc A fr ρ₂ s₂ c cs (sit₂.room.mono (Nat.le_succ _)) sit₂.frs sit₂.fok sit₂.rel.sr hvs hfn) (fun r s₃ ⟨w, σ₃, ρ₃, q₃, hw, hr, p₃⟩ => ?_) fun e s₃ x => ?_
    · obtain ⟨sit₃, p₃'⟩ := sit₂.call p₃ hr
      exact ⟨w, σ₃, ρ₃, q₃, hw, sit₃, (p₁.trans p₂).trans p₃'⟩
    · exact (x.ofCall fun a => sit₂.rel.not_ex_of_none).after (p₁.trans p₂) sit.fok

end

end Mine

end

section
open PySem PySem.W PyProof.Rows
set_option linter.unusedVariables false
set_option maxRecDepth 100000
namespace Mine

section
variable {C : Ctx} {n : Nat} {A : Around} {fr : List Env} {env : Env} {m : Loc} {σ : Store} {ρ : List Addr} {s : Shared} {E : Value → Shared → Prop} {Q : V → Store → Prop}

theorem PE.grew (sit : Sit C n A fr env m σ ρ s) {v : V} {c : Value} (h : Q v σ) {h' : Heap} (hk : ∀ b o, s.heap.get? b = some o → h'.get? b = some o) (hv : VR C ρ h' v c) (t : Nat) :
    PE C n A fr env m ρ s Q c { s with heap := h', toks := t } :=
  let ⟨a, b⟩ := sit.grow (s' := { s with heap := h', toks := t }) hk rfl rfl
  ⟨v, σ, ρ, h, hv, a, b⟩

theorem best_facts {vs : List Value} {ns : List Int} (hi : IntsAre vs ns) (hne : ns ≠ []) : ∃ xs : Array (Int × Tok), vs.toArray = intItems xs ∧ ns = xs.toList.map (·.1) ∧ 0 < xs.size := by
  obtain ⟨xs, e⟩ := hi.allInts.items
  have hns : ns = xs.toList.map (·.1) := by rw [← hi.numsOf, ← nums_intItems, ← e]
  refine ⟨xs, e, hns, ?_⟩
  have h3 : 0 < ns.length := List.length_pos_iff.mpr hne
  rw [hns, List.length_map, Array.length_toList] at h3; exact h3

theorem max_facts {xs : Array (Int × Tok)} (hsz : 0 < xs.size) {ns : List Int} (hns : ns = xs.toList.map (·.1)) :
    numAt xs (argBest (fun i j => decide (numAt xs i > numAt xs j)) (xs.size - 1)) ∈ ns ∧ ∀ a ∈ ns, a ≤ numAt xs (argBest (fun i j => decide (numAt xs i > numAt xs j)) (xs.size - 1)) := by
  obtain ⟨h1, h2⟩ := argBest_gt (numAt xs) (xs.size - 1)
  refine ⟨?_, fun a ha => ?_⟩
  · rw [hns, numAt_eq]; exact PySem.getD_mem (by rw [List.length_map, Array.length_toList]; omega)
  · rw [hns] at ha
    obtain ⟨j, hj, rfl⟩ := PySem.mem_getD ha
    rw [List.length_map, Array.length_toList] at hj
    rw [← numAt_eq]; exact h2 j (by omega)
theorem min_facts {xs : Array (Int × Tok)} (hsz : 0 < xs.size) {ns : List Int} (hns : ns = xs.toList.map (·.1)) :
    numAt xs (argBest (fun i j => decide (numAt xs i < numAt xs j)) (xs.size - 1)) ∈ ns ∧ ∀ a ∈ ns, numAt xs (argBest (fun i j => decide (numAt xs i < numAt xs j)) (xs.size - 1)) ≤ a := by
  obtain ⟨h1, h2⟩ := argBest_lt (numAt xs) (xs.size - 1)
  refine ⟨?_, fun a ha => ?_⟩
  · rw [hns, numAt_eq]; exact PySem.getD_mem (by rw [List.length_map, Array.length_toList]; omega)
  · rw [hns] at ha
    obtain ⟨j, hj, rfl⟩ := PySem.mem_getD ha
    rw [List.length_map, Array.length_toList] at hj
    rw [← numAt_eq]; exact h2 j (by omega)

theorem ints_of {xs : List V} {l : List Int} {cs : List Value} {h : Heap} (hl : intsOf xs = some l) (hv : VRs C ρ h xs cs) : IntsAre cs l := by
  rw [intsOf_eq hl] at hv; exact hv.ints

theorem ints_len {vs : List Value} {ns : List Int} (h : IntsAre vs ns) : vs.length = ns.length := by
  induction h with
  | nil => rfl
  | cons a t _ ih => simp [ih]

theorem max_list_sound (hh : A.handled = none) (sit : Sit C n A fr env m σ ρ s) {a : Addr} {cs : List Value} {l : List Int} (hl : s.heap.IsList a cs.toArray) (hi : IntsAre cs l) (hne : l ≠ [])
    (h : ∀ M, M ∈ l → (∀ a ∈ l, a ≤ M) → Q (.int M) σ) : wpAny (model C.prog C.w) A (call (.builtin "max") [.ref a]) (PE C n A fr env m ρ s Q) E s := by
  obtain ⟨xs, e, hns, hsz⟩ := best_facts hi hne
  rw [e] at hl
  refine max_intList hh hl hsz fun v h' tk hv hk => ?_
  obtain ⟨t, rfl⟩ := intItems_at hv
  obtain ⟨f1, f2⟩ := max_facts hsz hns
  exact PE.grew sit (h _ f1 f2) hk (.int _ t) tk
theorem min_list_sound (hh : A.handled = none) (sit : Sit C n A fr env m σ ρ s) {a : Addr} {cs : List Value} {l : List Int} (hl : s.heap.IsList a cs.toArray) (hi : IntsAre cs l) (hne : l ≠ [])
    (h : ∀ M, M ∈ l → (∀ a ∈ l, M ≤ a) → Q (.int M) σ) : wpAny (model C.prog C.w) A (call (.builtin "min") [.ref a]) (PE C n A fr env m ρ s Q) E s := by
  obtain ⟨xs, e, hns, hsz⟩ := best_facts hi hne
  rw [e] at hl
  refine min_intList hh hl hsz fun v h' tk hv hk => ?_
  obtain ⟨t, rfl⟩ := intItems_at hv
  obtain ⟨f1, f2⟩ := min_facts hsz hns
  exact PE.grew sit (h _ f1 f2) hk (.int _ t) tk
theorem max_tuple_sound (hh : A.handled = none) (sit : Sit C n A fr env m σ ρ s) {a : Addr} {cs : List Value} {l : List Int} (hl : s.heap.IsTuple a cs.toArray) (hi : IntsAre cs l) (hne : l ≠ [])
    (h : ∀ M, M ∈ l → (∀ a ∈ l, a ≤ M) → Q (.int M) σ) : wpAny (model C.prog C.w) A (call (.builtin "max") [.ref a]) (PE C n A fr env m ρ s Q) E s := by
  obtain ⟨xs, e, hns, hsz⟩ := best_facts hi hne
  rw [e] at hl
  have hlt : a < s.heap.objs.size := by obtain ⟨_, e, _⟩ := hl; exact Heap.lt_size e
  have hq : a ≠ s.heap.objs.size := Nat.ne_of_lt hlt
  refine call_max_walk (wpAny_pyIter_tuple hl ?_)
  refine ⟨_, _, _, _, _, _, _, rfl, Walks.tuple (A := A.in1) hh s.heap.objs.size a hq (intItems xs), ⟨⟨_, Heap.get?_push_size _ rfl, rfl, rfl⟩, hl.push _⟩, fun b hb => ?_, by simpa [intItems] using hsz, CmpOf.ints_gt (numAt xs) (fun _ _ => intItems_at), fun v h' tk hP hk => ?_⟩
  · show b < (s.heap.push _).objs.size
    rw [Heap.size_push]
    rcases List.mem_cons.mp hb with rfl | hb
    · exact Nat.lt_succ_self _
    · rcases List.mem_cons.mp hb with rfl | hb
      · exact Nat.lt_succ_of_lt hlt
      · cases hb
  · have hold : ∀ b o, s.heap.get? b = some o → h'.get? b = some o := fun b o e => by
      refine hk b o (fun hm => ?_) (Heap.get?_push_of_some _ e)
      rcases List.mem_cons.mp hm with e1 | hm
      · exact absurd (e1 ▸ Heap.lt_size e) (Nat.lt_irrefl _)
      · cases hm
    have hP' : (intItems xs)[argBest (fun i j => decide (numAt xs i > numAt xs j)) (xs.size - 1)]? = some v := by simpa [intItems] using hP
    obtain ⟨t, rfl⟩ := intItems_at hP'
    obtain ⟨f1, f2⟩ := max_facts hsz hns
    exact PE.grew sit (h _ f1 f2) hold (.int _ t) tk

theorem sum_take_bound {l : List Int} (hb : ∀ x ∈ l, x.natAbs ≤ 2 ^ 40) : ∀ j, ((l.take j).sum).natAbs ≤ j * 2 ^ 40 := by
  induction l with
  | nil => intro j; simp
  | cons a r ih =>
    intro j
    cases j with
    | zero => simp
    | succ j =>
      have h1 := ih (fun x hx => hb x (.tail _ hx)) j
      have h2 := hb a (.head _)
      simp only [List.take_succ_cons, List.sum_cons]
      omega

theorem sum_list_sound (hh : A.handled = none) (sit : Sit C n A fr env m σ ρ s) {a : Addr} {cs : List Value} {l : List Int} (hl : s.heap.IsList a cs.toArray) (hi : IntsAre cs l) (hle : l.length ≤ 1000000)
    (hb : ∀ x ∈ l, x.natAbs ≤ 2 ^ 40) (h : Q (.int l.sum) σ) : wpAny (model C.prog C.w) A (call (.builtin "sum") [.ref a]) (PE C n A fr env m ρ s Q) E s := by
  obtain ⟨xs, e⟩ := hi.allInts.items
  have hns : l = xs.toList.map (·.1) := by rw [← hi.numsOf, ← nums_intItems, ← e]
  have hsz : l.length = xs.size := by rw [hns, List.length_map, Array.length_toList]
  rw [e] at hl
  refine sum_intList hh hl (fun j hj => ?_) fun h' tk t' hk => ?_
  · rw [preSum_eq, ← hns, numAt_eq, ← hns]
    have h1 := hb _ (PySem.getD_mem (l := l) (j := j) (by omega))
    have h2 := sum_take_bound hb (j + 1)
    have h3 : (j + 1) * 2 ^ 40 ≤ 1000000 * 2 ^ 40 := Nat.mul_le_mul_right _ (by omega)
    unfold InLong
    omega
  · have := PE.grew (h' := h') sit h hk (.int _ t') tk
    rw [preSum_eq, ← hns, ← hsz, List.take_length]
    exact this

theorem rngList_items {a b : Int} {acc : Array Value} (h : ItemsOf (fun i v => ∃ t, v = .int (a + i * 1) t) acc (Builtin.Range.rangeSize a b 1).toNat) {hp : Heap} : VRs C ρ hp ((rngList a b 1).map .int) acc.toList := by
  have hI : IntsAre acc.toList (rngList a b 1) := by
    obtain ⟨h1, h2⟩ := h
    have key : ∀ (cs : List Value) (k : Nat), (∀ (j : Nat) v, cs[j]? = some v → ∃ t, v = .int (a + ((k + j : Nat) : Int) * 1) t) → IntsAre cs ((List.range' k cs.length).map fun (i : Nat) => a + (i : Int) * 1) := by
      intro cs
      induction cs with
      | nil => intro k _; exact .nil
      | cons c r ih =>
        intro k hc
        obtain ⟨t, rfl⟩ := hc 0 c rfl
        simp only [List.length_cons, List.range'_succ, List.map_cons]
        refine .cons _ t (ih (k + 1) fun j v e => ?_)
        obtain ⟨t', e'⟩ := hc (j + 1) v (by simpa using e)
        exact ⟨t', by rw [e']; congr 3; omega⟩
    have := key acc.toList 0 fun j v e => by
      obtain ⟨t, e'⟩ := h2 j v (by simpa using e)
      exact ⟨t, by rw [e']; congr 4; omega⟩
    rw [Array.length_toList, h1, ← List.range_eq_range'] at this
    exact this
  exact VRs.of_ints hI

theorem two_sorted {a b : Int} {ns : List Int} (hp : ns.Perm [a, b]) (hs : ns.Pairwise (· ≤ ·)) : ns = if b < a then [b, a] else [a, b] := by
  have hl := hp.length_eq
  match ns, hl with
  | [x, y], _ =>
    have hxy : x ≤ y := by simpa using hs
    have h1 : x ∈ [a, b] := hp.mem_iff.mp (by simp)
    have h2 : y ∈ [a, b] := hp.mem_iff.mp (by simp)
    have h3 : a ∈ [x, y] := hp.mem_iff.mpr (by simp)
    have h4 : b ∈ [x, y] := hp.mem_iff.mpr (by simp)
    simp only [List.mem_cons, List.not_mem_nil, or_false] at h1 h2 h3 h4
    split
    · rename_i hba
      rcases h1 with rfl | rfl <;> rcases h2 with rfl | rfl <;> rcases h3 with h3 | h3 <;> rcases h4 with h4 | h4 <;> first | rfl | omega
    · rename_i hba
      have e1 : x = a := by omega
      have e2 : y = b := by omega
      rw [e1, e2]

theorem small_dn {a b : Int} (ha : -(2 ^ 62) ≤ a) (ha' : a < 2 ^ 62) (hb : -(2 ^ 62) ≤ b) (hb' : b < 2 ^ 62) : Builtin.Range.small a b (-1) = true := by
  have : Builtin.Range.rangeSize a b (-1) = if a > b then a - b else 0 := by
    unfold Builtin.Range.rangeSize
    simp only [show ¬ ((-1 : Int) > 0) by decide, if_false, show (-(-1) : Int) = 1 from rfl, Int.ediv_one]
    split <;> omega
  unfold Builtin.Range.small
  rw [this]
  simp only [Builtin.Range.rangeFitsLong, Bool.and_eq_true, Bool.or_eq_true, decide_eq_true_eq, beq_iff_eq, show ¬ ((-1 : Int) > 0) by decide, if_false]
  split <;> omega

theorem b_sound (sit : Sit C n A fr env m σ ρ s) {f : String} {vs : List V} {cs : List Value} (hv : VRs C ρ s.heap vs cs) (h : wpB f vs σ Q) :
    wpAny (model C.prog C.w) A (call (bval f) cs) (PE C n A fr env m ρ s Q) E s := by
  have hh := sit.room.handled
  unfold wpB at h
  split at h
  · rename_i xs
    rcases hv with _ | ⟨hv, hv2⟩
    cases hv2; cases hv; rename_i a ds ht hvs
    obtain ⟨h1, h2⟩ := h
    have hlen := hvs.length
    refine PyProof.Rows.len_tuple (t := a) (items := ds.toArray) ht (by simp; omega) ?_
    have hq : ((ds.toArray.size : Nat) : Int) = (xs.length : Int) := by simp [hlen]
    rw [hq]
    exact PE.int sit h2 _ _
  · rename_i ns
    rcases hv with _ | ⟨hv, hv2⟩
    cases hv2; cases hv; rename_i a ds hl hi
    obtain ⟨h1, h2⟩ := h
    have hl' : s.heap.IsList a ds.toArray := hl.at fun o e => sit.rel.sr.base _ _ e
    have hlen : ds.length = ns.length := (ints_len hi)
    refine Calls.call_len_list hl' (by simp; omega) ?_
    have hq : ((ds.toArray.size : Nat) : Int) = (ns.length : Int) := by simp [hlen]
    rw [hq]
    exact PE.int sit h2 _ _
  · rename_i i
    rcases hv with _ | ⟨hv, hv2⟩
    cases hv2; cases hv; rename_i a e
    split at h
    · rename_i xs hs
      obtain ⟨h1, h2⟩ := h
      obtain ⟨ds, hl, hvs⟩ := list_at sit hs e
      have hlen := hvs.length
      refine Calls.call_len_list hl (by simp; omega) ?_
      have hq : ((ds.toArray.size : Nat) : Int) = (xs.length : Int) := by simp [hlen]
      rw [hq]
      exact PE.int sit h2 _ _
    · exact h.elim
  · rename_i a
    rcases hv with _ | ⟨hv, hv2⟩
    cases hv2; cases hv; rename_i t
    refine call_abs_int fun u tk => ?_
    have : (if a < 0 then -a else a) = (a.natAbs : Int) := by split <;> omega
    rw [this]
    exact PE.int sit h _ _
  · rename_i a b
    rcases hv with _ | ⟨hv, _ | ⟨hv2, hv3⟩⟩
    cases hv3; cases hv; cases hv2
    refine max_two_ints hh fun h' tk hk => ?_
    by_cases hba : b > a
    · rw [if_pos hba]
      have : max a b = b := by omega
      rw [this] at h
      exact PE.grew sit h hk (.int _ _) tk
    · rw [if_neg hba]
      have : max a b = a := by omega
      rw [this] at h
      exact PE.grew sit h hk (.int _ _) tk
  · rename_i xs
    rcases hv with _ | ⟨hv, hv2⟩
    cases hv2; cases hv; rename_i a ds ht hvs
    obtain ⟨l, h1, h2, h3, h4⟩ := h
    exact max_tuple_sound hh sit ht (ints_of h1 hvs) h2 h4
  · rename_i i
    rcases hv with _ | ⟨hv, hv2⟩
    cases hv2; cases hv; rename_i a e
    split at h
    · rename_i xs hs
      obtain ⟨l, h1, h2, h4⟩ := h
      obtain ⟨ds, hl, hvs⟩ := list_at sit hs e
      exact max_list_sound hh sit hl (ints_of h1 hvs) h2 h4
    · exact h.elim
  · rename_i i
    rcases hv with _ | ⟨hv, hv2⟩
    cases hv2; cases hv; rename_i a e
    split at h
    · rename_i xs hs
      obtain ⟨l, h1, h2, h4⟩ := h
      obtain ⟨ds, hl, hvs⟩ := list_at sit hs e
      exact min_list_sound hh sit hl (ints_of h1 hvs) h2 h4
    · exact h.elim
  · rename_i i
    rcases hv with _ | ⟨hv, hv2⟩
    cases hv2; cases hv; rename_i a e
    split at h
    · rename_i xs hs
      obtain ⟨l, h1, h2, h3, h4⟩ := h
      obtain ⟨ds, hl, hvs⟩ := list_at sit hs e
      exact sum_list_sound hh sit hl (ints_of h1 hvs) h2 h3 h4
    · exact h.elim
  · rename_i i
    rcases hv with _ | ⟨hv, hv2⟩
    cases hv2; cases hv; rename_i a e
    split at h
    · rename_i xs hs
      obtain ⟨p, q, rfl, h4⟩ := h
      obtain ⟨ds, hl, hvs⟩ := list_at sit hs e
      have hi : IntsAre ds [p, q] := hvs.ints (ns := [p, q])
      refine sorted_ints hl hi (by rw [(ints_len hi)]; simp) fun out ns' a1 a2 a3 => ?_
      have := two_sorted a2 a3
      subst this
      obtain ⟨z, hz⟩ := sortedAll_at s.heap ds out
      have hn : s.heap.get? (s.heap.objs.size + 1) = none := Heap.get?_none_of_le (by omega)
      have hk : ∀ b o, s.heap.get? b = some o → (sortedAll s.heap ds out).get? b = some o := fun b o e => sortedAll_old e
      have hvv : VRs C (ρ ++ [s.heap.objs.size + 1]) (sortedAll s.heap ds out) (if q < p then [V.int q, .int p] else [.int p, .int q]) out.toList := by
        have := VRs.of_ints (C := C) (ρ := ρ ++ [s.heap.objs.size + 1]) (h := sortedAll s.heap ds out) a1
        split <;> rename_i hh <;> simpa [hh] using this
      obtain ⟨b1, b2, b3⟩ := sit.alloc (s' := { s with heap := sortedAll s.heap ds out }) (o := .list (if q < p then [V.int q, .int p] else [.int p, .int q])) hn hk
        (OR.list (cs := out.toList) ⟨_, z, hz, rfl, rfl, rfl⟩ hvv) rfl rfl
      exact ⟨_, _, _, h4, b3, b1, b2⟩
    · exact h.elim
  · rename_i a b c
    rcases hv with _ | ⟨hv, hv2⟩
    cases hv2; cases hv; rename_i r t u v hr hsm
    obtain ⟨rfl, ⟨h1, h1', h2', h2⟩, h3⟩ := h
    have hsz : Builtin.Range.rangeSize a b 1 = ((Builtin.Range.rangeSize a b 1).toNat : Int) := by rw [PySem.rangeSize_one]; split <;> omega
    have hle : (Builtin.Range.rangeSize a b 1).toNat ≤ 2 ^ 24 := by rw [PySem.rangeSize_one]; split <;> omega
    refine call_list_range hh hr hsm hsz hle fun h' tk acc c' hk hat hit => ?_
    have hn : s.heap.get? s.heap.objs.size = none := Heap.get?_none_of_le (Nat.le_refl _)
    obtain ⟨b1, b2, b3⟩ := sit.alloc (s' := { s with heap := h', toks := tk }) (o := .list ((rngList a b 1).map .int)) hn hk (OR.list (cs := acc.toList) ⟨_, c', hat, rfl, rfl, rfl⟩ (rngList_items hit)) rfl rfl
    exact ⟨_, _, _, h3, b3, b1, b2⟩
  · rename_i b
    rcases hv with _ | ⟨hv, hv2⟩
    cases hv2; cases hv; rename_i t
    refine call_range_1 ?_
    have hb := h.1
    exact PE.grew sit h.2 (fun b o e => Heap.get?_push_of_some _ e) (.rng (IsRange.new _ _ _ _ _ _ _) (PySem.small_one (by omega) (by omega) (by omega) (by omega))) _
  · rename_i a b
    rcases hv with _ | ⟨hv, _ | ⟨hv2, hv3⟩⟩
    cases hv3; cases hv; cases hv2
    refine call_range_2 ?_
    have hb := h.1
    exact PE.grew sit h.2 (fun b o e => Heap.get?_push_of_some _ e) (.rng (IsRange.new _ _ _ _ _ _ _) (PySem.small_one (by omega) (by omega) (by omega) (by omega))) _
  · rename_i a b c
    obtain ⟨⟨h1, h2, rfl⟩, h3⟩ := h
    rcases hv with _ | ⟨hv, _ | ⟨hv2, _ | ⟨hv3, hv4⟩⟩⟩
    cases hv4; cases hv; cases hv2; cases hv3
    refine call_range_3 (by decide) ?_ (.inl (PyProof.noPylong_small (by decide)))
    exact PE.grew sit h3 (fun b o e => Heap.get?_push_of_some _ e) (.rng (IsRange.new _ _ _ _ _ _ _) (small_dn (by omega) (by omega) (by omega) (by omega))) _
  · exact h.elim

end
end Mine

end

section
open PySem PySem.W PyProof.Rows
set_option linter.unusedVariables false
set_option maxRecDepth 100000
namespace Mine

section
variable {C : Ctx} {n : Nat} {X : Store → Prop} {k : Kinds}

theorem keeper_bval (f : String) : KeeperOk C (bval f) := fun A E Q s _ h => by
  unfold bval
  split
  · exact wpAny_pure (h _)
  · exact wpAny_pure (h _)

theorem SoundE.bcall (OK : C.Ok) {x : Str} {p pos : Pos} {as : List Expr} {es : List E} (hx : nameOk x = true) (hl : k x = some .globalImplicit) (hb : bnames.contains x.toString = true)
    (hs : as.any isStar = false) (hne : as ≠ []) (h : All2 (SoundE C n X k) as es) :
    SoundE C n X k (.Call (.Name x p) as [] pos) (.bcall x.toString es) := fun A fr env m σ ρ s Q hk sit hq => by
  rw [wpE] at hq
  refine wpAny_Call_Name_kw (Calls.Name_function_global hk.kind (hk.glob _ hl) (load_globAt hk sit (nameOk_eq hx).1 (OK.blt _ (by simpa using hb)) ?_) (nameOk_eq hx).2)
  rw [starEach_plain pos env hs, map_false]
  refine callWith_any (by simpa using hne) ?_
  rw [← map_false]
  refine wpAny_mono (sound_spliced h _ _ _ _ _ _ _ _ hk sit hq) (fun cs s₂ ⟨_, vs, σ₂, ρ₂, hc, hvs, sit₂, p₂⟩ => ?_) fun _ _ x => x
  refine ⟨sit₂.rel.sr.base, keeper_bval _, ?_⟩
  exact wpAny_mono (b_sound sit₂ hvs hc) (fun r s₃ q => q.after p₂) fun _ _ x => x

/-- an object at hand that nobody names -/
structure Side (C : Ctx) (fr : List Env) (env : Env) (ρ : List Addr) (h : Heap) (a : Addr) : Prop where
  own : a ∉ ρ
  ex : ¬ exOf env a
  base : C.B.get? a = none
  fr : a ∉ frAt fr
  imm : ∀ o, h.get? a = some o → ¬ Imm o

theorem Sit.side {A fr env m σ ρ} {s : Shared} {h' : Heap} {tk : Nat} {a : Addr} (x : Sit C n A fr env m σ ρ s) (d : Side C fr env ρ s.heap a) (hs : ∀ b o, b ≠ a → s.heap.get? b = some o → h'.get? b = some o) :
    Sit C n A fr env m σ ρ { s with heap := h', toks := tk } := by
  have imm : ∀ b o, s.heap.get? b = some o → Imm o → h'.get? b = some o := fun b o e hi => hs b o (fun q => by subst q; exact d.imm o e hi) e
  have own : ∀ b, b ∈ ρ → b ≠ a := fun b hb q => d.own (q ▸ hb)
  have R : Rel C env ⟨m, σ⟩ ρ h' := by
    refine ⟨⟨x.rel.sr.len, fun i o b e1 e2 => (x.rel.sr.obj i o b e1 e2).mono (fun _ _ e => e) imm fun o e => hs b o (own b (List.mem_of_getElem? e2)) e, x.rel.sr.inj, x.rel.sr.new,
        fun b o e => hs b o (fun q => by rw [q, d.base] at e; cases e) (x.rel.sr.base b o e)⟩, ?_, fun nm b hm => ?_, fun y v e1 e2 => ?_, x.rel.locNew, x.rel.cellNew, x.rel.apart⟩
    · obtain ⟨mm, h1, h2⟩ := x.rel.ns
      exact ⟨mm, h1.at' fun o e => hs _ o (fun q => d.ex (.inl q.symm)) e, fun y v e1 e2 => let ⟨c, e3, e4⟩ := h2 y v e1 e2; ⟨c, e3, e4.mono (fun _ _ e => e) imm⟩⟩
    · obtain ⟨ov, o, e1, e2⟩ := x.rel.cell nm b hm
      exact ⟨ov, o, hs b o (fun q => d.ex (.inr ⟨nm, q ▸ hm⟩)) e1, e2⟩
    · obtain ⟨b, c, e3, ⟨o, e4, e4'⟩, e5⟩ := x.rel.cellv y v e1 e2
      exact ⟨b, c, e3, ⟨o, hs b o (fun q => d.ex (.inr ⟨_, q ▸ mem_of_lookup e3⟩)) e4, e4'⟩, e5.mono (fun _ _ e => e) imm⟩
  refine ⟨x.room, x.frs, fun e he => ?_, R⟩
  obtain ⟨hk, L, o, a1, a2, a3, a4, a5⟩ := x.fok e he
  exact ⟨hk, L, o, a1, a2, hs L o (fun q => d.fr (List.mem_filterMap.mpr ⟨e, he, q ▸ a1⟩)) a3, a4, a5⟩

theorem Side.new {A fr env m σ ρ} {s : Shared} {a : Addr} (x : Sit C n A fr env m σ ρ s) (hn : s.heap.get? a = none) : Side C fr env ρ s.heap a where
  own := fun h => by
    obtain ⟨_, _, _, _, r⟩ := x.rel.sr.owned h
    obtain ⟨_, h1, _⟩ := r.there
    rw [hn] at h1; cases h1
  ex := x.rel.not_ex_of_none hn
  base := by
    cases q : C.B.get? a with
    | none => rfl
    | some ob => have := x.rel.sr.base a ob q; rw [hn] at this; cases this
  fr := fun h => by
    obtain ⟨e, he, hf⟩ := List.mem_filterMap.mp h
    obtain ⟨_, L, o, a1, _, a3, _⟩ := x.fok e he
    rw [a1] at hf; cases hf; rw [hn] at a3; cases a3
  imm := fun o e => by rw [hn] at e; cases e

theorem imm_slots {o : Obj} {sl} (h : Imm { o with slots := sl }) : Imm o := h
/-- along a step of this call -/
theorem Side.move {fr env ρ ρ'} {s s' : Shared} {a : Addr} (d : Side C fr env ρ s.heap a) (hx : ∃ o, s.heap.get? a = some o) (p : Post C (exOf env) ρ ρ' s s') : Side C fr env ρ' s'.heap a := by
  obtain ⟨o, ho⟩ := hx
  obtain ⟨sl, hk⟩ := (p.keep a o ho d.own d.ex).there
  refine ⟨fun h => ?_, d.ex, d.base, d.fr, fun o' e => ?_⟩
  · have := (p.fresh a h d.own).1; rw [ho] at this; cases this
  · rw [hk] at e; cases e; exact fun q => d.imm o ho (imm_slots q)
theorem plain_move {fr env ρ ρ'} {s s' : Shared} {a : Addr} {xs : Array Value} (hl : PlainL s.heap a xs) (d : Side C fr env ρ s.heap a) (p : Post C (exOf env) ρ ρ' s s') : PlainL s'.heap a xs := by
  obtain ⟨o, n, h1, h2, h3, h4⟩ := hl
  exact ⟨o, n, (p.keep a o h1 d.own d.ex).same (fun ⟨es, ep, q⟩ => by rw [h4] at q; cases q), h2, h3, h4⟩

theorem Post.side {ex ρ₀ ρ} {s₀ s : Shared} {h' : Heap} {tk : Nat} {a : Addr} (p : Post C ex ρ₀ ρ s₀ s) (hn : s₀.heap.get? a = none) (hs : ∀ b o, b ≠ a → s.heap.get? b = some o → h'.get? b = some o) :
    Post C ex ρ₀ ρ s₀ { s with heap := h', toks := tk } :=
  ⟨p.gens, p.os, p.pre, p.fresh, fun b o e h1 h2 => (p.keep b o e h1 h2).trans fun o₁ e₁ => .inl (hs b o₁ (fun q => by subst q; rw [hn] at e; cases e) e₁)⟩

theorem glob_here (OK : C.Ok) {A : Around} {fr env m σ ρ} {s : Shared} (hk : EnvOk k env) (sit : Sit C n A fr env m σ ρ s) {x : Str} (hx : nameOk x = true) (hl : k x = some .globalImplicit) (p : Pos) {v : V} (hg : C.glb x.toString = some v) {E : Value → Shared → Prop}
    {Q : Value → Shared → Prop} (h : ∀ c, VR C ρ s.heap v c → Q c s) : wpAny (model C.prog C.w) A (eval (.Name x p) env) Q E s := by
  obtain ⟨c, h3, h4⟩ := OK.glb _ _ hg
  exact Calls.Name_function_global hk.kind (hk.glob _ hl) (load_globAt hk sit (nameOk_eq hx).1 h3 (h c (h4.mono (fun i a e => by simp at e) fun b o e _ => sit.rel.sr.base b o e))) (nameOk_eq hx).2

theorem SoundE.dct (OK : C.Ok) {x y : Str} (p q pos : Pos) (hx : nameOk x = true) (hlx : k x = some .globalImplicit) (hy : nameOk y = true) (hly : k y = some .globalImplicit) :
    SoundE C n X k (.Dict [some (.Name x p)] [.Name y q] pos) (.dct (.glob x.toString) (.glob y.toString)) := fun A fr env m σ ρ s Q hk sit hq => by
  rw [wpE, wpE] at hq
  obtain ⟨vk, hgx, hq⟩ := hq
  rw [wpE] at hq
  obtain ⟨vv, hgy, i, rfl, hq₄⟩ := hq
  refine wpAny_Dict_walk (knd := intKind C.prog C.w) rfl rfl (by simp) (by simp) ?_
  have hn : s.heap.get? s.heap.objs.size = none := Heap.get?_none_of_le (Nat.le_refl _)
  obtain ⟨sit₁, p₁⟩ := sit.grow (s' := { s with heap := s.heap.push { cls := .type "dict", data := .dict #[] } }) (fun b o e => Heap.get?_push_of_some _ e) rfl rfl
  have hat₁ : (s.heap.push { cls := .type "dict", data := .dict #[] }).get? s.heap.objs.size = some { cls := .type "dict", data := .dict #[] } := Heap.get?_push_size _ rfl
  have d₁ := Side.new sit hn
  refine pairTrees_cons_walk (glob_here OK hk sit₁ hx hlx p hgx fun ck hvk => glob_here OK hk sit₁ hy hly q hgy fun cv hvv => ?_)
  cases hvk; rename_i t
  refine pairTrees_nil_walk ⟨[(i, cv)], ⟨intKind_is _ _ _ _, rfl, trivial⟩, ⟨_, #[], 0, hat₁, ⟨rfl, rfl, rfl⟩, rfl, fun e he => by simp at he, .nil, List.nodup_nil⟩, fun h' hd hs => ?_⟩
  have hm := hd.mapOf.intMap
  have hle : h'.DictLe s.heap.objs.size 1 := fun o es ep ho hdt => by
    obtain ⟨o', es', ep', ho', _, hd', _, hp, _⟩ := hd
    rw [ho'] at ho; cases ho
    rw [hd'] at hdt; cases hdt
    have := hp.length
    simp [merged, stored] at this
    omega
  have hk3 : ∀ b o, b ≠ s.heap.objs.size → (s.heap.push { cls := .type "dict", data := .dict #[] }).get? b = some o → h'.get? b = some o := fun b o hb e => (hs.2 b hb).trans e
  have himm : ∀ o, (s.heap.push { cls := .type "dict", data := .dict #[] }).get? s.heap.objs.size = some o → ¬ Imm o := fun o e => by rw [hat₁] at e; cases e; exact not_imm_dict rfl
  obtain ⟨b1, b2, b3⟩ := Sit.adopt (s' := { s with heap := h', toks := s.toks + 1 }) (o := .dict (fun j => if j = i then some vv else none) 1) sit hn sit₁ p₁ d₁.own himm hk3
    (OR.dict hm hle fun j v e => by
      split at e
      · rename_i q; subst q; cases e
        refine ⟨cv, by simp [merged, stored, valueAt], hvv.mono (fun _ _ e => getElem?_snoc_of e) fun b o e hi => hk3 b o (fun q => by subst q; exact himm o e hi) e⟩
      · cases e) rfl rfl
  exact ⟨_, _, _, hq₄, b3, b1, b2⟩

end
end Mine

end

section
open PySem PySem.W PyProof.Rows
set_option linter.unusedVariables false
set_option maxRecDepth 100000
namespace Mine

/-- an iterator over a source that stands at i -/
def IterAt (C : Ctx) (ρ : List Addr) (h : Heap) (I : Addr) (i : Nat) : V → Prop
  | .rng a b c => IsRangeIter h I (a + (i : Int) * c) (Builtin.Range.rangeSize a b c - (i : Int)) c
  | .tup xs => ∃ t cs, h.IsTupleIter I t i ∧ h.IsTuple t cs.toArray ∧ VRs C ρ h xs cs
  | .ref k => ∃ l, ρ[k]? = some l ∧ h.IsListIter I l i
  | _ => False

theorem not_imm_cls {o : Obj} {n : String} (hc : o.cls = .type n) (h1 : n ≠ "tuple") (h2 : n ≠ "range") : ¬ Imm o := by
  rintro (⟨q, _⟩ | ⟨q, _⟩) <;> rw [hc] at q <;> cases q <;> contradiction

theorem IterAt.obj {C : Ctx} {ρ : List Addr} {h : Heap} {I : Addr} {i : Nat} {v : V} (x : IterAt C ρ h I i v) : ∃ o n vs, h.get? I = some o ∧ o.cls = .type n ∧ o.data = .fields vs ∧ n ≠ "tuple" ∧ n ≠ "range" ∧
    ["enumerate", "zip", "dict_itemiterator", "dict_reverseitemiterator", "odict_iterator", "itertools.zip_longest", "itertools.pairwise"].contains n = false := by
  unfold IterAt at x
  split at x
  · exact ⟨_, _, _, x, rfl, rfl, by decide, by decide, by decide⟩
  · obtain ⟨t, cs, ⟨o, h1, h2, h3⟩, _⟩ := x
    exact ⟨_, _, _, h1, h2, h3, by decide, by decide, by decide⟩
  · obtain ⟨l, _, o, h1, h2, h3⟩ := x
    exact ⟨_, _, _, h1, h2, h3, by decide, by decide, by decide⟩
  · exact x.elim
theorem IterAt.imm {C : Ctx} {ρ : List Addr} {h : Heap} {I : Addr} {i : Nat} {v : V} (x : IterAt C ρ h I i v) (o : Obj) (e : h.get? I = some o) : ¬ Imm o := by
  obtain ⟨o', n, vs, h1, h2, h3, h4, h5, _⟩ := x.obj
  rw [h1] at e; cases e
  exact not_imm_cls h2 h4 h5

theorem IterAt.mono {C : Ctx} {ρ ρ' : List Addr} {h h' : Heap} {I : Addr} {i : Nat} {v : V} (x : IterAt C ρ h I i v) (hρ : ∀ (i : Nat) (a : Addr), ρ[i]? = some a → ρ'[i]? = some a)
    (hk : ∀ b o, h.get? b = some o → Imm o → h'.get? b = some o) (hI : ∀ o, h.get? I = some o → h'.get? I = some o) : IterAt C ρ' h' I i v := by
  cases v <;> unfold IterAt at x ⊢ <;> try exact x
  · obtain ⟨t, cs, ⟨o, h1, h2⟩, ⟨o', h3, h4, h5⟩, h6⟩ := x
    exact ⟨t, cs, ⟨o, hI _ h1, h2⟩, ⟨o', hk _ _ h3 (.inl ⟨h4, _, h5⟩), h4, h5⟩, h6.mono hρ hk⟩
  · obtain ⟨l, h0, o, h1, h2⟩ := x
    exact ⟨l, hρ _ _ h0, o, hI _ h1, h2⟩
  · exact hI _ x

theorem IterAt.move {C : Ctx} {n : Nat} {A : Around} {fr env m σ ρ ρ'} {s s' : Shared} {I : Addr} {i : Nat} {sv : V} (it : IterAt C ρ s.heap I i sv) (sit : Sit C n A fr env m σ ρ s) (d : Side C fr env ρ s.heap I) (p : Post C (exOf env) ρ ρ' s s') : IterAt C ρ' s'.heap I i sv :=
  it.mono p.pre (sit.rel.imm p) fun o e => (p.keep I o e d.own d.ex).same (by
    rintro ⟨es, ep, q⟩
    obtain ⟨o', _, _, h1, _, h3, _⟩ := it.obj
    rw [e] at h1; cases h1; rw [h3] at q; cases q)

theorem rngList_at {a b c : Int} {i : Nat} : (rngList a b c)[i]? = if i < (Builtin.Range.rangeSize a b c).toNat then some (a + (i : Int) * c) else none := by
  unfold rngList
  rw [List.getElem?_map]
  split
  · rename_i h; rw [List.getElem?_range h]; rfl
  · rename_i h; rw [List.getElem?_eq_none (by simp; omega)]; rfl

section
variable {C : Ctx} {n : Nat} {k : Kinds} {A : Around} {fr : List Env} {env : Env} {m : Loc} {σ : Store} {ρ : List Addr} {s : Shared} {E : Value → Shared → Prop}

theorem iter_start (sit : Sit C n A fr env m σ ρ s) {sv : V} {c : Value} {items : List V} (hv : VR C ρ s.heap sv c) (hi : srcItems σ sv = some items) {Q : Value → Shared → Prop}
    (h : ∀ s' I, Sit C n A fr env m σ ρ s' → Post C (exOf env) ρ ρ s s' → (∀ b o, s.heap.get? b = some o → s'.heap.get? b = some o) → s.heap.get? I = none → Side C fr env ρ s'.heap I → IterAt C ρ s'.heap I 0 sv → Q (.ref I) s') :
    wpAny (model C.prog C.w) A (pyIter c) Q E s := by
  have hn : s.heap.get? s.heap.objs.size = none := Heap.get?_none_of_le (Nat.le_refl _)
  have d := Side.new sit hn
  have key : ∀ ob : Obj, (∀ (_ : (s.heap.push ob).get? s.heap.objs.size = some ob), IterAt C ρ (s.heap.push ob) s.heap.objs.size 0 sv) → ob.isFreed = false →
      Q (.ref s.heap.objs.size) { s with heap := s.heap.push ob } := fun ob hi hfr => by
    obtain ⟨sit₁, p₁⟩ := sit.grow (s' := { s with heap := s.heap.push ob }) (fun b o e => Heap.get?_push_of_some _ e) rfl rfl
    have hit := hi (Heap.get?_push_size _ hfr)
    exact h _ _ sit₁ p₁ (fun b o e => Heap.get?_push_of_some _ e) hn ⟨d.own, d.ex, d.base, d.fr, hit.imm⟩ hit
  cases hv with
  | tup ht hvs =>
    exact wpAny_pyIter_tuple ht (key _ (fun e => ⟨_, _, ⟨_, e, rfl, rfl⟩, ht.push _, hvs.mono (fun _ _ e => e) fun b o e _ => Heap.get?_push_of_some _ e⟩) rfl)
  | ref e =>
    rename_i i a
    unfold srcItems at hi
    simp only at hi
    split at hi
    · rename_i xs hs
      obtain ⟨cs, hl, hvs⟩ := list_at sit hs e
      exact wpAny_pyIter_list hl (key _ (fun e' => ⟨_, e, _, e', rfl, rfl⟩) rfl)
    · cases hi
  | rng hr hsm =>
    refine wpAny_pyIter_range hr hsm (key _ (fun e => ?_) rfl)
    unfold IterAt
    simpa using e
  | _ => simp [srcItems] at hi

theorem iter_next (sit : Sit C n A fr env m σ ρ s) {sv : V} {items : List V} (hi : srcItems σ sv = some items) {I : Addr} {i : Nat} (hit : IterAt C ρ s.heap I i sv) (d : Side C fr env ρ s.heap I) {Q : Option Value → Shared → Prop}
    (hitem : ∀ v c h' tk, items[i]? = some v → VR C ρ h' v c → IterAt C ρ h' I (i + 1) sv → (∀ b o, b ≠ I → s.heap.get? b = some o → h'.get? b = some o) → Q (some c) { s with heap := h', toks := tk })
    (hend : ∀ h', items.length ≤ i → (∀ b o, b ≠ I → s.heap.get? b = some o → h'.get? b = some o) → Q none { s with heap := h', toks := s.toks }) :
    wpAny (model C.prog C.w) A (pyNext (.ref I)) Q E s := by
  have himm := hit.imm
  have keep : ∀ {h'}, Heap.SameBut I s.heap h' → ∀ b o, b ≠ I → s.heap.get? b = some o → h'.get? b = some o := fun hs b o hb e => (hs.2 b hb).trans e
  have immk : ∀ {h'}, Heap.SameBut I s.heap h' → ∀ b o, s.heap.get? b = some o → Imm o → h'.get? b = some o := fun hs b o e hi => (hs.2 b fun q => by subst q; exact himm o e hi).trans e
  have keepE : ∀ {h'}, Heap.ExtBut I s.heap h' → ∀ b o, b ≠ I → s.heap.get? b = some o → h'.get? b = some o := fun hs b o hb e => hs b o hb e
  cases sv with
  | tup xs =>
    unfold IterAt at hit
    obtain ⟨t, cs, h1, h2, h3⟩ := hit
    obtain rfl : xs = items := by simpa [srcItems] using hi
    have hlen := h3.length
    have htI : t ≠ I := fun q => by
      obtain ⟨o, e1, e2, _⟩ := h2
      obtain ⟨o', e3, e4, _⟩ := h1
      rw [q, e3] at e1; cases e1; rw [e4] at e2; exact absurd e2 (by decide)
    by_cases hlt : i < xs.length
    · obtain ⟨c, hc, hv⟩ := h3.get (List.getElem?_eq_getElem  hlt)
      refine wpAny_pyNext_tuple_item h1 h2 (x := c) (by simpa using hc) fun h' hit' hs' => ?_
      exact hitem _ c h' s.toks (List.getElem?_eq_getElem  hlt) (hv.mono (fun _ _ e => e) (immk hs')) ⟨t, cs, hit', h2.extBut hs'.extBut htI, h3.mono (fun _ _ e => e) (immk hs')⟩ (keep hs')
    · exact wpAny_pyNext_tuple_end sit.room.handled h1 h2 (by simp; omega) fun h' he => hend h' (by omega) (keepE he)
  | ref j =>
    unfold IterAt at hit
    obtain ⟨l, h0, h1⟩ := hit
    unfold srcItems at hi
    simp only at hi
    split at hi
    · rename_i xs hs
      obtain rfl : xs = items := by simpa using hi
      obtain ⟨cs, hl, h3⟩ := list_at sit hs h0
      have hlen := h3.length
      by_cases hlt : i < xs.length
      · obtain ⟨c, hc, hv⟩ := h3.get (List.getElem?_eq_getElem  hlt)
        refine wpAny_pyNext_list_item h1 hl (x := c) (by simpa using hc) fun h' hit' hs' => ?_
        exact hitem _ c h' s.toks (List.getElem?_eq_getElem  hlt) (hv.mono (fun _ _ e => e) (immk hs')) ⟨l, h0, hit'⟩ (keep hs')
      · exact wpAny_pyNext_list_end sit.room.handled h1 hl (by simp; omega) fun h' he => hend h' (by omega) (keepE he)
    · cases hi
  | rng a b c =>
    unfold IterAt at hit
    cases hi
    by_cases hlt : (i : Int) < Builtin.Range.rangeSize a b c
    · refine wpAny_pyNext_range_item hit (by omega) fun h' hit' hs' => ?_
      refine hitem (.int (a + (i : Int) * c)) _ h' (s.toks + 1) (by rw [List.getElem?_map, rngList_at, if_pos (by omega)]; rfl) (.int _ _) ?_ (keep hs')
      unfold IterAt
      have e1 : a + ((i + 1 : Nat) : Int) * c = a + (i : Int) * c + c := by
        rw [Int.natCast_add, Int.add_mul]; omega
      have e2 : Builtin.Range.rangeSize a b c - ((i + 1 : Nat) : Int) = Builtin.Range.rangeSize a b c - (i : Int) - 1 := by omega
      simp only [e1, e2]; exact hit'
    · exact wpAny_pyNext_range_end sit.room.handled hit (by omega) fun h' he => hend h' (by simp [rngList]; omega) (keepE he)
  | _ => simp [srcItems] at hi

theorem letOwned_sound {I : Addr} {i : Nat} {sv : V} (hit : IterAt C ρ s.heap I i sv) (t : Expr) (c : Value) {Q : Unit → Shared → Prop} (h : Q () s) : wpAny (model C.prog C.w) A (letOwnedTupleGo t (.ref I) c) Q E s := by
  obtain ⟨o, nm, vs, h1, h2, h3, h4, h5, h6⟩ := hit.obj
  have key : ∀ c : Value, wpAny (model C.prog C.w) A (letOwnedTupleGo (.Tuple [] 0 t.pos) (.ref I) c) Q E s := fun c => by
    unfold letOwnedTupleGo
    cases c with
    | ref T =>
      refine wpAny_bind (wpAny_load h1 ?_)
      rw [h2, h3]
      show wpAny _ A (if (["enumerate", "zip", "dict_itemiterator", "dict_reverseitemiterator", "odict_iterator", "itertools.zip_longest", "itertools.pairwise"].contains nm && vs[0]? == some (rawInt T)) = true then _ else _) Q E s
      rw [if_neg (by rw [h6]; simp)]
      exact wpAny_pure h
    | _ => exact wpAny_pure h
  cases t with
  | Tuple _ _ _ => exact key c
  | List _ _ => exact key c
  | _ => exact wpAny_pure h

end
end Mine

end

section
open PySem PySem.W PyProof.Rows
set_option linter.unusedVariables false
set_option maxRecDepth 100000
namespace Mine
theorem closure_loop {env : Env} : ∀ (names : List (Str × NameKind)) (cs : List (Str × Addr)), (∀ x ∈ names, x.2 = .free → ∃ a, env.cells.lookup x.1 = some a) →
    ∃ cl, (forIn names cs (fun (x : Str × NameKind) (cs : List (Str × Addr)) => (do if x.2 == .free then (do let a ← cellOf env x.1; pure (ForInStep.yield ((x.1, a) :: cs))) else pure (ForInStep.yield cs) : Sem (ForInStep (List (Str × Addr)))))) = pure cl ∧
      (∀ p ∈ cl, p ∈ cs ∨ (env.cells.lookup p.1 = some p.2 ∧ (p.1, NameKind.free) ∈ names)) ∧ (∀ p ∈ cs, p ∈ cl) ∧ (∀ x ∈ names, x.2 = .free → ∃ a, (x.1, a) ∈ cl)
  | [], cs, _ => ⟨cs, by simp, fun p h => .inl h, fun p h => h, fun x h => by simp at h⟩
  | (x, kd) :: r, cs, h => by
    by_cases hf : kd = .free
    · subst hf
      obtain ⟨a, ha⟩ := h (x, .free) (.head _) rfl
      obtain ⟨cl, h1, h2, h3, h4⟩ := closure_loop r ((x, a) :: cs) fun y hy => h y (.tail _ hy)
      refine ⟨cl, ?_, fun p hp => ?_, fun p hp => h3 p (.tail _ hp), fun y hy hk => ?_⟩
      · rw [List.forIn_cons]
        have : cellOf env x = pure a := by unfold cellOf; rw [ha]
        simp only [beq_self_eq_true, if_true, this, pure_bind]
        exact h1
      · rcases h2 p hp with q | q
        · rcases List.mem_cons.mp q with q | q
          · subst q; exact .inr ⟨ha, .head _⟩
          · exact .inl q
        · exact .inr ⟨q.1, .tail _ q.2⟩
      · rcases List.mem_cons.mp hy with q | q
        · subst q; exact ⟨a, h3 _ (.head _)⟩
        · exact h4 y q hk
    · obtain ⟨cl, h1, h2, h3, h4⟩ := closure_loop r cs fun y hy => h y (.tail _ hy)
      refine ⟨cl, ?_, fun p hp => (h2 p hp).imp id fun q => ⟨q.1, .tail _ q.2⟩, h3, fun y hy hk => ?_⟩
      · rw [List.forIn_cons]
        have : (kd == NameKind.free) = false := by simpa using hf
        simp only [this, Bool.false_eq_true, if_false, pure_bind]
        exact h1
      · rcases List.mem_cons.mp hy with q | q
        · subst q; exact absurd hk hf
        · exact h4 y q hk

theorem closure_at {env : Env} {sc : Scope} (h : ∀ x ∈ sc.names, x.2 = .free → ∃ a, env.cells.lookup x.1 = some a) :
    ∃ cl, closureFor sc env = pure cl ∧ (∀ p ∈ cl, env.cells.lookup p.1 = some p.2 ∧ (p.1, NameKind.free) ∈ sc.names) ∧ (∀ x ∈ sc.names, x.2 = .free → ∃ a, (x.1, a) ∈ cl) := by
  obtain ⟨cl, h1, h2, h3, h4⟩ := closure_loop sc.names [] h
  refine ⟨cl, ?_, fun p hp => (h2 p hp).resolve_left (by simp), h4⟩
  unfold closureFor
  rw [← h1]
  simp only [bind_pure]

theorem lookup_relabel {env : Env} : ∀ {names : List (Str × NameKind)} {x : Str}, 
    (names.map fun (n, k) => if (k == NameKind.free && env.scope.kind == .function && env.kindOf n == some .cell) then (n, NameKind.cell) else (n, k)).lookup x =
     (names.lookup x).map fun k => if (k == NameKind.free && env.scope.kind == .function && env.kindOf x == some .cell) then NameKind.cell else k
  | [], x => rfl
  | (n, k) :: r, x => by
    have ih := @lookup_relabel env r x
    simp only [List.map_cons]
    by_cases hx : x = n
    · subst hx
      split <;> simp_all [List.lookup_cons]
    · have hb : (x == n) = false := by simpa using hx
      split <;> simp only [List.lookup_cons, hb] <;> exact ih

section
variable {C : Ctx} {n : Nat} {X : Store → Prop} {k : Kinds} {A : Around} {fr : List Env} {env cenv : Env} {m mi : Loc} {σ σ₁ : Store} {ρ ρ₁ : List Addr} {s s₁ : Shared} {E : Value → Shared → Prop}

theorem iter_self {I : Addr} {i : Nat} {sv : V} (hit : IterAt C ρ s.heap I i sv) {Q : Value → Shared → Prop} (h : Q (.ref I) s) : wpAny (model C.prog C.w) A (pyIter (.ref I)) Q E s := by
  unfold IterAt at hit
  split at hit
  · exact wpAny_pyIter_rangeiter hit h
  · obtain ⟨t, cs, h1, _⟩ := hit
    exact wpAny_pyIter_tupleiter h1 h
  · obtain ⟨l, _, h1⟩ := hit
    exact wpAny_pyIter_listiter h1 h
  · exact hit.elim

/-- an inner block's frame beside the outer one -/
structure Inside (env cenv : Env) (m mi : Loc) : Prop where
  cells : ∀ nm a, (nm, a) ∈ cenv.cells → env.cells.lookup nm = some a
  kind : ∀ nm a, (nm, a) ∈ cenv.cells → cenv.kindOf nm = some .cell
  same : ∀ x v a, (Str.ofString x, a) ∈ cenv.cells → m x = some v → mi x = some v

theorem Inside.ex (y : Inside env cenv m mi) {b : Addr} (h : exOf cenv b) : b = cenv.locals ∨ exOf env b := by
  rcases h with h | ⟨nm, h⟩
  · exact .inl h
  · exact .inr (.inr ⟨nm, mem_of_lookup (y.cells nm b h)⟩)

theorem Side.inside {h : Heap} {a : Addr} (d : Side C fr env ρ h a) (y : Inside env cenv m mi) (ha : a ≠ cenv.locals) : Side C fr cenv ρ h a :=
  ⟨d.own, fun q => (y.ex q).elim ha d.ex, d.base, d.fr, d.imm⟩

/-- from the inner block back to the outer one -/
theorem Sit.outOf (sit : Sit C n A fr env m σ₁ ρ₁ s₁) (inn : Sit C n A fr cenv mi σ ρ s) (p : Post C (exOf cenv) ρ₁ ρ s₁ s) (hL : s₁.heap.get? cenv.locals = none) (y : Inside env cenv m mi) :
    Sit C n A fr env m σ ρ s ∧ Post C (exOf env) ρ₁ ρ s₁ s := by
  have hx : ∀ b o, s₁.heap.get? b = some o → ¬ exOf env b → ¬ exOf cenv b := fun b o e h q => by
    rcases y.ex q with q | q
    · rw [q, hL] at e; cases e
    · exact h q
  have p' : Post C (exOf env) ρ₁ ρ s₁ s := ⟨p.gens, p.os, p.pre, fun a h h' => ⟨(p.fresh a h h').1, sit.rel.not_ex_of_none (p.fresh a h h').1⟩, fun b o e h h' => p.keep b o e h (hx b o e h')⟩
  have imm : ∀ b o, s₁.heap.get? b = some o → Imm o → s.heap.get? b = some o := sit.rel.imm p'
  have old : ∀ b o, s₁.heap.get? b = some o → b ∉ ρ₁ → b ∉ ρ := fun b o e h h' => by have := (p.fresh b h' h).1; rw [e] at this; cases this
  obtain ⟨mm, hns, hns2⟩ := sit.rel.ns
  have hloc : ∀ o, s₁.heap.get? env.locals = some o → Kept C env.locals o s.heap := fun o e => p.keep _ o e sit.rel.locNew.2 fun q => by
    rcases q with q | ⟨nm, q⟩
    · rw [q, hL] at e; cases e
    · exact (sit.rel.cellNew nm _ (mem_of_lookup (y.cells nm _ q))).2.2 rfl
  have hthere : ∃ o, s₁.heap.get? env.locals = some o := let ⟨o, _, _, e, _⟩ := hns; ⟨o, e⟩
  have R : Rel C env ⟨m, σ⟩ ρ s.heap := by
    refine ⟨inn.rel.sr, ⟨mm, ns_kept hns hloc, fun x v e1 e2 => let ⟨c, e3, e4⟩ := hns2 x v e1 e2; ⟨c, e3, e4.mono p.pre imm⟩⟩, fun nm a hm => ?_, fun x v e1 e2 => ?_, ⟨sit.rel.locNew.1, ?_⟩, fun nm a hm => ?_, sit.rel.apart⟩
    · by_cases hc : exOf cenv a
      · rcases hc with q | ⟨nm', q⟩
        · obtain ⟨ov, o, e, _⟩ := sit.rel.cell nm a hm
          rw [q, hL] at e; cases e
        · exact inn.rel.cell nm' a q
      · obtain ⟨ov, o, e, e'⟩ := sit.rel.cell nm a hm
        exact ⟨ov, o, (p.keep a o e (sit.rel.cellNew nm a hm).2.1 hc).cell e', e'⟩
    · obtain ⟨a, c, e3, ⟨o, e4, e4'⟩, e5⟩ := sit.rel.cellv x v e1 e2
      by_cases hc : exOf cenv a
      · rcases hc with q | ⟨nm', q⟩
        · rw [q, hL] at e4; cases e4
        · have hnm : nm' = Str.ofString x := sit.rel.apart _ _ _ (mem_of_lookup (y.cells nm' a q)) (mem_of_lookup e3)
          subst hnm
          obtain ⟨a', c', f1, f2, f3⟩ := inn.rel.cellv x v (y.same x v a q e1) (y.kind _ _ q)
          have : a' = a := by
            have := y.cells _ _ (mem_of_lookup f1)
            rw [e3] at this; cases this; rfl
          subst this
          exact ⟨a', c', e3, f2, f3⟩
      · exact ⟨a, c, e3, ⟨o, (p.keep a o e4 (sit.rel.cellNew _ a (mem_of_lookup e3)).2.1 hc).cell e4', e4'⟩, e5.mono p.pre imm⟩
    · obtain ⟨o, e⟩ := hthere
      exact old _ o e sit.rel.locNew.2
    · obtain ⟨ov, o, e, _⟩ := sit.rel.cell nm a hm
      obtain ⟨c1, c2, c3⟩ := sit.rel.cellNew nm a hm
      exact ⟨c1, old _ o e c2, c3⟩
  exact ⟨sit.post p' R, p'⟩
end
end Mine

end

section
open PySem PySem.W PyProof.Rows
set_option linter.unusedVariables false
set_option maxRecDepth 100000
namespace Mine

abbrev noX : Store → Prop := fun _ => False

structure CompOk (k : Kinds) (sc : Scope) (x : Str) : Prop where
  kind : sc.kind = .function
  nocell : ∀ p ∈ sc.names, p.2 ≠ .cell
  locs : ∀ p ∈ sc.names, p.2 = .local → (p.1 = x ∨ p.1 = (".0" : Str)) ∧ sc.names.lookup p.1 = some .local
  free : ∀ p ∈ sc.names, p.2 = .free → k p.1 = some .cell ∧ sc.names.lookup p.1 = some .free ∧ p.1 ≠ (".0" : Str)

theorem CompOk.of {k : Kinds} {sc : Scope} {x : Str} (h : trE.compOk k sc x = true) : CompOk k sc x := by
  unfold trE.compOk at h
  simp only [Bool.and_eq_true, List.all_eq_true, Bool.or_eq_true, bne_iff_ne, ne_eq, beq_iff_eq] at h
  obtain ⟨⟨⟨⟨⟨h1, h2⟩, h3⟩, h4⟩, _⟩, _⟩ := h
  exact ⟨h1, h2, fun p hp e => (h3 p hp).resolve_left (fun q => q e), fun p hp e => let ⟨⟨a, b⟩, c⟩ := (h4 p hp).resolve_left (fun q => q e); ⟨a, b, c⟩⟩

section
variable {C : Ctx} {n : Nat} {X : Store → Prop} {k : Kinds} {A : Around} {fr : List Env} {env : Env} {m : Loc} {σ : Store} {ρ : List Addr} {s : Shared} {Ex : Value → Shared → Prop}

theorem kindOf_comp {env : Env} {sc : Scope} {cl : List (Str × Addr)} {L : Addr} (hf : env.scope.kind = .function) (y : Str) :
    (compEnvC sc cl L env).kindOf y = (sc.names.lookup y).map fun k => if (k == NameKind.free && env.kindOf y == some .cell) then NameKind.cell else k := by
  show (relabel sc env).names.lookup y = _
  unfold relabel
  rw [lookup_relabel, hf]
  simp

theorem comp_envOk {sc : Scope} {x : Str} {cl : List (Str × Addr)} {L : Addr} (hk : EnvOk k env) (h : CompOk k sc x) (hcl : ∀ x ∈ sc.names, x.2 = .free → ∃ a, (x.1, a) ∈ cl) :
    EnvOk (fun y => sc.names.lookup y) (compEnvC sc cl L env) where
  kind := h.kind
  globals := hk.globals
  builtins := hk.builtins
  glob := fun x e => by rw [kindOf_comp hk.kind, e]; rfl
  loc := fun x e => by rw [kindOf_comp hk.kind, e]; rfl
  cell := fun x e => absurd rfl (h.nocell (x, .cell) (mem_of_lookup e))
  free := fun x e => by
    rw [kindOf_comp hk.kind, e]
    have := hk.cell _ (h.free (x, .free) (mem_of_lookup e) rfl).1
    simp only at this
    simp [this]
  cellAt := fun x e => by
    rw [kindOf_comp hk.kind] at e
    cases q : sc.names.lookup x with
    | none => rw [q] at e; cases e
    | some kd =>
      rw [q] at e
      simp only [Option.map_some] at e
      split at e
      · rename_i hc
        simp only [Bool.and_eq_true, beq_iff_eq] at hc
        obtain ⟨rfl, _⟩ := hc
        obtain ⟨a, ha⟩ := hcl (x, .free) (mem_of_lookup q) rfl
        show ∃ a, cl.lookup x = some a
        cases r : cl.lookup x with
        | some a => exact ⟨a, rfl⟩
        | none => exact absurd ha (by
            intro hm
            rw [List.lookup_eq_none_iff] at r
            simpa using r _ hm)
      · simp at e; subst e; exact absurd rfl (h.nocell (x, .cell) (mem_of_lookup q))

theorem none_back {ρ' : List Addr} {s' : Shared} {m' : Loc} {σ' : Store} (sit : Sit C n A fr env m σ ρ s) (p : Post C (exOf env) ρ ρ' s s') (sit' : Sit C n A fr env m' σ' ρ' s') {a : Addr} (h : s'.heap.get? a = none) : s.heap.get? a = none := by
  cases q : s.heap.get? a with
  | none => rfl
  | some o =>
    by_cases h1 : a ∈ ρ
    · obtain ⟨i, _, _, e, _⟩ := sit.rel.sr.owned h1
      obtain ⟨_, _, _, _, r⟩ := sit'.rel.sr.owned (List.mem_of_getElem? (p.pre i a e))
      obtain ⟨_, e2, _⟩ := r.there
      rw [h] at e2; cases e2
    · by_cases h2 : exOf env a
      · exact absurd h2 (sit'.rel.not_ex_of_none h)
      · exact ((p.keep a o q h1 h2).not_none h).elim

theorem isList_not_imm {h : Heap} {a : Addr} {xs : Array Value} (hl : h.IsList a xs) (o : Obj) (e : h.get? a = some o) : ¬ Imm o := by
  obtain ⟨o', h1, h2, _⟩ := hl
  rw [h1] at e; cases e
  exact not_imm_cls h2 (by decide) (by decide)
theorem ns_not_imm {h : Heap} {a : Addr} {f : Str → Option Value} (hl : h.Ns a f) (o : Obj) (e : h.get? a = some o) : ¬ Imm o := by
  obtain ⟨o', es, ep, h1, h2, _⟩ := hl
  rw [h1] at e; cases e
  exact not_imm_dict h2

theorem ExcG.no {ex : Addr → Prop} {e : Value} {s' : Shared} (x : ExcP C fr noX ex ρ s e s') : False := by
  obtain ⟨σ', _, _, _, _, _, h, _⟩ := x
  exact h

theorem tests_sound {ifs : List Expr} {cs : List Mine.E} (hifs : All2 (SoundT C n noX k) ifs cs) (hlen : cs.length ≤ 1) (hk : EnvOk k env) (sit : Sit C n A fr env m σ ρ s) {Q : Bool → Store → Prop} (h : wpCs C n noX cs m σ Q) :
    wpAny (model C.prog C.w) A (forIn ifs true fun c r => if r = true then do let ok ← isTrue c env (eval c env); pure (ForInStep.yield ok) else pure (ForInStep.yield r)) (PT C n A fr env m ρ s Q) (ExcP C fr noX (exOf env) ρ s) s := by
  match ifs, cs, hifs, hlen, h with
  | [], [], _, _, h =>
    rw [wpCs] at h
    exact wpAny_tests_nil ⟨σ, ρ, h, sit, .refl⟩
  | [c], [c'], ⟨hc, _⟩, _, h =>
    rw [wpCs] at h
    exact wpAny_tests_one (hc _ _ _ _ _ _ _ _ hk sit h)
  | _ :: _ :: _, _ :: _ :: _, _, hlen, _ => simp at hlen

theorem comp_core {elt iter : Expr} {x : Str} {px : Pos} {ifs : List Expr} {sc : Scope} {pos pos' : Pos} {e : E} {cs : List E} {use : Option (Value → Sem Unit)} {Qf : Value → Shared → Prop} {Qa : List V → Store → Prop}
    (hk : EnvOk k env) (sit : Sit C n A fr env m σ ρ s) (ok : CompOk k sc x) (hx : sc.names.lookup x = some .local) (hn : nameOk x = true) (hset : ∀ v, foldedSetIterable iter env v = pure v)
    (he : SoundE C n noX (fun y => sc.names.lookup y) elt e) (hifs : All2 (SoundT C n noX (fun y => sc.names.lookup y)) ifs cs) (hlen : cs.length ≤ 1)
    (hsrc : wpAny (model C.prog C.w) A (eval iter env) (PE C n A fr env m ρ s (fun sv σ₁ => ∃ items, srcItems σ₁ sv = some items ∧ items.length < 1000000 ∧
      compW sv items x.toString (fun m σ Q => wpCs C n noX cs m σ Q) (fun m σ Q => wpE C n noX e m σ Q) items [] (clr (clr m x.toString) ".0") σ₁ Qa)) Ex s)
    (fin : ∀ ρ' σ' s' D L mL vs ds, Sit C n A fr env m σ' ρ' s' → Post C (exOf env) ρ ρ' s s' → s.heap.get? D = none → Side C fr env ρ' s'.heap D → PlainL s'.heap D ds.toArray → VRs C ρ' s'.heap vs ds →
      s.heap.get? L = none → Side C fr env ρ' s'.heap L → s'.heap.Ns L mL → L ≠ D → Qa vs σ' → compPost (model C.prog C.w) A Ex use Qf (.ref D) L (.ok .next) s') :
    wpAny (model C.prog C.w) A (comprehension (.ListComp elt [⟨.Name x px, iter, ifs, 0⟩] sc pos) sc env pos' (newList []) false (eval iter env) use) Qf Ex s := by
  obtain ⟨cl, hclos, hcl1, hcl2⟩ := closure_at (env := env) (sc := sc) fun y hy hf => hk.cellAt _ (hk.cell _ (ok.free y hy hf).1)
  refine wpAny_comprehension_free rfl hset hclos ok.kind (fun y hy hl => (ok.locs y hy hl).2) (wpAny_mono hsrc (fun c s₁ ⟨sv, σ₁, ρ₁, ⟨items, hitems, hil, hW⟩, hv, sit₁, p₁⟩ => ?_) fun _ _ h => h)
  refine iter_start sit₁ hv hitems fun s₂ I sit₂ p₂ grow₂ hI1 dI₂ it₂ => ?_
  refine wpAny_newObj_type ?_
  -- the accumulator
  have hD2 : s₂.heap.get? s₂.heap.objs.size = none := Heap.get?_none_of_le (Nat.le_refl _)
  obtain ⟨sit₃, p₃⟩ := sit₂.grow (s' := { s₂ with heap := s₂.heap.push { cls := .type "list", data := .seq ([] : List Value).toArray } }) (fun b o e => Heap.get?_push_of_some _ e) rfl rfl
  have hlD₃ : PlainL (s₂.heap.push { cls := .type "list", data := .seq ([] : List Value).toArray }) s₂.heap.objs.size ([] : List Value).toArray := ⟨_, _, Heap.get?_push_size _ rfl, rfl, rfl, rfl⟩
  have dD₃ : Side C fr env ρ₁ (s₂.heap.push { cls := .type "list", data := .seq ([] : List Value).toArray }) s₂.heap.objs.size := let d := Side.new sit₂ hD2; ⟨d.own, d.ex, d.base, d.fr, isList_not_imm hlD₃.isList⟩
  generalize hH : s₂.heap.push { cls := .type "list", data := .seq ([] : List Value).toArray } = H₃ at sit₃ p₃ hlD₃ dD₃ ⊢
  have hL3 : H₃.get? H₃.objs.size = none := Heap.get?_none_of_le (Nat.le_refl _)
  refine wpAny_newFunctionEnv ok.nocell (by intro y hy; simp at hy) (fun h₄ hns₄ hsb₄ => ?_) ok.kind
  dsimp only at hns₄ hsb₄ ⊢
  have old₄ : ∀ b o, H₃.get? b = some o → h₄.get? b = some o := fun b o e => (hsb₄.2 b fun q => by rw [q, hL3] at e; cases e).trans (Heap.get?_push_of_some _ e)
  obtain ⟨sit₄, p₄⟩ := sit₃.grow (s' := { s₂ with heap := h₄, toks := s₂.toks + ([] : List (Str × Value)).length }) old₄ rfl rfl
  have p24 : Post C (exOf env) ρ₁ ρ₁ s₁ { s₂ with heap := h₄, toks := s₂.toks + ([] : List (Str × Value)).length } := (p₂.trans p₃).trans p₄
  have hD1 : s₁.heap.get? s₂.heap.objs.size = none := none_back sit₁ p₂ sit₂ hD2
  have hL1 : s₁.heap.get? H₃.objs.size = none := none_back sit₁ (p₂.trans p₃) sit₃ hL3
  have hDL : s₂.heap.objs.size ≠ H₃.objs.size := fun q => by obtain ⟨o, _, e, _⟩ := hlD₃; rw [q, hL3] at e; cases e
  have hIL : I ≠ H₃.objs.size := fun q => by
    obtain ⟨o, _, _, e, _⟩ := it₂.obj
    exact (p₃.keep I o e dI₂.own dI₂.ex).not_none (by rw [q]; exact hL3)
  have hID : I ≠ s₂.heap.objs.size := fun q => by
    obtain ⟨o, _, _, e, _⟩ := it₂.obj
    rw [q, hD2] at e; cases e
  have dL₄ : Side C fr env ρ₁ h₄ H₃.objs.size := let d := Side.new sit₃ hL3; ⟨d.own, d.ex, d.base, d.fr, ns_not_imm hns₄⟩
  have dI₄ : Side C fr env ρ₁ h₄ I := dI₂.move (s' := { s₂ with heap := h₄, toks := s₂.toks + ([] : List (Str × Value)).length }) (let ⟨o, _, _, e, _⟩ := it₂.obj; ⟨o, e⟩) (p₃.trans p₄)
  have dD₄ : Side C fr env ρ₁ h₄ s₂.heap.objs.size := Side.move (s := { s₂ with heap := H₃ }) (s' := { s₂ with heap := h₄, toks := s₂.toks + ([] : List (Str × Value)).length }) dD₃ (let ⟨o, _, e, _⟩ := hlD₃; ⟨o, e⟩) p₄
  have hlD₄ : PlainL h₄ s₂.heap.objs.size ([] : List Value).toArray := plainAt hlD₃ fun o e => old₄ _ o e
  have it₄ : IterAt C ρ₁ h₄ I 0 sv := it₂.mono (fun _ _ e => e) (fun b o e hi => old₄ b o (by rw [← hH]; exact Heap.get?_push_of_some _ e)) fun o e => old₄ _ o (by rw [← hH]; exact Heap.get?_push_of_some _ e)
  -- the inner frame
  generalize hcenv : compEnvC sc cl H₃.objs.size env = cenv
  have hloc : cenv.locals = H₃.objs.size := by rw [← hcenv]; rfl
  have hcells : cenv.cells = cl := by rw [← hcenv]; rfl
  have hko : ∀ y, cenv.kindOf y = (sc.names.lookup y).map fun k => if (k == NameKind.free && env.kindOf y == some .cell) then NameKind.cell else k := fun y => by rw [← hcenv]; exact kindOf_comp hk.kind y
  have hkc : EnvOk (fun y => sc.names.lookup y) cenv := by rw [← hcenv]; exact comp_envOk hk ok hcl2
  have hxs := (nameOk_eq hn).1
  have hcl3 : ∀ nm a, (nm, a) ∈ cl → env.cells.lookup nm = some a := fun nm a h => (hcl1 _ h).1
  have hclk : ∀ nm a, (nm, a) ∈ cl → sc.names.lookup nm = some .free ∧ env.kindOf nm = some .cell := fun nm a h =>
    have hm := (hcl1 _ h).2
    ⟨(ok.free _ hm rfl).2.1, hk.cell _ (ok.free _ hm rfl).1⟩
  have hkcell : ∀ nm a, (nm, a) ∈ cl → cenv.kindOf nm = some .cell := fun nm a h => by
    obtain ⟨h1, h2⟩ := hclk nm a h
    rw [hko, h1]; simp [h2]
  have hkx : cenv.kindOf x = some .local := by rw [hko, hx]; rfl
  have hkbk : ∀ y, cenv.kindOf y = some .cell → sc.names.lookup y = some .free ∧ env.kindOf y = some .cell := fun y e => by
    rw [hko] at e
    cases q : sc.names.lookup y with
    | none => rw [q] at e; cases e
    | some kd =>
      rw [q] at e
      simp only [Option.map_some] at e
      split at e
      · rename_i hc
        simp only [Bool.and_eq_true, beq_iff_eq] at hc
        exact ⟨by rw [hc.1], hc.2⟩
      · simp at e; subst e; exact absurd rfl (ok.nocell (y, .cell) (mem_of_lookup q))
  have hkloc : ∀ y, cenv.kindOf y = some .local → y = x ∨ y = (".0" : Str) := fun y e => by
    rw [hko] at e
    cases q : sc.names.lookup y with
    | none => rw [q] at e; cases e
    | some kd =>
      rw [q] at e
      simp only [Option.map_some] at e
      split at e
      · cases e
      · simp at e; subst e; exact (ok.locs (y, .local) (mem_of_lookup q) rfl).1
  have hms : ∀ y v, clr (clr m x.toString) ".0" y = some v → m y = some v ∧ y ≠ x.toString ∧ y ≠ ".0" := fun y v e => by
    simp only [clr] at e
    split at e
    · cases e
    · split at e
      · cases e
      · exact ⟨e, by assumption, by assumption⟩
  have ins₀ : Inside env cenv m (clr (clr m x.toString) ".0") := by
    refine ⟨fun nm a h => hcl3 nm a (hcells ▸ h), fun nm a h => hkcell nm a (hcells ▸ h), fun y v a h e => ?_⟩
    have hc := hkcell _ a (hcells ▸ h)
    have h1 : y ≠ x.toString := fun q => by rw [q, hxs, hkx] at hc; cases hc
    have h2 : y ≠ ".0" := fun q => by
      obtain ⟨q1, _⟩ := hkbk _ hc
      exact (ok.free _ (mem_of_lookup q1) rfl).2.2 (by rw [q])
    simp [clr, h1, h2, e]
  have rel₄ : Rel C cenv ⟨clr (clr m x.toString) ".0", σ₁⟩ ρ₁ h₄ := by
    refine ⟨sit₄.rel.sr, ⟨_, by rw [hloc]; exact hns₄, fun y v e1 e2 => ?_⟩, fun nm a hm => sit₄.rel.cell nm a (mem_of_lookup (hcl3 nm a (hcells ▸ hm))), fun y v e1 e2 => ?_, ?_, fun nm a hm => ?_, fun a b c h1 h2 => sit.rel.apart a b c (mem_of_lookup (hcl3 _ _ (hcells ▸ h1))) (mem_of_lookup (hcl3 _ _ (hcells ▸ h2)))⟩
    · obtain ⟨_, h1, h2⟩ := hms y v e1
      rcases hkloc _ e2 with q | q
      · exact absurd (ofString_inj (q.trans hxs.symm)) h1
      · exact absurd (ofString_inj q) h2
    · obtain ⟨e1', _, _⟩ := hms y v e1
      obtain ⟨q1, q2⟩ := hkbk _ e2
      obtain ⟨a, ha⟩ := hcl2 (Str.ofString y, .free) (mem_of_lookup q1) rfl
      obtain ⟨a', c', f1, f2, f3⟩ := sit₄.rel.cellv y v e1' q2
      have haa : a' = a := by have := hcl3 _ _ ha; rw [f1] at this; exact Option.some.inj this
      subst haa
      obtain ⟨a'', ha''⟩ := hkc.cellAt _ e2
      have : a'' = a' := by have := hcl3 _ _ (hcells ▸ mem_of_lookup ha''); rw [f1] at this; exact (Option.some.inj this).symm
      subst this
      exact ⟨_, c', ha'', f2, f3⟩
    · rw [hloc]; exact ⟨dL₄.base, dL₄.own⟩
    · have hm' := mem_of_lookup (hcl3 nm a (hcells ▸ hm))
      obtain ⟨c1, c2, c3⟩ := sit₄.rel.cellNew nm a hm'
      refine ⟨c1, c2, fun q => dL₄.ex (.inr ⟨nm, ?_⟩)⟩
      rw [← hloc, ← q]; exact hm'
  have sitI : Sit C n A fr cenv (clr (clr m x.toString) ".0") σ₁ ρ₁ { s₂ with heap := h₄, toks := s₂.toks + ([] : List (Str × Value)).length } := ⟨sit₄.room, sit₄.frs, sit₄.fok, rel₄⟩
  have p0 : Post C (exOf cenv) ρ₁ ρ₁ s₁ { s₂ with heap := h₄, toks := s₂.toks + ([] : List (Str × Value)).length } :=
    ⟨p24.gens, p24.os, p24.pre, fun a h h' => absurd h h', fun b o e h1 h2 => .inl (old₄ b o (by rw [← hH]; exact Heap.get?_push_of_some _ (grow₂ b o e)))⟩
  have loop : codeAny (model C.prog C.w) A (.compLoop (.ListComp elt [⟨.Name x px, iter, ifs, 0⟩] sc pos) 0 (.ref I) (.ref s₂.heap.objs.size) cenv)
      (compPost (model C.prog C.w) A Ex use Qf (.ref s₂.heap.objs.size) H₃.objs.size) { s₂ with heap := h₄, toks := s₂.toks + ([] : List (Str × Value)).length } := by
    refine codeAny_compLoop_tests (fun j sj => ∃ (acc rest : List V) (i : Nat) (mj : Loc) (σj : Store) (ρj : List Addr) (ds : List Value), j = rest.length ∧ items.drop i = rest ∧ ds.length ≤ i ∧ Sit C n A fr cenv mj σj ρj sj ∧
      Post C (exOf cenv) ρ₁ ρj s₁ sj ∧ IterAt C ρj sj.heap I i sv ∧ Side C fr cenv ρj sj.heap I ∧ Side C fr cenv ρj sj.heap s₂.heap.objs.size ∧ PlainL sj.heap s₂.heap.objs.size ds.toArray ∧ VRs C ρj sj.heap acc ds ∧ Inside env cenv m mj ∧
      compW sv items x.toString (fun m σ Q => wpCs C n noX cs m σ Q) (fun m σ Q => wpE C n noX e m σ Q) rest acc mj σj Qa) ?_ items.length
      ⟨[], items, 0, _, _, _, [], rfl, rfl, Nat.le_refl _, sitI, p0, it₄, dI₄.inside ins₀ (by rw [hloc]; exact hIL), dD₄.inside ins₀ (by rw [hloc]; exact hDL), hlD₄, .nil, ins₀, hW⟩
    rintro j sj ⟨acc, rest, i, mj, σj, ρj, ds, rfl, hdrop, hdl, sitj, pj, itj, dIj, dDj, hlj, hvj, insj, hWj⟩
    have hsrcj : srcItems σj sv = some items := by cases rest <;> exact hWj.1
    have rat : items[i]? = rest[0]? := by rw [← hdrop, List.getElem?_drop]; simp
    refine iter_next sitj hsrcj itj dIj (fun v c h' tk hvi hvc it' keep' => ?_) fun h' hend keep' => ?_
    · cases rest with
      | nil => rw [hvi] at rat; cases rat
      | cons v' r =>
      obtain rfl : v = v' := by rw [hvi] at rat; simpa using rat
      obtain ⟨_, hWj⟩ := hWj
      have sit' := sitj.side (tk := tk) dIj keep'
      have p' := pj.side (tk := tk) hI1 keep'
      have dI' : Side C fr cenv ρj h' I := ⟨dIj.own, dIj.ex, dIj.base, dIj.fr, it'.imm⟩
      have hl' : PlainL h' s₂.heap.objs.size ds.toArray := plainAt hlj fun o e => keep' _ o (Ne.symm hID) e
      have dD' : Side C fr cenv ρj h' s₂.heap.objs.size := ⟨dDj.own, dDj.ex, dDj.base, dDj.fr, isList_not_imm hl'.isList⟩
      have hv' : VRs C ρj h' acc ds := hvj.mono (fun _ _ e => e) fun b o e hi => keep' b o (fun q => by subst q; exact dIj.imm o e hi) e
      refine wpAny_assign_Name (store_loc hkc sit' (x := x) (y := x.toString) (by unfold trLoc; rw [if_pos hn]; simp only [hx]) hvc fun s'' sit'' p'' => ?_)
      have pp := p'.trans p''
      have hIx : ∃ o, h'.get? I = some o := let ⟨o, _, _, e, _⟩ := it'.obj; ⟨o, e⟩
      have hDx : ∃ o, h'.get? s₂.heap.objs.size = some o := let ⟨o, _, e, _⟩ := hl'; ⟨o, e⟩
      have dI'' := Side.move (s := { sj with heap := h', toks := tk }) dI' hIx p''
      have dD'' := Side.move (s := { sj with heap := h', toks := tk }) dD' hDx p''
      have it'' : IterAt C ρj s''.heap I (i + 1) sv := IterAt.move (s := { sj with heap := h', toks := tk }) it' sit' dI' p''
      have hl'' : PlainL s''.heap s₂.heap.objs.size ds.toArray := plain_move (s := { sj with heap := h', toks := tk }) hl' dD' p''
      have hv'' : VRs C ρj s''.heap acc ds := hv'.post (s := { sj with heap := h', toks := tk }) sit'.rel p''
      have ins'' : Inside env cenv m (upd mj x.toString v) := ⟨insj.cells, insj.kind, fun y w a h e => by
        have h1 : y ≠ x.toString := fun q => by have := insj.kind _ a h; rw [q, hxs, hkx] at this; cases this
        simp only [upd, h1, if_false]; exact insj.same y w a h e⟩
      have hdrop' : items.drop (i + 1) = r := by rw [← List.drop_drop, hdrop]; rfl
      refine wpAny_mono (tests_sound hifs hlen hkc sit'' hWj) (fun b s₅ ⟨σ₅, ρ₅, hW₅, sit₅, p₅⟩ => ?_) fun e s' x => x.no.elim
      have dI₅ := dI''.move (let ⟨o, _, _, e, _⟩ := it''.obj; ⟨o, e⟩) p₅
      have dD₅ := dD''.move (let ⟨o, _, e, _⟩ := hl''; ⟨o, e⟩) p₅
      have it₅ : IterAt C ρ₅ s₅.heap I (i + 1) sv := it''.move sit'' dI'' p₅
      have hl₅ : PlainL s₅.heap s₂.heap.objs.size ds.toArray := plain_move hl'' dD'' p₅
      have hv₅ : VRs C ρ₅ s₅.heap acc ds := hv''.post sit''.rel p₅
      cases b with
      | false => exact ⟨r.length, Nat.lt_succ_self _, acc, r, i + 1, _, σ₅, ρ₅, ds, rfl, hdrop', Nat.le_succ_of_le hdl, sit₅, pp.trans p₅, it₅, dI₅, dD₅, hl₅, hv₅, ins'', by simpa using hW₅⟩
      | true =>
      refine wpAny_mono (he A fr cenv _ _ _ _ (fun y σ₂ => compW sv items x.toString (fun m σ Q => wpCs C n noX cs m σ Q) (fun m σ Q => wpE C n noX e m σ Q) r (acc ++ [y]) (upd mj x.toString v) σ₂ Qa) hkc sit₅ (by simpa using hW₅)) (fun c₆ s₆ ⟨y, σ₆, ρ₆, hW₆, hy₆, sit₆, p₆⟩ => ?_) fun e s' x => x.no.elim
      have dI₆ := dI₅.move (let ⟨o, _, _, e, _⟩ := it₅.obj; ⟨o, e⟩) p₆
      have dD₆ := dD₅.move (let ⟨o, _, e, _⟩ := hl₅; ⟨o, e⟩) p₆
      have it₆ : IterAt C ρ₆ s₆.heap I (i + 1) sv := it₅.move sit₅ dI₅ p₆
      have hl₆ : PlainL s₆.heap s₂.heap.objs.size ds.toArray := plain_move hl₅ dD₅ p₆
      have hv₆ : VRs C ρ₆ s₆.heap acc ds := hv₅.post sit₅.rel p₆
      have hil' : i < items.length := by have := (List.getElem?_eq_some_iff.mp hvi).1; exact this
      refine list_append_plainL hl₆ (fun h₇ hl₇ hs₇ => ?_) (by simp only [List.size_toArray, sizeLine]; omega)
      have keep₇ : ∀ b o, b ≠ s₂.heap.objs.size → s₆.heap.get? b = some o → h₇.get? b = some o := fun b o hb e => (hs₇.2 b hb).trans e
      have imm₇ : ∀ b o, s₆.heap.get? b = some o → Imm o → h₇.get? b = some o := fun b o e hi => keep₇ b o (fun q => by subst q; exact dD₆.imm o e hi) e
      have it₇ : IterAt C ρ₆ h₇ I (i + 1) sv := it₆.mono (fun _ _ e => e) imm₇ fun o e => keep₇ I o hID e
      refine ⟨r.length, Nat.lt_succ_self _, acc ++ [y], r, i + 1, _, σ₆, ρ₆, ds ++ [c₆], rfl, hdrop', by simpa using hdl, sit₆.side (tk := s₆.toks) dD₆ keep₇, ((pp.trans p₅).trans p₆).side (tk := s₆.toks) hD1 keep₇, it₇,
        ⟨dI₆.own, dI₆.ex, dI₆.base, dI₆.fr, it₇.imm⟩, ⟨dD₆.own, dD₆.ex, dD₆.base, dD₆.fr, isList_not_imm hl₇.isList⟩, ?_, ?_, ins'', hW₆⟩
      · simpa using hl₇
      · exact (hv₆.mono (fun _ _ e => e) imm₇).append (.cons (hy₆.mono (fun _ _ e => e) imm₇) .nil)
    · have hr : rest = [] := by rw [← hdrop]; exact List.drop_eq_nil_of_le hend
      subst hr
      have sit' := sitj.side (tk := sj.toks) dIj keep'
      have p' := pj.side (tk := sj.toks) hI1 keep'
      obtain ⟨sitO, pO⟩ := sit₁.outOf sit' p' (by rw [hloc]; exact hL1) insj
      have hl' : PlainL h' s₂.heap.objs.size ds.toArray := plainAt hlj fun o e => keep' _ o (Ne.symm hID) e
      have hv' : VRs C ρj h' acc ds := hvj.mono (fun _ _ e => e) fun b o e hi => keep' b o (fun q => by subst q; exact dIj.imm o e hi) e
      obtain ⟨mL, hnsL, _⟩ := sit'.rel.ns
      rw [hloc] at hnsL
      exact fin ρj σj { sj with heap := h', toks := sj.toks } s₂.heap.objs.size H₃.objs.size mL acc ds sitO (p₁.trans pO) (none_back sit p₁ sit₁ hD1)
        ⟨dDj.own, sit₁.rel.not_ex_of_none hD1, dDj.base, dDj.fr, isList_not_imm hl'.isList⟩ hl' hv' (none_back sit p₁ sit₁ hL1)
        ⟨by rw [← hloc]; exact sit'.rel.locNew.2, sit₁.rel.not_ex_of_none hL1, by rw [← hloc]; exact sit'.rel.locNew.1, dL₄.fr, ns_not_imm hnsL⟩ hnsL (Ne.symm hDL) hWj.2
  show codeAny _ _ (.compStart (.ListComp elt [⟨.Name x px, iter, ifs, 0⟩] sc pos) 0 (.ref I) (.ref s₂.heap.objs.size) (compEnvC sc cl H₃.objs.size env)) _ _
  rw [hcenv]
  exact codeAny_compStart_list loop (iter_self (s := { s₂ with heap := h₄, toks := s₂.toks + ([] : List (Str × Value)).length }) it₄ loop)

theorem SoundE.comp {elt iter : Expr} {x : Str} {px : Pos} {ifs : List Expr} {sc : Scope} {pos : Pos} {e src : Mine.E} {cs : List Mine.E}
    (ok : CompOk k sc x) (hx : sc.names.lookup x = some .local) (hn : nameOk x = true) (hset : ∀ env v, foldedSetIterable iter env v = pure v)
    (he : SoundE C n noX (fun y => sc.names.lookup y) elt e) (hsrc : SoundE C n X k iter src) (hifs : All2 (SoundT C n noX (fun y => sc.names.lookup y)) ifs cs) (hlen : cs.length ≤ 1) :
    SoundE C n X k (.ListComp elt [⟨.Name x px, iter, ifs, 0⟩] sc pos) (.comp e x.toString src cs) := fun A fr env m σ ρ s Q hk sit h => by
  rw [wpE] at h
  rw [eval_ListComp]
  refine comp_core (Qa := fun vs σ₂ => Q (.ref σ₂.length) (σ₂ ++ [AObj.list vs])) hk sit ok hx hn (hset env) he hifs hlen (hsrc _ _ _ _ _ _ _ _ hk sit h) fun ρ' σ' s' D L mL vs ds sit' p' hD dD hl hv hL dL hns hLD hq => ?_
  refine ⟨mL, hns, fun h' hs' => ?_⟩
  have keep' : ∀ b o, b ≠ L → s'.heap.get? b = some o → h'.get? b = some o := fun b o hb e => (hs'.2 b hb).trans e
  have sit'' := sit'.side (tk := s'.toks) dL keep'
  have p'' := p'.side (tk := s'.toks) hL keep'
  have hl' : PlainL h' D ds.toArray := plainAt hl fun o e => keep' _ o (Ne.symm hLD) e
  have hv' : VRs C ρ' h' vs ds := hv.mono (fun _ _ e => e) fun b o e hi => keep' b o (fun q => by subst q; exact dL.imm o e hi) e
  obtain ⟨b1, b2, b3⟩ := Sit.adopt (s' := { s' with heap := h', toks := s'.toks }) (o := .list vs) sit hD sit'' p'' dD.own (isList_not_imm hl'.isList) (fun b o _ e => e)
    (.list hl' (hv'.mono (fun _ _ e => getElem?_snoc_of e) fun b o e _ => e)) rfl rfl
  exact ⟨_, _, _, hq, b3, b1, b2⟩

end
end Mine

end

section
open PySem PySem.W PyProof.Rows
set_option linter.unusedVariables false
set_option maxRecDepth 100000
namespace Mine

def FlR (C : Ctx) (ρ : List Addr) (h : Heap) : Fl → Flow → Prop
  | .next, .next => True
  | .cont, .cont => True
  | .ret v, .ret c => VR C ρ h v c
  | _, _ => False

def PSt (C : Ctx) (n : Nat) (A : Around) (fr : List Env) (env : Env) (ρ : List Addr) (s : Shared) (Q : Fl → Loc → Store → Prop) (f : Flow) (s' : Shared) : Prop :=
  ∃ fl m' σ' ρ', Q fl m' σ' ∧ FlR C ρ' s'.heap fl f ∧ Sit C n A fr env m' σ' ρ' s' ∧ Post C (exOf env) ρ ρ' s s'

/-- what an exception of this body may lead to -/
structure Pass (C : Ctx) (A : Around) (fr : List Env) (env : Env) (X : Store → Prop) (EB : Value → Shared → Prop) (ρ : List Addr) (s : Shared) : Prop where
  top : ∃ outer, fr = env :: outer ∧ env.frame = some env.locals
  own : PassesOwn (model C.prog C.w) A env EB
  fly : ∀ e s', ExcP C fr X (exOf env) ρ s e s' → EB e s'
  made : ∀ e s', ExcG MadeW C fr X (exOf env) ρ s e s' → EB e s'

section
variable {C : Ctx} {n : Nat} {X : Store → Prop} {k : Kinds} {A : Around} {fr : List Env} {env : Env} {m : Loc} {σ : Store} {ρ ρ' : List Addr} {s s' : Shared} {EB Ex : Value → Shared → Prop}

theorem Pass.go (p : Pass C A fr env X EB ρ s) (q : Post C (exOf env) ρ ρ' s s') (hf : FrOk C ρ s.heap fr) : Pass C A fr env X EB ρ' s' :=
  ⟨p.top, p.own, fun e s'' x => p.fly e s'' (x.after q hf), fun e s'' x => p.made e s'' (x.after q hf)⟩

theorem PSt.after {Q f s''} (x : PSt C n A fr env ρ' s' Q f s'') (q : Post C (exOf env) ρ ρ' s s') : PSt C n A fr env ρ s Q f s'' :=
  let ⟨fl, m', σ', ρ'', a, b, c, d⟩ := x; ⟨fl, m', σ', ρ'', a, b, c, q.trans d⟩
end

def SoundS (C : Ctx) (n : Nat) (X : Store → Prop) (k : Kinds) (ast : Stmt) (st : S) : Prop :=
  ∀ A fr env m σ ρ s Q EB, EnvOk k env → Sit C n A fr env m σ ρ s → Pass C A fr env X EB ρ s → wpS C n X st m σ Q →
    wpAny (model C.prog C.w) A (exec ast env) (PSt C n A fr env ρ s Q) EB s
def SoundSs (C : Ctx) (n : Nat) (X : Store → Prop) (k : Kinds) (ast : List Stmt) (st : List S) : Prop :=
  ∀ A fr env m σ ρ s Q EB, EnvOk k env → Sit C n A fr env m σ ρ s → Pass C A fr env X EB ρ s → wpSs C n X st m σ Q →
    wpAny (model C.prog C.w) A (execs ast env) (PSt C n A fr env ρ s Q) EB s

section
variable {C : Ctx} {n : Nat} {X : Store → Prop} {k : Kinds} {A : Around} {fr : List Env} {env : Env} {m : Loc} {σ : Store} {ρ ρ' : List Addr} {s s' : Shared} {EB Ex : Value → Shared → Prop}

/-- an expression within a statement -/
theorem SoundE.use {a : Expr} {e : Mine.E} (he : SoundE C n X k a e) (hk : EnvOk k env) (sit : Sit C n A fr env m σ ρ s) (ps : Pass C A fr env X EB ρ s) {Qa : V → Store → Prop} (h : wpE C n X e m σ Qa) {Q : Value → Shared → Prop}
    (hQ : ∀ c v σ' ρ' s', Qa v σ' → VR C ρ' s'.heap v c → Sit C n A fr env m σ' ρ' s' → Post C (exOf env) ρ ρ' s s' → Pass C A fr env X EB ρ' s' → Q c s') : wpAny (model C.prog C.w) A (eval a env) Q EB s :=
  wpAny_mono (he _ _ _ _ _ _ _ _ hk sit h) (fun c s' ⟨v, σ', ρ', h1, h2, h3, h4⟩ => hQ c v σ' ρ' s' h1 h2 h3 h4 (ps.go h4 sit.fok)) ps.fly
theorem SoundT.use {a : Expr} {e : Mine.E} (he : SoundT C n X k a e) (hk : EnvOk k env) (sit : Sit C n A fr env m σ ρ s) (ps : Pass C A fr env X EB ρ s) {Qa : Bool → Store → Prop} (h : wpT C n X e m σ Qa) {Q : Bool → Shared → Prop}
    (hQ : ∀ b σ' ρ' s', Qa b σ' → Sit C n A fr env m σ' ρ' s' → Post C (exOf env) ρ ρ' s s' → Pass C A fr env X EB ρ' s' → Q b s') : wpAny (model C.prog C.w) A (isTrue a env (eval a env)) Q EB s :=
  wpAny_mono (he _ _ _ _ _ _ _ _ hk sit h) (fun c s' ⟨σ', ρ', h1, h3, h4⟩ => hQ c σ' ρ' s' h1 h3 h4 (ps.go h4 sit.fok)) ps.fly

theorem SoundS.pass (pos : Pos) : SoundS C n X k (.Pass pos) .pass := fun A fr env m σ ρ s Q EB hk sit ps h => by
  rw [wpS] at h
  exact wpAny_Pass ⟨_, _, _, _, h, trivial, sit, .refl⟩
theorem SoundS.cont (pos : Pos) : SoundS C n X k (.Continue pos) .cont := fun A fr env m σ ρ s Q EB hk sit ps h => by
  rw [wpS] at h
  exact wpAny_Continue ⟨_, _, _, _, h, trivial, sit, .refl⟩
theorem SoundS.ret {a : Expr} {e : Mine.E} (pos : Pos) (he : SoundE C n X k a e) : SoundS C n X k (.Return (some a) pos) (.ret e) := fun A fr env m σ ρ s Q EB hk sit ps h => by
  rw [wpS] at h
  exact wpAny_Return_some (he.use hk sit ps h fun c v σ' ρ' s' h1 h2 h3 h4 _ => ⟨_, _, _, _, h1, h2, h3, h4⟩)

theorem swaps_none {a : Expr} (h : isListComp a = false) (t : Option Expr) (l : Nat) (env : Env) : swapsWith a t l env = pure false := by
  cases a <;> first | rfl | (simp [isListComp] at h)
theorem notInteractive (hk : EnvOk k env) : interactive env = false := by
  unfold interactive; rw [hk.kind]; rfl

theorem SoundS.expr {a : Expr} {e : Mine.E} (pos : Pos) (hl : isListComp a = false) (he : SoundE C n X k a e) : SoundS C n X k (.Expr a pos) (.expr e) := fun A fr env m σ ρ s Q EB hk sit ps h => by
  rw [wpS] at h
  exact wpAny_Expr_any (he.use hk sit ps h fun c v σ' ρ' s' h1 h2 h3 h4 _ => ⟨_, _, _, _, h1, trivial, h3, h4⟩) (notInteractive hk) (swaps_none hl _ _ _)

theorem SoundS.ite {t : Expr} {e : Mine.E} {b o : List Stmt} {b' o' : List S} (pos : Pos) (he : SoundT C n X k t e) (hb : SoundSs C n X k b b') (ho : SoundSs C n X k o o') : SoundS C n X k (.If t b o pos) (.ite e b' o') :=
  fun A fr env m σ ρ s Q EB hk sit ps h => by
  rw [wpS] at h
  refine wpAny_If (he.use hk sit ps h fun c σ' ρ' s' h1 h3 h4 ps' => ?_)
  cases c
  · exact wpAny_mono (ho _ _ _ _ _ _ _ _ _ hk h3 ps' h1) (fun f s'' x => x.after h4) fun _ _ x => x
  · exact wpAny_mono (hb _ _ _ _ _ _ _ _ _ hk h3 ps' h1) (fun f s'' x => x.after h4) fun _ _ x => x

theorem SoundSs.nil : SoundSs C n X k [] [] := fun A fr env m σ ρ s Q EB hk sit ps h => by
  rw [wpSs] at h
  exact wpAny_execs_nil ⟨_, _, _, _, h, trivial, sit, .refl⟩
theorem SoundSs.cons {a : Stmt} {r : List Stmt} {a' : S} {r' : List S} (ha : SoundS C n X k a a') (hr : SoundSs C n X k r r') : SoundSs C n X k (a :: r) (a' :: r') := fun A fr env m σ ρ s Q EB hk sit ps h => by
  rw [wpSs] at h
  refine wpAny_execs_cons (wpAny_mono (ha _ _ _ _ _ _ _ _ _ hk sit ps h) (fun f s' ⟨fl, m', σ', ρ', h1, h2, h3, h4⟩ => ?_) fun _ _ x => x)
  cases fl <;> cases f <;> simp only [FlR] at h2
  · exact wpAny_mono (hr _ _ _ _ _ _ _ _ _ hk h3 (ps.go h4 sit.fok) h1) (fun f s'' x => x.after h4) fun _ _ x => x
  · exact ⟨_, _, _, _, h1, trivial, h3, h4⟩
  · exact ⟨_, _, _, _, h1, h2, h3, h4⟩

theorem SoundS.while {t : Expr} {e : Mine.E} {b : List Stmt} {b' : List S} (pos : Pos) (he : SoundT C n X k t e) (hb : SoundSs C n X k b b') : SoundS C n X k (.While t b [] pos) (.while e b') :=
  fun A fr env m σ ρ s Q EB hk sit ps h => by
  rw [wpS] at h
  obtain ⟨fuel, h⟩ := h
  refine wpAny_While (codeAny_whileLoop (fun j sj => ∃ m' σ' ρ', whileW (fun m σ Q => wpT C n X e m σ Q) (fun m σ Q => wpSs C n X b' m σ Q) j m' σ' Q ∧ Sit C n A fr env m' σ' ρ' sj ∧ Post C (exOf env) ρ ρ' s sj) ?_ fuel ⟨m, σ, ρ, h, sit, .refl⟩)
  rintro j sj ⟨m', σ', ρ', hw, sitj, pj⟩
  have psj := ps.go pj sit.fok
  cases j with
  | zero => exact hw.elim
  | succ j =>
    refine wpAny_passesOwn ps.own (he.use hk sitj psj hw fun c σ₁ ρ₁ s₁ h1 sit₁ p₁ ps₁ => ?_)
    cases c with
    | false => exact wpAny_passesOwn ps.own (wpAny_execs_nil ⟨Fl.next, m', σ₁, ρ₁, by simpa using h1, trivial, sit₁, pj.trans p₁⟩)
    | true =>
      simp only [if_true] at h1
      refine wpAny_passesOwn ps.own (wpAny_mono (hb _ _ _ _ _ _ _ _ _ hk sit₁ ps₁ h1) (fun f s₂ ⟨fl, m₂, σ₂, ρ₂, h2, hf, sit₂, p₂⟩ => ?_) fun _ _ x => x)
      cases fl <;> cases f <;> simp only [FlR] at hf
      · exact ⟨j, Nat.lt_succ_self _, _, _, _, h2, sit₂, (pj.trans p₁).trans p₂⟩
      · exact ⟨j, Nat.lt_succ_self _, _, _, _, h2, sit₂, (pj.trans p₁).trans p₂⟩
      · exact ⟨_, _, _, _, h2, hf, sit₂, (pj.trans p₁).trans p₂⟩

/-- binding -/
def SoundB (C : Ctx) (n : Nat) (k : Kinds) (ast : Expr) (t : T) : Prop :=
  ∀ A fr env m σ ρ s v c m' (Ex : Value → Shared → Prop) (Q : Unit → Shared → Prop), EnvOk k env → Sit C n A fr env m σ ρ s → VR C ρ s.heap v c → bndT t v m = some m' →
    (∀ s', Sit C n A fr env m' σ ρ s' → Post C (exOf env) ρ ρ s s' → Q () s') → wpAny (model C.prog C.w) A (assign ast env c) Q Ex s

theorem SoundB.name {x : Str} {y : String} (p : Pos) (hl : trLoc k x = some y) : SoundB C n k (.Name x p) (.name y) := fun A fr env m σ ρ s v c m' Ex Q hk sit hv hb hQ => by
  simp only [bndT] at hb; cases hb
  exact wpAny_assign_Name (store_loc hk sit hl hv hQ)

/-- stores one by one -/
def StoreOk (C : Ctx) (n : Nat) (A : Around) (fr : List Env) (env : Env) (t : Value → Sem Unit) (x : String) : Prop :=
  ∀ m σ ρ s v c (Ex : Value → Shared → Prop) (Q : Unit → Shared → Prop), Sit C n A fr env m σ ρ s → VR C ρ s.heap v c →
    (∀ s', Sit C n A fr env (upd m x v) σ ρ s' → Post C (exOf env) ρ ρ s s' → Q () s') → wpAny (model C.prog C.w) A (t c) Q Ex s

theorem inOrder_sound {vs : List V} : ∀ {cs : List Value} {ts : List (Value → Sem Unit)} {xs : List String} {m m' : Loc} {s : Shared} {Q : Unit → Shared → Prop}, All2 (StoreOk C n A fr env) ts xs → Sit C n A fr env m σ ρ s → VRs C ρ s.heap vs cs →
    bindL xs vs m = some m' → (∀ s', Sit C n A fr env m' σ ρ s' → Post C (exOf env) ρ ρ s s' → Q () s') → wpAny (model C.prog C.w) A (assignInOrder ts cs) Q Ex s := by
  induction vs with
  | nil =>
    intro cs ts xs m m' s Q ht sit hv hb hQ
    cases xs with
    | cons x xs => simp [bindL] at hb
    | nil =>
      cases ts with
      | cons _ _ => exact ht.elim
      | nil =>
        simp only [bindL] at hb; cases hb
        cases hv
        exact wpAny_pure (hQ _ sit .refl)
  | cons v vs ih =>
    intro cs ts xs m m' s Q ht sit hv hb hQ
    cases xs with
    | nil => simp [bindL] at hb
    | cons x xs =>
      cases ts with
      | nil => exact ht.elim
      | cons t ts =>
        obtain ⟨ht, hts⟩ := ht
        rcases hv with _ | ⟨hv, hvs⟩
        rename_i c cs
        show wpAny _ _ (do holding cs (t c); assignInOrder ts cs) _ _ _
        refine wpAny_bind (wpAny_holding (ht _ _ _ _ _ _ _ _ sit hv fun s₁ sit₁ p₁ => ?_))
        exact ih hts sit₁ (hvs.post sit.rel p₁) hb fun s₂ sit₂ p₂ => hQ s₂ sit₂ (p₁.trans p₂)

theorem each_names : ∀ {es : List Expr} {xs : List String}, trT.names k es = some xs → EnvOk k env → (assignEach es env).length = xs.length ∧ (assignEach es env).findIdx? (·.1) = none ∧ All2 (StoreOk C n A fr env) ((assignEach es env).map (·.2)) xs
  | [], xs, h, _ => by simp only [trT.names] at h; cases h; exact ⟨rfl, rfl, trivial⟩
  | .Name x p :: r, xs, h, hk => by
    simp only [trT.names] at h
    split at h
    · rename_i a b ha hb
      cases h
      obtain ⟨h1, h2, h3⟩ := each_names hb hk
      refine ⟨by show _ + 1 = _ + 1; rw [h1], ?_, fun m σ ρ s v c Ex Q sit hv hQ => wpAny_assign_Name (store_loc hk sit ha hv hQ), h3⟩
      show List.findIdx? _ ((false, assign (.Name x p) env) :: assignEach r env) = none
      rw [List.findIdx?_cons]; simp [h2]
    · cases h

theorem bindL_length : ∀ {xs : List String} {vs : List V} {m m' : Loc}, bindL xs vs m = some m' → xs.length = vs.length
  | [], [], _, _, _ => rfl
  | _ :: _, _ :: _, _, _, h => by simp only [bindL] at h; simp [bindL_length h]
  | [], _ :: _, _, _, h => by simp [bindL] at h
  | _ :: _, [], _, _, h => by simp [bindL] at h

theorem SoundB.tup {es : List Expr} {xs : List String} (kd : Nat) (p : Pos) (hn : trT.names k es = some xs) : SoundB C n k (.Tuple es kd p) (.tup xs) := fun A fr env m σ ρ s v c m' Ex Q hk sit hv hb hQ => by
  cases hv with
  | tup ht hvs =>
    simp only [bndT] at hb
    obtain ⟨h1, h2, h3⟩ := each_names (C := C) (n := n) (A := A) (fr := fr) hn hk
    have hl := bindL_length hb
    have hl2 := hvs.length
    refine wpAny_assign_Tuple sit.room.handled ht (by rw [h1]; simp; omega) h2 fun h' hx => ?_
    have hn' : s.heap.get? s.heap.objs.size = none := Heap.get?_none_of_le (Nat.le_refl _)
    have hk' : ∀ b o, s.heap.get? b = some o → h'.get? b = some o := fun b o e => hx b o (fun q => by subst q; rw [hn'] at e; cases e) e
    obtain ⟨sit₁, p₁⟩ := sit.grow (s' := { s with heap := h' }) hk' rfl rfl
    exact inOrder_sound h3 sit₁ (hvs.post (s' := { s with heap := h' }) sit.rel p₁) hb fun s₂ sit₂ p₂ => hQ s₂ sit₂ (p₁.trans p₂)
  | _ => simp [bndT] at hb

end
end Mine

end

section
open PySem PySem.W PyProof.Rows
set_option linter.unusedVariables false
set_option maxRecDepth 100000
namespace Mine

section
variable {C : Ctx} {n : Nat} {X : Store → Prop} {k : Kinds} {A : Around} {fr : List Env} {env : Env} {m : Loc} {σ : Store} {ρ ρ' : List Addr} {s s' : Shared} {EB Ex : Value → Shared → Prop}

theorem folded_of {e : Expr} (h : isSetE e = false) (env : Env) (v : Value) : foldedSetIterable e env v = pure v := by
  cases e <;> first | rfl | (simp [isSetE] at h)

theorem SoundS.for {t it : Expr} {t' : T} {e : Mine.E} {b : List Stmt} {b' : List S} (pos : Pos) (hset : isSetE it = false) (ht : SoundB C n k t t') (he : SoundE C n X k it e) (hb : SoundSs C n X k b b') :
    SoundS C n X k (.For t it b [] pos) (.for t' e b') := fun A fr env m σ ρ s Q EB hk sit ps h => by
  rw [wpS] at h
  refine wpAny_For (he.use hk sit ps h fun c sv σ₁ ρ₁ s₁ ⟨items, hi, hW⟩ hv sit₁ p₁ ps₁ => ?_) (folded_of hset env)
  refine iter_start sit₁ hv hi fun s₂ I sit₂ p₂ grow₂ hI1 dI₂ it₂ => ?_
  have p12 := p₁.trans p₂
  refine codeAny_forLoop_any (fun j sj => ∃ rest i m' σ' ρ', j = rest.length ∧ items.drop i = rest ∧ Sit C n A fr env m' σ' ρ' sj ∧ Post C (exOf env) ρ₁ ρ' s₁ sj ∧ IterAt C ρ' sj.heap I i sv ∧ Side C fr env ρ' sj.heap I ∧
    forW sv items (bndT t') (fun m σ Q => wpSs C n X b' m σ Q) rest m' σ' Q) ?_ items.length ⟨items, 0, m, σ₁, ρ₁, rfl, rfl, sit₂, p₂, it₂, dI₂, hW⟩
  rintro j sj ⟨rest, i, m', σ', ρ', rfl, hdrop, sitj, pj, itj, dIj, hWj⟩
  have hsrcj : srcItems σ' sv = some items := by cases rest <;> exact hWj.1
  have rat : items[i]? = rest[0]? := by rw [← hdrop, List.getElem?_drop]; simp
  refine iter_next sitj hsrcj itj dIj (fun v c h' tk hvi hvc it' keep' => ?_) fun h' hend keep' => ?_
  · cases rest with
    | nil => rw [hvi] at rat; cases rat
    | cons v' r =>
    obtain rfl : v = v' := by rw [hvi] at rat; simpa using rat
    obtain ⟨_, m₂, hbnd, hWj⟩ := hWj
    have sit' := sitj.side (tk := tk) dIj keep'
    have p' := pj.side (tk := tk) hI1 keep'
    have dI' : Side C fr env ρ' h' I := ⟨dIj.own, dIj.ex, dIj.base, dIj.fr, it'.imm⟩
    refine letOwned_sound (s := { sj with heap := h', toks := tk }) it' t c (ht _ _ _ _ _ _ _ _ _ _ _ _ hk sit' hvc hbnd fun s'' sit'' p'' => ?_)
    have pp := p'.trans p''
    have hIx : ∃ o, h'.get? I = some o := let ⟨o, _, _, e, _⟩ := it'.obj; ⟨o, e⟩
    have dI'' := Side.move (s := { sj with heap := h', toks := tk }) dI' hIx p''
    have it'' : IterAt C ρ' s''.heap I (i + 1) sv := IterAt.move (s := { sj with heap := h', toks := tk }) it' sit' dI' p''
    have hdrop' : items.drop (i + 1) = r := by rw [← List.drop_drop, hdrop]; rfl
    refine wpAny_passesOwn ps.own (wpAny_mono (hb _ _ _ _ _ _ _ _ _ hk sit'' (ps₁.go pp sit₁.fok) hWj) (fun f s₃ ⟨fl, m₃, σ₃, ρ₃, h3, hf, sit₃, p₃⟩ => ?_) fun _ _ x => x)
    have dI₃ := dI''.move (let ⟨o, _, _, e, _⟩ := it''.obj; ⟨o, e⟩) p₃
    have it₃ : IterAt C ρ₃ s₃.heap I (i + 1) sv := it''.move sit'' dI'' p₃
    cases fl <;> cases f <;> simp only [FlR] at hf
    · exact ⟨r.length, Nat.lt_succ_self _, r, i + 1, m₃, σ₃, ρ₃, rfl, hdrop', sit₃, pp.trans p₃, it₃, dI₃, h3⟩
    · exact ⟨r.length, Nat.lt_succ_self _, r, i + 1, m₃, σ₃, ρ₃, rfl, hdrop', sit₃, pp.trans p₃, it₃, dI₃, h3⟩
    · exact ⟨_, _, _, _, h3, hf, sit₃, p₁.trans (pp.trans p₃)⟩
  · have hr : rest = [] := by rw [← hdrop]; exact List.drop_eq_nil_of_le hend
    subst hr
    exact wpAny_execs_nil ⟨Fl.next, m', σ', ρ', hWj.2, trivial, sitj.side (tk := sj.toks) dIj keep', p₁.trans (pj.side (tk := sj.toks) hI1 keep')⟩

theorem plain_setItem {l : Addr} {items : Array Value} {i : Int} {t : Tok} {v : Value} {Q : Unit → Shared → Prop} (hl : PlainL s.heap l items)
    (h0 : 0 ≤ i) (hfit : i < 2 ^ 63) (hn : i < items.size)
    (hQ : ∀ h', PlainL h' l (items.setIfInBounds i.toNat v) → Heap.SameBut l s.heap h' → Q () { s with heap := h' }) :
    wpAny (model C.prog C.w) A (setItem (.ref l) (.int i t) v) Q Ex s := by
  obtain ⟨o, ne, ho, hc, hdn, hd⟩ := id hl
  unfold setItem
  try with_reducible refine wpAny_holding ?_
  first | refine wpAny_bind (wpAny_pure ?_) | skip
  refine wpAny_bind (wpAny_sequenceKey hl.isList.typeIs (by decide) ?_)
  refine wpAny_bind (wpAny_callSpecial?_slot (name := Str.ofString "__setitem__") hl.isList.typeIs slot_list_setitem
    (wpAny_call_entry slot_list_setitem hl.isList.typeIs entry_list_setitem ?_ (args_list_setitem _ _ _)))
  show wpAny _ _ (Builtin.List.listSubscript? (.int i t) >>= _) _ _ s
  refine wpAny_bind (wpAny_listSubscript_int (fitsIndex_of h0 hfit) ?_)
  clear hfit
  obtain ⟨j, rfl⟩ := Int.eq_ofNat_of_zero_le h0
  have hj : j < items.size := by omega
  have hx' : items[j]? = some items[j] := Array.getElem?_eq_getElem hj
  show wpAny _ _ ((seqItemAt l j >>= fun r => pure (r.map (j, ·))) >>= _) _ _ s
  refine wpAny_bind (wpAny_bind (wpAny_seqItemAt ho hd (wpAny_pure ?_)))
  rw [hx']
  show wpAny _ _ (setSeqItemAt l j v >>= _) _ _ s
  obtain ⟨n', hd'⟩ := Obj.data_mapSeq hd (·.setIfInBounds j v)
  have hfin : PlainL (s.heap.update l (Obj.mapSeq (·.setIfInBounds j v))) l (items.setIfInBounds j v) := by
    refine ⟨_, n', Heap.get?_update_self _ ho (Obj.isFreed_of_seq hd'), (Obj.cls_mapSeq ..).trans hc, ?_, hd'⟩
    obtain ⟨c, d, dt, sl⟩ := o
    subst hd
    exact hdn
  refine wpAny_bind (wpAny_setSeqItemAt ho hd ?_)
  first
    | exact wpAny_bind (wpAny_pure (wpAny_pure ⟨.none, rfl, wpAny_pure (hQ _ hfin (Heap.SameBut.update ..))⟩))
    | exact wpAny_pure ⟨.none, rfl, wpAny_pure (hQ _ hfin (Heap.SameBut.update ..))⟩

theorem setItem_sound (sit : Sit C n A fr env m σ ρ s) {va vi v : V} {ca ci c : Value} (ha : VR C ρ s.heap va ca) (hi : VR C ρ s.heap vi ci) (hv : VR C ρ s.heap v c) {σ' : Store} (h : setItemV σ va vi v = some σ') {Q : Unit → Shared → Prop}
    (hQ : ∀ s', Sit C n A fr env m σ' ρ s' → Post C (exOf env) ρ ρ s s' → Q () s') : wpAny (model C.prog C.w) A (setItem ca ci c) Q Ex s := by
  unfold setItemV at h
  split at h
  · rename_i i j
    cases ha; rename_i l e
    cases hi; rename_i t
    split at h
    · rename_i xs hs
      split at h
      · rename_i hb
        cases h
        obtain ⟨cs, hl, hvs⟩ := plain_at sit hs e
        have hlen := hvs.length
        refine plain_setItem hl hb.1 (by omega) (by simp; omega) fun h' hl' hs' => ?_
        have imm : ∀ b o, s.heap.get? b = some o → Imm o → h'.get? b = some o := fun b o e' hi => (hs'.2 b fun q => sit.rel.sr.not_imm e' hi (q ▸ List.mem_of_getElem? e)).trans e'
        have hl'' : PlainL h' l (cs.set j.toNat c).toArray := by simpa using hl'
        obtain ⟨a, b⟩ := sit.update (s' := { s with heap := h' }) hs e hs' (.list hl'' ((hvs.set hv).mono (fun _ _ e => e) imm)) rfl rfl
        exact hQ _ a b
      · cases h
    · rename_i f z hs
      split at h
      · rename_i hz
        cases h
        obtain ⟨g, hm, hzl, hf⟩ := dict_at sit hs e
        refine wpAny_setItem_intMap_le hm hzl (by rw [sizeLine_eq]; omega) fun h' hm' hz' hs' => ?_
        have imm : ∀ b o, s.heap.get? b = some o → Imm o → h'.get? b = some o := fun b o e' hi => (hs'.2 b fun q => sit.rel.sr.not_imm e' hi (q ▸ List.mem_of_getElem? e)).trans e'
        obtain ⟨a, b⟩ := sit.update (s' := { s with heap := h', toks := s.toks + 1 }) (o' := .dict (fun y => if y = j then some v else f y) (z + 1)) hs e hs' (.dict hm' hz' fun y w e1 => by
          split at e1
          · rename_i q; subst q; cases e1
            exact ⟨c, by simp, hv.mono (fun _ _ e => e) imm⟩
          · rename_i q
            obtain ⟨c', e3, e4⟩ := hf _ _ e1
            exact ⟨c', by rw [if_neg q]; exact e3, e4.mono (fun _ _ e => e) imm⟩) rfl rfl
        exact hQ _ a b
      · cases h
    · cases h
  · cases h

/-- assignment -/
def SoundA (C : Ctx) (n : Nat) (X : Store → Prop) (k : Kinds) (ast : Expr) (t : T) : Prop :=
  ∀ A fr env m σ ρ s v c Q, EnvOk k env → Sit C n A fr env m σ ρ s → VR C ρ s.heap v c → wpAssign C n X t v m σ Q →
    wpAny (model C.prog C.w) A (assign ast env c) (fun _ s' => ∃ m' σ' ρ', Q m' σ' ∧ Sit C n A fr env m' σ' ρ' s' ∧ Post C (exOf env) ρ ρ' s s') (ExcP C fr X (exOf env) ρ s) s

theorem SoundA.name {x : Str} {y : String} (p : Pos) (hl : trLoc k x = some y) : SoundA C n X k (.Name x p) (.name y) := fun A fr env m σ ρ s v c Q hk sit hv h =>
  SoundB.name (C := C) (n := n) (k := k) p hl _ _ _ _ _ _ _ _ _ _ _ _ hk sit hv rfl fun s' a b => ⟨_, _, _, h, a, b⟩
theorem SoundA.tup {es : List Expr} {xs : List String} (kd : Nat) (p : Pos) (hn : trT.names k es = some xs) : SoundA C n X k (.Tuple es kd p) (.tup xs) := fun A fr env m σ ρ s v c Q hk sit hv h => by
  obtain ⟨m', h1, h2⟩ := h
  exact SoundB.tup (C := C) (n := n) (k := k) kd p hn _ _ _ _ _ _ _ _ _ _ _ _ hk sit hv h1 fun s' a b => ⟨_, _, _, h2, a, b⟩
theorem SoundA.sub {o i : Expr} {eo ei : Mine.E} (p : Pos) (hs : isSl i = false) (ho : SoundE C n X k o eo) (hi : SoundE C n X k i ei) : SoundA C n X k (.Subscript o i p) (.sub eo ei) := fun A fr env m σ ρ s v c Q hk sit hv h => by
  simp only [wpAssign] at h
  rw [assign_Subscript]
  refine wpAny_bind (wpAny_holding (wpAny_mono (ho _ _ _ _ _ _ _ _ hk sit h) (fun co s₁ ⟨vo, σ₁, ρ₁, h₁, hvo, sit₁, p₁⟩ => ?_) fun _ _ x => x))
  refine wpAny_bind (wpAny_holding (go_on (hi _ _ _ _ _ _ _ _ hk sit₁ h₁) p₁ sit.fok fun ci s₂ ⟨vi, σ₂, ρ₂, ⟨σ', h₂, h₃⟩, hvi, sit₂, p₂⟩ => ?_))
  refine wpAny_bind (wpAny_standAt (wpAny_bind (wpAny_holding (setItem_sound sit₂ (hvo.post sit₁.rel p₂) hvi ((hv.post sit.rel p₁).post sit₁.rel p₂) h₂ fun s₃ sit₃ p₃ => wpAny_releaseD ?_))))
  exact ⟨_, _, _, h₃, sit₃, (p₁.trans p₂).trans p₃⟩
theorem SoundA.attr (OK : C.Ok) {x a : Str} (hx : nameOk x = true) (hl : isLoc k x = true) (ha : Str.ofString a.toString = a) (p pos : Pos) : SoundA C n X k (.Attribute (.Name x p) a pos) (.attr x.toString a.toString) := fun A fr env m σ ρ s v c Q hk sit hv h => by
  simp only [wpAssign] at h
  obtain ⟨va, h1, σ', h2, h3⟩ := h
  rw [assign_Attribute]
  refine wpAny_bind (wpAny_holding (wpAny_Name (load_loc hk sit (nameOk_eq hx).1 hl h1 fun co hco => ?_) (nameOk_eq hx).2))
  have := setAttr_sound (E := ExcP C fr X (exOf env) ρ s) (A := A) (Q := fun _ s₁ => wpAny (model C.prog C.w) A (release [c, co] []) (fun _ s' => ∃ m' σ' ρ', Q m' σ' ∧ Sit C n A fr env m' σ' ρ' s' ∧ Post C (exOf env) ρ ρ' s s') (ExcP C fr X (exOf env) ρ s) s₁)
    OK sit hco hv h2 fun s' a b => wpAny_releaseD ⟨_, _, _, h3, a, b⟩
  rw [ha] at this
  exact wpAny_bind (wpAny_standAt (wpAny_bind (wpAny_holding this)))

end
end Mine

end

section
open PySem PySem.W PyProof.Rows
set_option linter.unusedVariables false
set_option maxRecDepth 100000
namespace Mine

section
variable {C : Ctx} {n : Nat} {X : Store → Prop} {k : Kinds} {A : Around} {fr : List Env} {env : Env} {m : Loc} {σ : Store} {ρ ρ' : List Addr} {s s' : Shared} {EB Ex : Value → Shared → Prop}

theorem assign_plain {t v : Expr} {t' : T} {e : Mine.E} {pos : Pos} (hl : isListComp v = false) (ha : SoundA C n X k t t') (he : SoundE C n X k v e) (hk : EnvOk k env) (sit : Sit C n A fr env m σ ρ s) (ps : Pass C A fr env X EB ρ s)
    (hE : (assignEach [t] env).map (·.2) = [assign t env]) (hw : swappedStores [t] v env = pure none) {Q : Fl → Loc → Store → Prop} (h : wpS C n X (.assign t' e) m σ Q) :
    wpAny (model C.prog C.w) A (exec (.Assign [t] v pos) env) (PSt C n A fr env ρ s Q) EB s := by
  rw [wpS] at h
  refine wpAny_Assign_stores (he.use hk sit ps h fun c w σ₁ ρ₁ s₁ h1 hv sit₁ p₁ ps₁ => ?_) (swaps_none hl _ _ _) hw
  rw [hE]
  exact wpAny_mono (ha _ _ _ _ _ _ _ _ _ _ hk sit₁ hv h1) (fun _ s₂ ⟨m', σ', ρ', h2, sit₂, p₂⟩ => ⟨_, _, _, _, h2, trivial, sit₂, p₁.trans p₂⟩) ps₁.fly

theorem SoundS.assign1 {t v : Expr} {t' : T} {e : Mine.E} (pos : Pos) (hl : isListComp v = false) (ha : SoundA C n X k t t') (he : SoundE C n X k v e)
    (hE : ∀ env, (assignEach [t] env).map (·.2) = [assign t env]) (hw : ∀ env, swappedStores [t] v env = pure none) : SoundS C n X k (.Assign [t] v pos) (.assign t' e) := fun A fr env m σ ρ s Q EB hk sit ps h =>
  assign_plain hl ha he hk sit ps (hE env) (hw env) h

def swapName (env : Env) (line : Nat) : Expr → Option Str
  | .Name id pos => if env.kindOf id == some .local && pos.line == line then some id else none
  | _ => none

theorem swapped_cases {ts vs : List Expr} {kd kd' : Nat} {p p' : Pos} (env : Env) (hc : vs.all (constantsAlone 8) = false) :
    swappedStores [.Tuple ts kd p] (.Tuple vs kd' p') env = pure none ∨
      ∃ l, swappedStores [.Tuple ts kd p] (.Tuple vs kd' p') env = pure (some (ts.filterMap (swapName env l))) ∧ (ts.filterMap (swapName env l)).length = ts.length := by
  unfold swappedStores
  dsimp only
  split
  · exact .inl rfl
  · split
    · exact .inl rfl
    · have e : (ts.filterMap fun x => match x with
        | .Name id pos => if (env.kindOf id == some .local && pos.line == (ts.head?.map (·.pos.line)).getD 0) = true then some id else none
        | _ => none) = ts.filterMap (swapName env ((ts.head?.map (·.pos.line)).getD 0)) := by
        congr 1
      split
      · exact .inl rfl
      · rename_i hn
        split
        · exact .inl rfl
        · rw [hc]
          refine .inr ⟨(ts.head?.map (·.pos.line)).getD 0, ?_, ?_⟩
          · rw [← e]; rfl
          · rw [← e]
            simp only [bne_iff_ne, ne_eq, Bool.or_eq_true, not_or, Decidable.not_not] at hn
            exact hn.1

theorem names_length : ∀ {es : List Expr} {xs : List String}, trT.names k es = some xs → es.length = xs.length
  | [], xs, h => by simp only [trT.names] at h; cases h; rfl
  | .Name x p :: r, xs, h => by
    simp only [trT.names] at h
    split at h
    · rename_i a b ha hb
      cases h
      simp [names_length hb]
    · cases h

theorem swap_names {l : Nat} : ∀ {es : List Expr} {xs : List String}, trT.names k es = some xs → EnvOk k env → (es.filterMap (swapName env l)).length = es.length →
    All2 (StoreOk C n A fr env) ((es.filterMap (swapName env l)).map fun n => bindName env n) xs
  | [], xs, h, _, _ => by simp only [trT.names] at h; cases h; trivial
  | .Name x p :: r, xs, h, hk, hl => by
    simp only [trT.names] at h
    split at h
    · rename_i a b ha hb
      cases h
      cases q : swapName env l (.Name x p) with
      | none =>
        rw [List.filterMap_cons_none q] at hl
        have := List.length_filterMap_le (swapName env l) r
        simp at hl; omega
      | some y =>
        rw [List.filterMap_cons_some q] at hl ⊢
        simp only [List.length_cons, Nat.add_right_cancel_iff] at hl
        have : y = x := by
          simp only [swapName] at q
          split at q
          · cases q; rfl
          · cases q
        subst this
        exact ⟨fun m σ ρ s v c Ex Q sit hv hQ => wpAny_bindName (store_loc hk sit ha hv hQ), swap_names hb hk hl⟩
    · cases h

theorem All2.snoc {α β : Type} {P : α → β → Prop} {a : α} {b : β} : ∀ {as : List α} {bs : List β}, All2 P as bs → P a b → All2 P (as ++ [a]) (bs ++ [b])
  | [], [], _, h => ⟨h, trivial⟩
  | _ :: _, _ :: _, ⟨h1, h2⟩, h => ⟨h1, All2.snoc h2 h⟩
theorem All2.reverse {α β : Type} {P : α → β → Prop} : ∀ {as : List α} {bs : List β}, All2 P as bs → All2 P as.reverse bs.reverse
  | [], [], _ => trivial
  | _ :: _, _ :: _, ⟨h1, h2⟩ => by rw [List.reverse_cons, List.reverse_cons]; exact (All2.reverse h2).snoc h1
theorem VRs.reverse {h : Heap} : ∀ {vs : List V} {cs : List Value}, VRs C ρ h vs cs → VRs C ρ h vs.reverse cs.reverse
  | _, _, .nil => .nil
  | _, _, .cons a b => by rw [List.reverse_cons, List.reverse_cons]; exact (VRs.reverse b).append (.cons a .nil)

theorem bindL_snoc {x : String} {v : V} : ∀ {xs : List String} {vs : List V} {m m' : Loc}, bindL xs vs m = some m' → bindL (xs ++ [x]) (vs ++ [v]) m = some (upd m' x v)
  | [], [], m, m', h => by simp only [bindL] at h; cases h; rfl
  | _ :: _, _ :: _, m, m', h => by simp only [bindL, List.cons_append] at h ⊢; exact bindL_snoc h
  | [], _ :: _, _, _, h => by simp [bindL] at h
  | _ :: _, [], _, _, h => by simp [bindL] at h
theorem bindL_out {x : String} {v : V} : ∀ {xs : List String} {vs : List V} {m m' : Loc}, xs.contains x = false → bindL xs vs m = some m' → bindL xs vs (upd m x v) = some (upd m' x v)
  | [], [], m, m', _, h => by simp only [bindL] at h; cases h; rfl
  | y :: ys, w :: ws, m, m', hx, h => by
    simp only [bindL] at h ⊢
    simp only [List.contains_cons, Bool.or_eq_false_iff] at hx
    have hne : x ≠ y := by simpa using hx.1
    have e : upd (upd m x v) y w = upd (upd m y w) x v := by
      funext z; simp only [upd]
      by_cases h1 : z = y
      · subst h1; simp [Ne.symm hne]
      · simp [h1]
    rw [e]
    exact bindL_out hx.2 h
  | [], _ :: _, _, _, _, h => by simp [bindL] at h
  | _ :: _, [], _, _, _, h => by simp [bindL] at h
theorem bindL_some : ∀ {xs : List String} {vs : List V} {m : Loc}, xs.length = vs.length → ∃ m', bindL xs vs m = some m'
  | [], [], m, _ => ⟨m, rfl⟩
  | _ :: _, _ :: _, m, h => by simp only [bindL]; exact bindL_some (by simpa using h)
theorem bindL_reverse : ∀ {xs : List String} {vs : List V} {m m' : Loc}, noDup xs = true → bindL xs vs m = some m' → bindL xs.reverse vs.reverse m = some m'
  | [], [], m, m', _, h => h
  | x :: xs, v :: vs, m, m', hd, h => by
    simp only [noDup, Bool.and_eq_true, Bool.not_eq_true'] at hd
    simp only [bindL] at h
    obtain ⟨m₁, h1⟩ := bindL_some (m := m) (bindL_length h)
    have h2 := bindL_out (v := v) hd.1 h1
    rw [h2] at h; cases h
    rw [List.reverse_cons, List.reverse_cons]
    exact bindL_snoc (bindL_reverse hd.2 h1)
  | [], _ :: _, _, _, _, h => by simp [bindL] at h
  | _ :: _, [], _, _, _, h => by simp [bindL] at h

theorem SoundS.assignT {ts : List Expr} {xs : List String} {v : Expr} {e : Mine.E} (kd : Nat) (p pos : Pos) (hl : isListComp v = false) (hct : constTup v = false) (hn : trT.names k ts = some xs) (hd : noDup xs = true) (he : SoundE C n X k v e) :
    SoundS C n X k (.Assign [.Tuple ts kd p] v pos) (.assign (.tup xs) e) := fun A fr env m σ ρ s Q EB hk sit ps h => by
  have plain := fun hw => assign_plain (pos := pos) hl (SoundA.tup (C := C) (n := n) (X := X) kd p hn) he hk sit ps rfl hw h
  cases v with
  | Tuple vs kd' p' =>
    rcases swapped_cases (ts := ts) (kd := kd) (kd' := kd') (p := p) (p' := p') env hct with hw | ⟨l, hw, hlen⟩
    · exact plain hw
    · rw [exec_Assign_arm]
      refine wpAny_bind (wpAny_standAt ?_)
      rw [show swapsWithSole [.Tuple ts kd p] (.Tuple vs kd' p') pos.line env = pure false from rfl]
      refine wpAny_bind (wpAny_pure ?_)
      rw [if_neg (by decide), hw]
      rw [wpS] at h
      refine wpAny_bind (he.use hk sit ps h fun c w σ₁ ρ₁ s₁ h1 hv sit₁ p₁ ps₁ => ?_)
      refine wpAny_bind (wpAny_pure ?_)
      obtain ⟨m', h1, h2⟩ := h1
      cases hv with
      | tup ht hvs =>
        rename_i vs' a cs
        simp only [bndT] at h1
        have hl1 := bindL_length h1
        have hl2 := hvs.length
        have h3 := swap_names (C := C) (n := n) (A := A) (fr := fr) (l := l) hn hk hlen
        have hl3 : ts.length = xs.length := names_length hn
        unfold assignStores
        refine wpAny_bind (wpAny_rule (wpAny_bind ?_))
        rw [show (ts.filterMap (swapName env l)).length = cs.toArray.size by simp; omega]
        refine wpAny_unpackItems_tuple sit₁.room.handled ht fun h' hx => ?_
        have hn' : s₁.heap.get? s₁.heap.objs.size = none := Heap.get?_none_of_le (Nat.le_refl _)
        have hk' : ∀ b o, s₁.heap.get? b = some o → h'.get? b = some o := fun b o e => hx b o (fun q => by subst q; rw [hn'] at e; cases e) e
        obtain ⟨sit₂, p₂⟩ := sit₁.grow (s' := { s₁ with heap := h' }) hk' rfl rfl
        refine wpAny_bind ?_
        rw [show ((ts.filterMap (swapName env l)).reverse.map fun n => bindName env n) = ((ts.filterMap (swapName env l)).map fun n => bindName env n).reverse by rw [List.map_reverse]]
        have hvs₂ : VRs C ρ₁ h' vs' cs := hvs.post (s' := { s₁ with heap := h' }) sit₁.rel p₂
        refine inOrder_sound h3.reverse sit₂ (by simpa using hvs₂.reverse) (bindL_reverse hd h1) fun s₃ sit₃ p₃ => wpAny_pure ?_
        exact ⟨_, _, _, _, h2, trivial, sit₃, (p₁.trans p₂).trans p₃⟩
      | _ => simp [bndT] at h1
  | _ => exact plain rfl

end
end Mine

end

section
open PySem PySem.W PyProof.Rows
set_option linter.unusedVariables false
set_option maxRecDepth 100000
namespace Mine

section
variable {C : Ctx} {n : Nat} {X : Store → Prop} {k : Kinds} {A : Around} {fr : List Env} {env : Env} {m : Loc} {σ : Store} {ρ ρ' : List Addr} {s s' : Shared} {EB Ex : Value → Shared → Prop}

theorem trLoc_isLoc {x : Str} {y : String} (h : trLoc k x = some y) : nameOk x = true ∧ y = x.toString ∧ isLoc k x = true := by
  unfold trLoc at h
  split at h
  · rename_i hn
    refine ⟨hn, ?_⟩
    unfold isLoc
    split at h <;> rename_i e
    · cases h; rw [e]; exact ⟨rfl, rfl⟩
    · cases h; rw [e]; exact ⟨rfl, rfl⟩
    · cases h
  · cases h

theorem aug_sound {op : Operator} {v w : V} {c d : Value} (sit : Sit C n A fr env m σ ρ s) (hv : VR C ρ s.heap v c) (hw : VR C ρ s.heap w d) {Qa : V → Prop} (h : wpAug op v w Qa) {Q : Value → Shared → Prop}
    (hQ : ∀ u r t, Qa u → VR C ρ s.heap u r → Q r { s with toks := t }) : wpAny (model C.prog C.w) A (inplaceOp op c d) Q Ex s := by
  unfold wpAug at h
  split at h
  · cases hv; cases hw; exact PySem.P.iadd_int (hQ _ _ _ h (.int _ _))
  · cases hv; cases hw; exact PySem.P.isub_int (hQ _ _ _ h (.int _ _))
  · cases hv; cases hw; exact PyProof.Rows.ior_int (hQ _ _ _ h (.int _ _))
  · exact h.elim

theorem SoundS.aug {x : Str} {y : String} {v : Expr} {e : Mine.E} (op : Operator) (p pos : Pos) (hl : trLoc k x = some y) (he : SoundE C n X k v e) : SoundS C n X k (.AugAssign (.Name x p) op v pos) (.aug y op e) := fun A fr env m σ ρ s Q EB hk sit ps h => by
  rw [wpS] at h
  obtain ⟨old, h1, h2⟩ := h
  obtain ⟨hn, rfl, hloc⟩ := trLoc_isLoc hl
  refine wpAny_AugAssign_Name (load_loc hk sit (nameOk_eq hn).1 hloc h1 fun co hco => ?_)
  refine he.use hk sit ps h2 fun c v σ₁ ρ₁ s₁ h3 hv sit₁ p₁ ps₁ => ?_
  refine aug_sound sit₁ (hco.post sit.rel p₁) hv h3 fun u r t h4 hr => ?_
  exact store_loc (s := { s₁ with toks := t }) hk (sit₁.tok t) hl hr fun s₂ sit₂ p₂ => ⟨Fl.next, _, _, _, h4, trivial, sit₂, p₁.trans (Post.tok.trans p₂)⟩

theorem augStore_of {i : Expr} (h : isSl i = false) (ov iv new : Value) : augStore i ov iv new = (do holding [new, ov, iv] (setItem ov iv new); release [new, ov, iv] []; pure .next) := by
  cases i <;> first | rfl | (simp [isSl] at h)

/-- an item, to go on with -/
theorem item_at {v w : V} {c d : Value} (sit : Sit C n A fr env m σ ρ s) (hv : VR C ρ s.heap v c) (hw : VR C ρ s.heap w d) {Qa : V → Prop} (h : wpItem v w σ Qa) {Q : Value → Shared → Prop}
    (hQ : ∀ y r σ' ρ' s', Qa y → σ' = σ → VR C ρ' s'.heap y r → Sit C n A fr env m σ' ρ' s' → Post C (exOf env) ρ ρ' s s' → Q r s') : wpAny (model C.prog C.w) A (getItem c d) Q Ex s := by
  have h' : wpItem v w σ fun y => (fun (y : V) (σ' : Store) => Qa y ∧ σ' = σ) y σ := by
    unfold wpItem at h ⊢
    split at h
    · obtain ⟨a, b, x, e, f⟩ := h; exact ⟨a, b, x, e, f, rfl⟩
    · obtain ⟨a, b, x, e, f⟩ := h; exact ⟨a, b, x, e, f, rfl⟩
    · split at h
      · obtain ⟨a, b, x, e, f⟩ := h; exact ⟨a, b, x, e, f, rfl⟩
      · obtain ⟨x, e, f⟩ := h; exact ⟨x, e, f, rfl⟩
      · exact h.elim
    · exact h.elim
  obtain ⟨_, _, _, _, h3⟩ := item_sound (E := Ex) (A := A) (Q := fun (y : V) (σ' : Store) => Qa y ∧ σ' = σ) sit hv hw h'
  exact wpAny_mono h3 (fun r s' ⟨y, σ', ρ', ⟨a, b⟩, c, d, e⟩ => hQ y r σ' ρ' s' a b c d e) fun _ _ x => x

theorem SoundS.augsub {o i v : Expr} {eo ei e : Mine.E} (op : Operator) (p pos : Pos) (hs : isSl i = false) (ho : SoundE C n X k o eo) (hi : SoundE C n X k i ei) (he : SoundE C n X k v e) :
    SoundS C n X k (.AugAssign (.Subscript o i p) op v pos) (.augsub eo ei op e) := fun A fr env m σ ρ s Q EB hk sit ps h => by
  rw [wpS] at h
  refine wpAny_AugAssign_Subscript_any (ho.use hk sit ps h fun co vo σ₁ ρ₁ s₁ h1 hvo sit₁ p₁ ps₁ => ?_) (augStore_of hs)
  refine hi.use hk sit₁ ps₁ h1 fun ci vi σ₂ ρ₂ s₂ h2 hvi sit₂ p₂ ps₂ => ?_
  have hvo₂ := hvo.post sit₁.rel p₂
  refine item_at sit₂ hvo₂ hvi h2 fun y r σ' ρ₃ s₃ h3 e3 hr sit₃ p₃ => ?_
  subst e3
  refine he.use hk sit₃ (ps₂.go p₃ sit₂.fok) h3 fun c v σ₄ ρ₄ s₄ h4 hv sit₄ p₄ ps₄ => ?_
  refine aug_sound sit₄ (hr.post sit₃.rel p₄) hv h4 fun u r t ⟨σ₅, h5, h6⟩ hr' => ?_
  have hvo₄ := (hvo₂.post sit₂.rel p₃).post sit₃.rel p₄
  have hvi₄ := (hvi.post sit₂.rel p₃).post sit₃.rel p₄
  refine setItem_sound (s := { s₄ with toks := t }) (sit₄.tok t) hvo₄ hvi₄ hr' h5 fun s₆ sit₆ p₆ => ?_
  exact ⟨Fl.next, _, _, _, h6, trivial, sit₆, ((p₁.trans p₂).trans (p₃.trans p₄)).trans (Post.tok.trans p₆)⟩

theorem base_of {o : Expr} (h : notSuper o = true) (a : Str) (env : Env) (w : Sem Value) : attributeBase o a env w = w := by
  unfold attributeBase
  split
  · simp [notSuper] at h
  · rfl

theorem SoundS.append {o x : Expr} {eo ex : Mine.E} {apos cpos pos : Pos} (hs : [x].any isStar = false) (hsup : notSuper o = true) (hline : (apos.endLine == cpos.line) = true) (ho : SoundE C n X k o eo) (hx : SoundE C n X k x ex) :
    SoundS C n X k (.Expr (.Call (.Attribute o "append" apos) [x] [] cpos) pos) (.append eo ex) := fun A fr env m σ ρ s Q EB hk sit ps h => by
  rw [wpS] at h
  have htrees : backTo cpos (starEach [x] env) = [(false, eval x env)] := starEach_plain cpos env hs
  refine wpAny_Expr_any (wpAny_Call_append (base_of hsup _ _ _) (by rw [htrees]; rfl) hline htrees (ho.use hk sit ps h fun co vo σ₁ ρ₁ s₁ ⟨hl1, h1⟩ hvo sit₁ p₁ ps₁ => ?_)) (notInteractive hk) rfl
  -- the list is a list before the item is made
  have hlist : ∃ l cs, co = .ref l ∧ PlainL s₁.heap l cs := by
    obtain ⟨i, xs, rfl, hi⟩ := hl1
    cases hvo with
    | ref e =>
      obtain ⟨cs, hl, _⟩ := plain_at sit₁ hi e
      exact ⟨_, _, rfl, hl⟩
  obtain ⟨l, cs, rfl, hl⟩ := hlist
  refine ⟨l, cs, rfl, hl, hx.use hk sit₁ ps₁ h1 fun c v σ₂ ρ₂ s₂ ⟨σ', h2, h3⟩ hv sit₂ p₂ ps₂ => ?_⟩
  have hvo₂ := hvo.post sit₁.rel p₂
  unfold appendV at h2
  split at h2
  · rename_i i
    split at h2
    · rename_i xs hs
      split at h2
      · rename_i hz
        cases h2
        cases hvo₂ with
        | ref e =>
          obtain ⟨ds, hld, hvs⟩ := plain_at sit₂ hs e
          have hlen := hvs.length
          refine list_append_plainL hld (fun h' hl' hs' => ?_) (by simp only [List.size_toArray, sizeLine_eq]; omega)
          have imm : ∀ b o, s₂.heap.get? b = some o → Imm o → h'.get? b = some o := fun b o e' hi => (hs'.2 b fun q => sit₂.rel.sr.not_imm e' hi (q ▸ List.mem_of_getElem? e)).trans e'
          have hl'' : PlainL h' l (ds ++ [c]).toArray := by simpa using hl'
          obtain ⟨a, b⟩ := sit₂.update (s' := { s₂ with heap := h' }) hs e hs' (.list hl'' ((hvs.mono (fun _ _ e => e) imm).append (.cons (hv.mono (fun _ _ e => e) imm) .nil))) rfl rfl
          exact ⟨Fl.next, _, _, _, h3, trivial, a, (p₁.trans p₂).trans b⟩
      · cases h2
    · cases h2
  · cases h2

/-- the call of a name's value; the arguments' own exceptions apart -/
theorem call_core (OK : C.Ok) {Xa Xc : Store → Prop} {x : Str} {p pos : Pos} {f : Mine.E} {as : List Expr} {es : List Mine.E} (hf : SoundE C n Xa k (.Name x p) f) (hs : as.any isStar = false) (hne : as ≠ []) (h : All2 (SoundE C n Xa k) as es)
    (hk : EnvOk k env) (sit : Sit C n A fr env m σ ρ s) {Q : V → Store → Prop}
    (hq : wpE C n Xa f m σ fun fv σ₁ => wpEs C n Xa es m σ₁ fun vs σ₂ => ∃ g j, fv = .fn g ∧ n = j + 1 ∧ SemCall C j g vs σ₂ Q Xc)
    (ha : ∀ e s', ExcP C fr Xa (exOf env) ρ s e s' → Ex e s')
    (hc : ∀ e s' σ₂ ρ₂ s₂, Sit C n A fr env m σ₂ ρ₂ s₂ → Post C (exOf env) ρ ρ₂ s s₂ → ExcP C fr Xc noEx ρ₂ s₂ e s' → Ex e s') :
    wpAny (model C.prog C.w) A (eval (.Call (.Name x p) as [] pos) env) (PE C n A fr env m ρ s Q) Ex s := by
  refine wpAny_Call_Name_kw (wpAny_mono (hf _ _ _ _ _ _ _ _ hk sit hq) (fun c s₁ ⟨v, σ₁, ρ₁, q, hv, sit₁, p₁⟩ => ?_) ha)
  rw [starEach_plain pos env hs, map_false]
  refine callWith_any (by simpa using hne) ?_
  rw [← map_false]
  refine wpAny_mono (sound_spliced h _ _ _ _ _ _ _ _ hk sit₁ q) (fun cs s₂ ⟨_, vs, σ₂, ρ₂, ⟨g, j, e, en, hc'⟩, hvs, sit₂, p₂⟩ => ?_) fun e s' x => ha e s' (x.after p₁ sit.fok)
  subst e en
  have hv₂ := hv.post sit₁.rel p₂
  cases hv₂ with
  | fn hfn =>
    refine ⟨sit₂.rel.sr.base, OK.keeper _ _ hfn, ?_⟩
    refine wpAny_mono (hc' A fr ρ₂ s₂ c cs (sit₂.room.mono (Nat.le_succ _)) sit₂.frs sit₂.fok sit₂.rel.sr hvs hfn) (fun r s₃ ⟨w, σ₃, ρ₃, q₃, hw, hr, p₃⟩ => ?_) fun e s₃ x => ?_
    · obtain ⟨sit₃, p₃'⟩ := sit₂.call p₃ hr
      exact ⟨w, σ₃, ρ₃, q₃, hw, sit₃, (p₁.trans p₂).trans p₃'⟩
    · exact hc e s₃ σ₂ ρ₂ s₂ sit₂ (p₁.trans p₂) x

/-- a comprehension's list to a name -/
theorem SoundS.assignC {elt iter : Expr} {x y : Str} {y' : String} {px py : Pos} {ifs : List Expr} {sc : Scope} {pos spos : Pos} {e src : Mine.E} {cs : List Mine.E}
    (ok : CompOk k sc x) (hx : sc.names.lookup x = some .local) (hn : nameOk x = true) (hset : ∀ env v, foldedSetIterable iter env v = pure v) (hy : trLoc k y = some y')
    (he : SoundE C n noX (fun y => sc.names.lookup y) elt e) (hsrc : SoundE C n X k iter src) (hifs : All2 (SoundT C n noX (fun y => sc.names.lookup y)) ifs cs) (hlen : cs.length ≤ 1) :
    SoundS C n X k (.Assign [.Name y py] (.ListComp elt [⟨.Name x px, iter, ifs, 0⟩] sc pos) spos) (.assign (.name y') (.comp e x.toString src cs)) := fun A fr env m σ ρ s Q EB hk sit ps h => by
  have hsw : ∃ b, swapsWithSole [.Name y py] (.ListComp elt [⟨.Name x px, iter, ifs, 0⟩] sc pos) spos.line env = pure b := ⟨_, rfl⟩
  obtain ⟨b, hsw⟩ := hsw
  rw [exec_Assign_arm, hsw]
  refine wpAny_bind (wpAny_standAt (wpAny_bind (wpAny_pure ?_)))
  rw [wpS] at h
  simp only [wpAssign] at h
  cases b with
  | false =>
    rw [if_neg (by decide)]
    refine wpAny_bind ((SoundE.comp (px := px) (pos := pos) ok hx hn hset he hsrc hifs hlen).use hk sit ps h fun c v σ₁ ρ₁ s₁ h1 hv sit₁ p₁ ps₁ => ?_)
    rw [show swappedStores [.Name y py] (.ListComp elt [⟨.Name x px, iter, ifs, 0⟩] sc pos) env = pure none from rfl]
    refine wpAny_bind (wpAny_pure ?_)
    show wpAny _ _ (do assign (.Name y py) env c; pure Flow.next) _ _ _
    refine wpAny_bind (wpAny_assign_Name (store_loc hk sit₁ hy hv fun s₂ sit₂ p₂ => wpAny_pure ?_))
    exact ⟨Fl.next, _, _, _, h1, trivial, sit₂, p₁.trans p₂⟩
  | true =>
    rw [if_pos rfl]
    show wpAny _ _ (do (do let _ ← comprehension (.ListComp elt [⟨.Name x px, iter, ifs, 0⟩] sc pos) sc env (firstIterPos [⟨.Name x px, iter, ifs, 0⟩] pos) (newList []) false (eval iter env) (some (assign (.Name y py) env)); pure ()); pure Flow.next) _ _ _
    rw [wpE] at h
    refine wpAny_bind (wpAny_bind (wpAny_mono (comp_core (Ex := EB) (use := some (assign (.Name y py) env)) (Qf := fun _ s' => PSt C n A fr env ρ s Q .next s') (Qa := fun vs σ₂ => Q .next (upd m y' (.ref σ₂.length)) (σ₂ ++ [AObj.list vs])) hk sit ok hx hn (hset env) he hifs hlen
      (wpAny_mono (hsrc _ _ _ _ _ _ _ _ hk sit h) (fun _ _ x => x) ps.fly) fun ρ' σ' s' D L mL vs ds sit' p' hD dD hl hv hL dL hns hLD hq => ?_) (fun _ s' x => wpAny_pure (wpAny_pure x)) fun _ _ x => x))
    obtain ⟨b1, b2, b3⟩ := Sit.adopt (s' := s') (o := .list vs) sit hD sit' p' dD.own (isList_not_imm hl.isList) (fun b o _ e => e)
      (.list hl (hv.mono (fun _ _ e => getElem?_snoc_of e) fun b o e _ => e)) rfl rfl
    show wpAny _ _ (assign (.Name y py) env (.ref D)) _ _ _
    refine wpAny_assign_Name (store_loc hk b1 hy b3 fun s₂ sit₂ p₂ => ?_)
    have dL' : Side C fr env (ρ' ++ [D]) s'.heap L := ⟨fun hm => by
      rcases List.mem_append.mp hm with q | q
      · exact dL.own q
      · exact hLD (List.mem_singleton.mp q), dL.ex, dL.base, dL.fr, dL.imm⟩
    have hns₂ : s₂.heap.Ns L mL := ns_kept hns fun o e => p₂.keep L o e dL'.own dL'.ex
    have dL₂ := dL'.move (let ⟨o, _, _, e, _⟩ := hns; ⟨o, e⟩) p₂
    refine ⟨mL, hns₂, fun h' hs' => ?_⟩
    have keep' : ∀ b o, b ≠ L → s₂.heap.get? b = some o → h'.get? b = some o := fun b o hb e => (hs'.2 b hb).trans e
    exact ⟨Fl.next, _, _, _, hq, trivial, sit₂.side (tk := s₂.toks) dL₂ keep', (b2.trans p₂).side (tk := s₂.toks) hL keep'⟩

end
end Mine

end

section
open PySem PySem.W PyProof.Rows
set_option linter.unusedVariables false
set_option maxRecDepth 100000
namespace Mine

/-- the class of the refusals -/
structure BadOk (C : Ctx) : Prop where
  cls : ∃ Kb nm q N bs bm hdct sn sub ab col dd k0 k1 k2 k3 k5 newId, C.fnv "BadTable" = some (.ref Kb) ∧ C.B.get? Kb = some (excClassObj nm q Kb N bs bm hdct sn sub ab col dd k0 k1 k2 k3 k5 newId) ∧
    bm.contains (.type "BaseException") = true ∧ GlobAt C "BadTable" (.ref Kb)

section
variable {C : Ctx} {n : Nat} {X : Store → Prop} {k : Kinds} {A : Around} {fr : List Env} {env : Env} {m : Loc} {σ : Store} {ρ ρ' : List Addr} {s s' : Shared} {EB Ex : Value → Shared → Prop}

theorem load_globB {A : Around} {env : Env} {h : Heap} (hb : C.B.StaysIn s.heap) (hk : EnvOk k env) {x : Str} (hx : Str.ofString x.toString = x) {c : Value} (hg : GlobAt C x.toString c)
    {E : Value → Shared → Prop} {Q : Value → Shared → Prop} (h : Q c s) : wpAny (model C.prog C.w) A (loadGlobal env x) Q E s := by
  obtain ⟨mg, mb, h1, h2, h3⟩ := hg
  rw [hx] at h3
  have g1 : s.heap.Ns env.globals mg := by rw [hk.globals]; exact h1.keeps hb
  have g2 : s.heap.Ns env.builtins mb := by rw [hk.builtins]; exact h2.keeps hb
  rcases h3 with h3 | ⟨h3, h4⟩
  · exact Calls.loadGlobal_global g1 h3 h
  · exact Calls.loadGlobal_builtin g1 h3 g2 h4 h

theorem frAt_mem {e : Env} {L : Addr} (he : e ∈ fr) (hf : e.frame = some L) : L ∈ frAt fr := List.mem_filterMap.mpr ⟨e, he, hf⟩

/-- the store behind a caught refusal -/
theorem Sit.landed {outer : List Env} {X : Store → Prop} {σ' : Store} {ρ' : List Addr} {ea : Addr} {a0 cls : Value} {Bx h' : Heap} {s'' : Shared} (hh : s''.heap = h') (hg : s''.gens = s.gens) (hos : s''.os = s.os) (sit : Sit C n A fr env m σ ρ s) (hfr : fr = env :: outer) (hf : env.frame = some env.locals)
    (hsr : SR C σ' ρ' Bx) (hfl : Heap.FlyingW Bx fr ea cls a0 h') (hpre : ∀ (i : Nat) (a : Addr), ρ[i]? = some a → ρ'[i]? = some a) (hfresh : ∀ a, a ∈ ρ' → a ∉ ρ → s.heap.get? a = none ∧ ¬ noEx a)
    (hkeep : ∀ b o, s.heap.get? b = some o → b ∉ ρ → ¬ noEx b → b ∉ frAt fr → Kept C b o Bx) (hfrk : ∀ L o, L ∈ frAt fr → s.heap.get? L = some o → ∃ sl, h'.get? L = some { o with slots := sl }) :
    Sit C n A fr env m σ' ρ' s'' ∧ Post C (exOf env) ρ ρ' s s'' := by
  subst hh
  have stays := hfl.1
  have dictAt : ∀ L, L ∈ frAt fr → ∃ o, s.heap.get? L = some o ∧ (∃ es ep, o.data = .dict es ep) ∧ L ∉ ρ ∧ C.B.get? L = none := fun L hL => by
    obtain ⟨e, he, hfe⟩ := List.mem_filterMap.mp hL
    obtain ⟨_, L', o, a1, a2, a3, a4, a5⟩ := sit.fok e he
    rw [hfe] at a1; cases a1
    exact ⟨o, a3, a4, a5, a2⟩
  have old : ∀ b o, s.heap.get? b = some o → b ∉ ρ → b ∉ ρ' := fun b o e h h' => by have := (hfresh b h' h).1; rw [e] at this; cases this
  have nofr : ∀ b o, s.heap.get? b = some o → (¬ ∃ es ep, o.data = .dict es ep) → b ∉ frAt fr := fun b o e hd hm => by
    obtain ⟨o', e', hd', _⟩ := dictAt b hm
    rw [e] at e'; cases e'; exact hd hd'
  have imm : ∀ b o, s.heap.get? b = some o → Imm o → s''.heap.get? b = some o := fun b o e hi =>
    stays _ _ ((hkeep b o e (sit.rel.sr.not_imm e hi) (fun q => q) (nofr b o e fun ⟨es, ep, q⟩ => not_imm_dict q hi)).imm hi)
  have cellk : ∀ b o v, s.heap.get? b = some o → o.data = .cell v → b ∉ ρ → s''.heap.get? b = some o := fun b o v e hd hb =>
    stays _ _ ((hkeep b o e hb (fun q => q) (nofr b o e fun ⟨es, ep, q⟩ => by rw [hd] at q; cases q)).cell hd)
  have hLfr : env.locals ∈ frAt fr := by rw [hfr]; exact frAt_mem (.head _) hf
  have SR' : SR C σ' ρ' s''.heap := ⟨hsr.len, fun i o a e1 e2 => (hsr.obj i o a e1 e2).mono (fun _ _ e => e) (fun b o e _ => stays b o e) (fun o e => stays a o e), hsr.inj, hsr.new, fun b o e => stays b o (hsr.base b o e)⟩
  obtain ⟨mm, hns, hns2⟩ := sit.rel.ns
  have R : Rel C env ⟨m, σ'⟩ ρ' s''.heap := by
    refine ⟨SR', ⟨mm, ?_, fun y v e1 e2 => let ⟨c, e3, e4⟩ := hns2 y v e1 e2; ⟨c, e3, e4.mono hpre imm⟩⟩, fun nm a hm => ?_, fun y v e1 e2 => ?_, ⟨sit.rel.locNew.1, ?_⟩, fun nm a hm => ?_, sit.rel.apart⟩
    · obtain ⟨o, es, ep, e, hd, r⟩ := hns
      obtain ⟨sl, e'⟩ := hfrk _ _ hLfr e
      exact ⟨_, es, ep, e', hd, r⟩
    · obtain ⟨ov, o, h1, h2⟩ := sit.rel.cell nm a hm
      exact ⟨ov, o, cellk a o _ h1 h2 (sit.rel.cellNew nm a hm).2.1, h2⟩
    · obtain ⟨a, c, e3, ⟨o, h1, h2⟩, e5⟩ := sit.rel.cellv y v e1 e2
      exact ⟨a, c, e3, ⟨o, cellk a o _ h1 h2 (sit.rel.cellNew _ a (mem_of_lookup e3)).2.1, h2⟩, e5.mono hpre imm⟩
    · obtain ⟨o, _, _, e, _⟩ := hns
      exact old _ _ e sit.rel.locNew.2
    · obtain ⟨ov, o, h1, h2⟩ := sit.rel.cell nm a hm
      obtain ⟨c1, c2, c3⟩ := sit.rel.cellNew nm a hm
      exact ⟨c1, old _ _ h1 c2, c3⟩
  have p : Post C (exOf env) ρ ρ' s s'' := by
    refine ⟨hg, hos, hpre, fun a h1 h2 => ⟨(hfresh a h1 h2).1, sit.rel.not_ex_of_none (hfresh a h1 h2).1⟩, fun b o e h1 h2 => ?_⟩
    by_cases hb : b ∈ frAt fr
    · obtain ⟨o', e', hd, _, hB⟩ := dictAt b hb
      rw [e] at e'; cases e'
      obtain ⟨sl, e''⟩ := hfrk b o hb e
      exact .inr ⟨hB, hd, sl, e''⟩
    · exact (hkeep b o e h1 (fun q => q) hb).trans fun o₁ e₁ => .inl (stays _ _ e₁)
  exact ⟨⟨sit.room, sit.frs, sit.fok.post p (sit.rel.fr_there R), R⟩, p⟩

theorem handler_sound {outer : List Env} (BK : BadOk C) {Xc : Store → Prop} {c : Str} {cp hp pp : Pos} (hk : EnvOk k env) (hc : nameOk c = true) (hcg : k c = some .globalImplicit) (hcn : c.toString = "BadTable") (sit : Sit C n A fr env m σ ρ s) (hfr : fr = env :: outer) (hf : env.frame = some env.locals)
    {e : Value} {s₁ : Shared} (x : ExcP C fr Xc noEx ρ s e s₁) {Q : Flow → Shared → Prop}
    (hQ : ∀ σ' ρ' s', Xc σ' → Sit C n A fr env m σ' ρ' s' → Post C (exOf env) ρ ρ' s s' → Q .next s') :
    wpAny (model C.prog C.w) A (noteFrame e env) (fun _ s₂ => wpAny (model C.prog C.w) A (setFlight e none) (fun _ s₃ => wpAny (model C.prog C.w) A (handleBy e env [.ExceptHandler (some (.Name c cp)) none [.Pass pp] hp]) Q EB s₃) EB s₂) EB s₁ := by
  obtain ⟨σ', ρ', ea, a0, Bx, K, hX, rfl, hK, hfl, hsr, hg, hos, hpre, hfresh, hkeep, hfrk⟩ := x
  obtain ⟨Kb, nm, q, N, bs, bm, hdct, sn, sub, ab, col, dd, k0, k1, k2, k3, k5, newId, b1, b2, b3, b4⟩ := BK.cls
  rw [hK] at b1; cases b1
  have hfl' := hfl
  rw [hfr] at hfl
  refine wpAny_looks_onW (sit.frs.trans (by rw [hfr])) hf hfl fun h₄ held₄ sm₄ => ?_
  refine wpAny_landsW held₄ fun h₅ fl₅ sm₅ => ?_
  have hB₅ : C.B.StaysIn h₅ := fun b o e => fl₅.1 b o (hsr.base b o e)
  refine wpAny_handleBy_cons (codeAny_handlers_test ?_) (by intro q; cases q)
  refine Calls.Name_function_global hk.kind (hk.glob _ hcg) (load_globB (s := { s₁ with heap := h₅ }) (h := h₅) hB₅ hk (nameOk_eq hc).1 (by rw [hcn]; exact b4) ?_) (nameOk_eq hc).2
  obtain ⟨ob, hob, hobc⟩ := fl₅.there
  refine wpAny_excMatches_sub_self (hB₅ _ _ b2) hob hobc b3 ?_
  refine codeAny_handlers_suite (lands_againW fl₅ fun h₆ fl₆ sm₆ => ?_)
  refine wpAny_execs_cons (wpAny_Pass (wpAny_execs_nil ?_))
  have sm : s₁.heap.UpToSlots h₆ := (sm₄.trans sm₅).trans sm₆
  have fl₆' : Heap.FlyingW Bx fr ea (.ref K) a0 h₆ := by rw [hfr]; exact fl₆
  obtain ⟨sit', p'⟩ := Sit.landed (s'' := { s₁ with heap := h₆ }) (X := Xc) rfl hg hos sit hfr hf hsr fl₆' hpre hfresh hkeep (fun L o hL e => by
    obtain ⟨sl, e'⟩ := hfrk L o hL (fun q => q) e
    obtain ⟨e0, he0, hfe⟩ := List.mem_filterMap.mp hL
    obtain ⟨_, L', o', a1, a2, a3, ⟨es, ep, a4⟩, a5⟩ := sit.fok e0 he0
    rw [hfe] at a1; cases a1
    rw [e] at a3; cases a3
    obtain ⟨sl', e''⟩ := sm L _ e' (fun vs q => by simp only at q; rw [a4] at q; cases q)
    exact ⟨sl', e''⟩)
  exact hQ σ' ρ' _ hX sit' p'

end
end Mine

end

section
open PySem PySem.W PyProof.Rows
set_option linter.unusedVariables false
set_option maxRecDepth 100000
namespace Mine

section
variable {C : Ctx} {n : Nat}

def SoundEx (C : Ctx) (n : Nat) (X : Store → Prop) (k : Kinds) (a : Expr) (e : Mine.E) : Prop := SoundE C n X k a e ∧ SoundT C n X k a e

theorem SoundEx.plain {X : Store → Prop} {k : Kinds} {a : Expr} {e : Mine.E} (ha : SoundE C n X k a e) (he : ∀ m σ Q, wpT C n X e m σ Q → wpE C n X e m σ fun v σ₁ => ∃ b, truthV v = some b ∧ Q b σ₁)
    (hi : ∀ env whole, isTrue a env whole = (do let v ← whole; standAt a.pos; holding [v] (truthy v))) : SoundEx C n X k a e := ⟨ha, .plain ha he hi⟩

theorem trName_cases {k : Kinds} {x : Str} {e : Mine.E} (h : trName k x = some e) : nameOk x = true ∧ ((k x = some .globalImplicit ∧ e = .glob x.toString) ∨ (isLoc k x = true ∧ e = .loc x.toString)) := by
  unfold trName at h
  split at h
  · rename_i hn
    refine ⟨hn, ?_⟩
    unfold isLoc
    split at h <;> rename_i q
    · cases h; exact .inl ⟨q, rfl⟩
    · cases h; rw [q]; exact .inr ⟨rfl, rfl⟩
    · cases h; rw [q]; exact .inr ⟨rfl, rfl⟩
    · cases h; rw [q]; exact .inr ⟨rfl, rfl⟩
    · cases h
  · cases h

theorem name_sound (OK : C.Ok) {X : Store → Prop} {k : Kinds} {x : Str} {e : Mine.E} (p : Pos) (h : trName k x = some e) : SoundE C n X k (.Name x p) e := by
  obtain ⟨hn, ⟨h1, rfl⟩ | ⟨h1, rfl⟩⟩ := trName_cases h
  · exact .glob OK hn h1 p
  · exact .loc hn h1 p

theorem All2.fst {X : Store → Prop} {k : Kinds} : ∀ {as : List Expr} {es : List Mine.E}, All2 (SoundEx C n X k) as es → All2 (SoundE C n X k) as es
  | [], [], _ => trivial
  | _ :: _, _ :: _, ⟨a, b⟩ => ⟨a.1, All2.fst b⟩
theorem All2.snd {X : Store → Prop} {k : Kinds} : ∀ {as : List Expr} {es : List Mine.E}, All2 (SoundEx C n X k) as es → All2 (SoundT C n X k) as es
  | [], [], _ => trivial
  | _ :: _, _ :: _, ⟨a, b⟩ => ⟨a.2, All2.snd b⟩

theorem trE_sound (OK : C.Ok) : ∀ (fuel : Nat) (X : Store → Prop) (k : Kinds) (ast : Expr) (e : Mine.E), trE fuel k ast = some e → SoundEx C n X k ast e
  | 0, X, k, ast, e, h => by simp [trE] at h
  | f + 1, X, k, ast, e, h => by
    have IH := trE_sound OK f
    have L : ∀ {X : Store → Prop} {k : Kinds} {as : List Expr} {es : List Mine.E}, trList (trE f k) as = some es → All2 (SoundEx C n X k) as es := fun {X k as es} h => All2.of_trList (P := SoundEx C n X k) (fun a e q => IH X k a e q) h
    cases ast with
    | Constant c kd pos =>
      simp only [trE] at h
      split at h
      · cases h; exact .plain (.cint _ _ _) (fun m σ Q h => by rw [wpT] at h <;> first | exact h | simp) (fun _ _ => rfl)
      · cases h; exact .plain (.cbool _ _ _) (fun m σ Q h => by rw [wpT] at h <;> first | exact h | simp) (fun _ _ => rfl)
      · cases h; exact .plain (.cnone _ _) (fun m σ Q h => by rw [wpT] at h <;> first | exact h | simp) (fun _ _ => rfl)
      · split at h
        · rename_i hs; cases h; exact .plain (.cstr (by simpa using hs) _ _) (fun m σ Q h => by rw [wpT] at h <;> first | exact h | simp) (fun _ _ => rfl)
        · cases h
      · cases h
    | Name x p =>
      simp only [trE] at h
      obtain ⟨hn, ⟨h1, rfl⟩ | ⟨h1, rfl⟩⟩ := trName_cases h
      · exact .plain (.glob OK hn h1 p) (fun m σ Q h => by rw [wpT] at h <;> first | exact h | simp) (fun _ _ => rfl)
      · exact .plain (.loc hn h1 p) (fun m σ Q h => by rw [wpT] at h <;> first | exact h | simp) (fun _ _ => rfl)
    | BinOp l op r pos =>
      simp only [trE] at h
      split at h
      · rename_i a b ha hb; cases h
        exact .plain (.bin op pos (IH _ _ _ _ ha).1 (IH _ _ _ _ hb).1) (fun m σ Q h => by rw [wpT] at h <;> first | exact h | simp) (fun _ _ => rfl)
      · cases h
    | UnaryOp op x pos =>
      simp only [trE] at h
      split at h
      · rename_i a ha
        split at h
        · cases h; exact .plain (.neg pos (IH _ _ _ _ ha).1) (fun m σ Q h => by rw [wpT] at h <;> first | exact h | simp) (fun _ _ => rfl)
        · cases h; exact ⟨.not pos (IH _ _ _ _ ha).1, .not pos (IH _ _ _ _ ha).2⟩
        · cases h; exact .plain (.inv pos (IH _ _ _ _ ha).1) (fun m σ Q h => by rw [wpT] at h <;> first | exact h | simp) (fun _ _ => rfl)
        · cases h
      · cases h
    | Compare l ops rs pos =>
      simp only [trE] at h
      split at h
      · rename_i op r
        split at h
        · cases h
        · rename_i hs
          split at h
          · rename_i a b ha hb; cases h
            have hs' : isSetE r = false := by simpa using hs
            exact ⟨.cmp op pos hs' (IH _ _ _ _ ha).1 (IH _ _ _ _ hb).1, .cmp op pos hs' (IH _ _ _ _ ha).1 (IH _ _ _ _ hb).1⟩
          · cases h
      · cases h
    | BoolOp op vs pos =>
      simp only [trE] at h
      split at h
      · cases h
      · rename_i hne
        split at h
        · rename_i es hes
          have hne' : vs ≠ [] := by intro q; subst q; simp at hne
          cases op with
          | And => cases h; exact ⟨.all pos hne' (L hes).fst, .all pos (L hes).snd⟩
          | Or => cases h; exact ⟨.any pos hne' (L hes).fst, .any pos (L hes).snd⟩
        · cases h
    | IfExp t b o pos =>
      simp only [trE] at h
      split at h
      · rename_i t' b' o' ht hb ho; cases h
        exact ⟨.ite pos (IH _ _ _ _ ht).2 (IH _ _ _ _ hb).1 (IH _ _ _ _ ho).1, .ite pos (IH _ _ _ _ ht).2 (IH _ _ _ _ hb).2 (IH _ _ _ _ ho).2⟩
      · cases h
    | Call fn args kws pos =>
      simp only [trE] at h
      split at h
      · cases h
      · rename_i hc
        simp only [Bool.or_eq_true, Bool.not_eq_true', not_or, Bool.not_eq_true, Bool.not_eq_false] at hc
        obtain ⟨⟨hk, hst⟩, hem⟩ := hc
        have hk' : kws = [] := by simpa using hk
        subst hk'
        have hne : args ≠ [] := by intro q; subst q; simp at hem
        split at h
        · rename_i x p
          split at h
          · rename_i g es hg hes
            obtain ⟨hn, ⟨h1, q⟩ | ⟨h1, q⟩⟩ := trName_cases hg
            · cases q
              split at h
              · rename_i hb; cases h
                exact .plain (.bcall OK hn h1 hb hst hne (L hes).fst) (fun m σ Q h => by rw [wpT] at h <;> first | exact h | simp) (fun _ _ => rfl)
              · cases h
                exact .plain (.call OK (.glob OK hn h1 p) hst hne (L hes).fst) (fun m σ Q h => by rw [wpT] at h <;> first | exact h | simp) (fun _ _ => rfl)
            · cases q
          · rename_i g es hg hes
            cases h
            exact .plain (.call OK (name_sound OK p hg) hst hne (L hes).fst) (fun m σ Q h => by rw [wpT] at h <;> first | exact h | simp) (fun _ _ => rfl)
          · cases h
        · cases h
    | Attribute o a pos =>
      simp only [trE] at h
      split at h
      · rename_i x p
        split at h
        · rename_i hc; cases h
          simp only [Bool.and_eq_true, beq_iff_eq] at hc
          exact .plain (.attr OK hc.1.1 hc.1.2 hc.2 p pos) (fun m σ Q h => by rw [wpT] at h <;> first | exact h | simp) (fun _ _ => rfl)
        · cases h
      · cases h
    | Subscript v i pos =>
      simp only [trE] at h
      split at h
      · split at h
        · split at h
          · rename_i a ha; cases h
            exact .plain (.upto (IH _ _ _ _ ha).1) (fun m σ Q h => by rw [wpT] at h <;> first | exact h | simp) (fun _ _ => rfl)
          · cases h
        · cases h
      · rename_i hns
        split at h
        · rename_i a b ha hb; cases h
          exact .plain (.sub pos (by cases i <;> first | rfl | exact (hns _ _ _ _ rfl).elim) (IH _ _ _ _ ha).1 (IH _ _ _ _ hb).1) (fun m σ Q h => by rw [wpT] at h <;> first | exact h | simp) (fun _ _ => rfl)
        · cases h
    | Tuple es kd pos =>
      simp only [trE] at h
      split at h
      · cases h
      · rename_i hc
        simp only [Bool.or_eq_true, decide_eq_true_eq, not_or, Bool.not_eq_true] at hc
        split at h
        · rename_i xs hxs; cases h
          exact .plain (.tup kd pos hc.1 (by omega) (L hxs).fst) (fun m σ Q h => by rw [wpT] at h <;> first | exact h | simp) (fun _ _ => rfl)
        · cases h
    | List es pos =>
      simp only [trE] at h
      split at h
      · cases h
      · rename_i hc
        simp only [Bool.or_eq_true, decide_eq_true_eq, not_or, Bool.not_eq_true] at hc
        split at h
        · rename_i xs hxs; cases h
          exact .plain (.lst pos hc.1 (by omega) (L hxs).fst) (fun m σ Q h => by rw [wpT] at h <;> first | exact h | simp) (fun _ _ => rfl)
        · cases h
    | Dict ks vs pos =>
      simp only [trE] at h
      split at h
      · rename_i x p y q
        split at h
        · rename_i a b ha hb
          cases h
          obtain ⟨hn, ⟨h1, e1⟩ | ⟨h1, e1⟩⟩ := trName_cases ha <;> cases e1
          obtain ⟨hn', ⟨h1', e1'⟩ | ⟨h1', e1'⟩⟩ := trName_cases hb <;> cases e1'
          exact .plain (.dct OK p q pos hn h1 hn' h1') (fun m σ Q h => by rw [wpT] at h <;> first | exact h | simp) (fun _ _ => rfl)
        · cases h
      · cases h
    | ListComp elt gens sc pos =>
      simp only [trE] at h
      split at h
      · rename_i x px iter ifs
        split at h
        · rename_i hc
          simp only [Bool.and_eq_true, beq_iff_eq, Bool.not_eq_true'] at hc
          obtain ⟨⟨⟨hc1, hc2⟩, hc3⟩, hc4⟩ := hc
          split at h
          · rename_i a b cs ha hb hcs
            split at h
            · rename_i hlen; cases h
              exact .plain (.comp (.of hc1) hc2 hc3 (folded_of hc4) (IH _ _ _ _ ha).1 (IH _ _ _ _ hb).1 (L hcs).snd hlen) (fun m σ Q h => by rw [wpT] at h <;> first | exact h | simp) (fun _ _ => rfl)
            · cases h
          · cases h
        · cases h
      · cases h
    | _ => simp [trE] at h

end
end Mine

end

section
open PySem PySem.W PyProof.Rows
set_option linter.unusedVariables false
set_option maxRecDepth 100000
namespace Mine

/-- raising a refusal -/
def RaiseOk (C : Ctx) (n : Nat) : Prop :=
  ∀ A fr env m σ ρ s (k : Kinds) (X : Store → Prop) (x t : Str) np cp cpos pos kd (EB : Value → Shared → Prop) (Q : Flow → Shared → Prop), EnvOk k env → Sit C n A fr env m σ ρ s → Pass C A fr env X EB ρ s → nameOk x = true → k x = some .globalImplicit → x.toString = "BadTable" → X σ →
    wpAny (model C.prog C.w) A (exec (.Raise (some (.Call (.Name x np) [.Constant (.str t) kd cp] [] cpos)) none pos) env) Q EB s

section
variable {C : Ctx} {n : Nat}

theorem SoundS.raise {X : Store → Prop} {k : Kinds} (RK : RaiseOk C n) {x t : Str} {np cp cpos pos : Pos} {kd : Nat} (hx : nameOk x = true) (hg : k x = some .globalImplicit) :
    SoundS C n X k (.Raise (some (.Call (.Name x np) [.Constant (.str t) kd cp] [] cpos)) none pos) (.raise x.toString t.toString) := fun A fr env m σ ρ s Q EB hk sit ps h => by
  rw [wpS] at h
  exact RK _ _ _ _ _ _ _ _ _ _ _ _ _ _ _ _ _ _ hk sit ps hx hg h.1 h.2

theorem wpE_noX_mono {k : Kinds} : True := trivial

theorem SoundS.try (OK : C.Ok) (BK : BadOk C) {X : Store → Prop} {k : Kinds} {x c : Str} {np cp callp ep rp vp hp pp pos : Pos} {kd : Nat} {f : Mine.E} {as : List Expr} {es : List Mine.E} (hf : SoundE C n noX k (.Name x np) f) (hs : as.any isStar = false) (hne : as ≠ [])
    (h : All2 (SoundE C n noX k) as es) (hc : nameOk c = true) (hcg : k c = some .globalImplicit) :
    SoundS C n X k (.Try [.Expr (.Call (.Name x np) as [] callp) ep, .Return (some (.Constant (.bool false) kd vp)) rp] [.ExceptHandler (some (.Name c cp)) none [.Pass pp] hp] [] [] pos) (.try f es c.toString) := fun A fr env m σ ρ s Q EB hk sit ps hq => by
  rw [wpS] at hq
  obtain ⟨hcn, hq⟩ := hq
  obtain ⟨outer, hfr, hfl⟩ := ps.top
  refine wpAny_Try_except (wpAny_execs_cons (wpAny_Expr_any (wpAny_mono (call_core (Q := fun _ σ₃ => Q (.ret (.bool false)) m σ₃) (Xa := noX) (Xc := fun σ₃ => Q .next m σ₃) OK hf hs hne h hk sit hq (fun e s' x => x.no.elim)
    fun e s' σ₂ ρ₂ s₂ sit₂ p₂ x => handler_sound (EB := EB) (hp := hp) (pp := pp) (cp := cp) BK hk hc hcg hcn sit₂ hfr hfl x (Q := PSt C n A fr env ρ s Q) fun σ' ρ' s' hX sit' p' => ⟨Fl.next, _, _, _, hX, trivial, sit', p₂.trans p'⟩)
    (fun c s₁ ⟨v, σ₁, ρ₁, q, hv, sit₁, p₁⟩ => ?_) fun _ _ x => x) (notInteractive hk) rfl))
  refine wpAny_execs_cons (wpAny_Return_some ?_)
  have hb := SoundE.cbool (C := C) (n := n) (X := noX) (k := k) false kd vp A fr env m σ₁ ρ₁ s₁ (fun v σ => v = .bool false ∧ Q (.ret (.bool false)) m σ) hk sit₁ (by rw [wpE]; exact ⟨rfl, q⟩)
  exact wpAny_mono hb (fun c s₂ ⟨v, σ₂, ρ₂, ⟨e, q₂⟩, hv, sit₂, p₂⟩ => by subst e; exact ⟨Fl.ret (.bool false), m, σ₂, ρ₂, q₂, hv, sit₂, p₁.trans p₂⟩) fun _ _ x => x.no.elim

end

/-- what a list of statements means -/
theorem trS_sound {C : Ctx} {n : Nat} (OK : C.Ok) (BK : BadOk C) (RK : RaiseOk C n) : ∀ (fuel : Nat) (X : Store → Prop) (k : Kinds),
    (∀ (ast : Stmt) (st : S), trS fuel k ast = some st → SoundS C n X k ast st) ∧ (∀ (ast : List Stmt) (st : List S), trSs fuel k ast = some st → SoundSs C n X k ast st)
  | 0, X, k => ⟨fun ast st h => by simp [trS] at h, fun ast st h => by simp [trSs] at h⟩
  | f + 1, X, k => by
    obtain ⟨IS, ISs⟩ := trS_sound OK BK RK f X k
    have IE : ∀ {X : Store → Prop} {k : Kinds} {a : Expr} {e : Mine.E}, trE f k a = some e → SoundEx C n X k a e := fun h => trE_sound OK f _ _ _ _ h
    have L : ∀ {X : Store → Prop} {k : Kinds} {as : List Expr} {es : List Mine.E}, trList (trE f k) as = some es → All2 (SoundEx C n X k) as es := fun {X k as es} h => All2.of_trList (P := SoundEx C n X k) (fun a e q => IE q) h
    refine ⟨fun ast st h => ?_, fun ast st h => ?_⟩
    · cases ast with
      | Return v pos =>
        simp only [trS] at h
        split at h
        · rename_i e
          simp only [Option.map_eq_some_iff] at h
          obtain ⟨e', he, rfl⟩ := h
          exact .ret pos (IE he).1
        · cases h
      | Pass pos => simp only [trS] at h; cases h; exact .pass pos
      | Continue pos => simp only [trS] at h; cases h; exact .cont pos
      | If t b o pos =>
        simp only [trS] at h
        split at h
        · rename_i t' b' o' ht hb ho; cases h
          exact .ite pos (IE ht).2 (ISs _ _ hb) (ISs _ _ ho)
        · cases h
      | While t b o pos =>
        simp only [trS] at h
        split at h
        · cases h
        · rename_i ho
          have ho' : o = [] := by simpa using ho
          subst ho'
          split at h
          · rename_i t' b' ht hb; cases h
            exact .while pos (IE ht).2 (ISs _ _ hb)
          · cases h
      | For t it b o pos =>
        simp only [trS] at h
        split at h
        · cases h
        · rename_i ho
          simp only [Bool.or_eq_true, not_or, Bool.not_eq_true, Bool.not_eq_true', Bool.not_eq_false] at ho
          have ho' : o = [] := by simpa using ho.2
          subst ho'
          split at h
          · rename_i t' e' b' ht he hb; cases h
            refine .for pos ho.1 ?_ (IE he).1 (ISs _ _ hb)
            cases t with
            | Name x p =>
              simp only [trT, Option.map_eq_some_iff] at ht
              obtain ⟨y, hy, rfl⟩ := ht
              exact .name p hy
            | Tuple es kd p =>
              simp only [trT] at ht
              split at ht
              · rename_i xs hxs
                split at ht
                · cases ht; exact .tup kd p hxs
                · cases ht
              · cases ht
            | Subscript v i p =>
              simp only [trT] at ht
              split at ht
              · cases ht
              · split at ht
                · cases ht; exact fun A fr env m σ ρ s v c m' Ex Q hk sit hv hb hQ => by simp [bndT] at hb
                · cases ht
            | Attribute o a p =>
              simp only [trT] at ht
              split at ht
              · split at ht
                · cases ht; exact fun A fr env m σ ρ s v c m' Ex Q hk sit hv hb hQ => by simp [bndT] at hb
                · cases ht
              · cases ht
            | _ => simp [trT] at ht
          · cases h
      | Expr e pos =>
        simp only [trS] at h
        split at h
        · rename_i o mt apos args kws cpos
          split at h
          · rename_i hc
            simp only [Bool.and_eq_true, beq_iff_eq, Bool.not_eq_true'] at hc
            obtain ⟨⟨⟨⟨hm, hk⟩, hst⟩, hsup⟩, hline⟩ := hc
            have hk' : kws = [] := by simpa using hk
            subst hk'
            subst hm
            split at h
            · rename_i x
              split at h
              · rename_i a b ha hb; cases h
                exact .append hst hsup (by simpa using hline) (IE ha).1 (IE hb).1
              · cases h
            · cases h
          · cases h
        · split at h
          · cases h
          · rename_i hl
            simp only [Option.map_eq_some_iff] at h
            obtain ⟨e', he, rfl⟩ := h
            exact .expr pos (by simpa using hl) (IE he).1
      | AugAssign t op v pos =>
        simp only [trS] at h
        split at h
        · rename_i x p
          split at h
          · rename_i a b ha hb; cases h
            exact .aug op p pos ha (IE hb).1
          · cases h
        · rename_i a i p
          split at h
          · cases h
          · rename_i hs
            split at h
            · rename_i a' i' b' ha hi hb; cases h
              exact .augsub op p pos (by simpa using hs) (IE ha).1 (IE hi).1 (IE hb).1
            · cases h
        · cases h
      | Raise e c pos =>
        simp only [trS] at h
        split at h
        · rename_i x np t kd cp cpos
          split at h
          · rename_i hc
            simp only [Bool.and_eq_true, beq_iff_eq] at hc
            cases h
            exact .raise RK hc.1.1 hc.1.2
          · cases h
        · cases h
      | Try b hs o fin pos =>
        simp only [trS] at h
        split at h
        · rename_i x np args callp ep kd vp rp c cp pp hp
          split at h
          · cases h
          · rename_i hc
            simp only [Bool.or_eq_true, not_or, Bool.not_eq_true, Bool.not_eq_true', Bool.and_eq_true, beq_iff_eq, Bool.not_eq_false] at hc
            split at h
            · rename_i g es hg hes; cases h
              exact .try OK BK (name_sound OK np hg) hc.1.1 (by intro q; subst q; simp at hc) (L hes).fst hc.2.1 hc.2.2
            · cases h
        · cases h
      | Assign ts v pos =>
        simp only [trS] at h
        split at h
        · rename_i t
          split at h
          · cases h
          · rename_i hct
            split at h
            · rename_i t' e' ht he; cases h
              cases t with
              | Name x p =>
                simp only [trT, Option.map_eq_some_iff] at ht
                obtain ⟨y, hy, rfl⟩ := ht
                by_cases hl : isListComp v = true
                · cases v with
                  | ListComp elt gens sc lpos =>
                    cases f with
                    | zero => simp [trE] at he
                    | succ f' =>
                    have IE' : ∀ {X : Store → Prop} {k : Kinds} {a : Expr} {e : Mine.E}, trE f' k a = some e → SoundEx C n X k a e := fun h => trE_sound OK f' _ _ _ _ h
                    have L' : ∀ {X : Store → Prop} {k : Kinds} {as : List Expr} {es : List Mine.E}, trList (trE f' k) as = some es → All2 (SoundEx C n X k) as es := fun {X k as es} h => All2.of_trList (P := SoundEx C n X k) (fun a e q => IE' q) h
                    simp only [trE] at he
                    split at he
                    · rename_i z pz iter ifs
                      split at he
                      · rename_i hc
                        simp only [Bool.and_eq_true, beq_iff_eq, Bool.not_eq_true'] at hc
                        obtain ⟨⟨⟨hc1, hc2⟩, hc3⟩, hc4⟩ := hc
                        split at he
                        · rename_i a b cs ha hb hcs
                          split at he
                          · rename_i hlen; cases he
                            exact .assignC (.of hc1) hc2 hc3 (folded_of hc4) hy (IE' ha).1 (IE' hb).1 (L' hcs).snd hlen
                          · cases he
                        · cases he
                      · cases he
                    · cases he
                  | SetComp _ _ _ _ => cases f <;> simp [trE] at he
                  | DictComp _ _ _ _ _ => cases f <;> simp [trE] at he
                  | _ => simp [isListComp] at hl
                · exact .assign1 pos (by simpa using hl) (.name p hy) (IE he).1 (fun _ => rfl) (fun _ => rfl)
              | Tuple es kd p =>
                simp only [trT] at ht
                split at ht
                · rename_i xs hxs
                  split at ht
                  · rename_i hd; cases ht
                    have hct' : constTup v = false := by simp [isTupE] at hct; exact hct.1
                    by_cases hl : isListComp v = true
                    · simp [isNameE, hl] at hct
                    · exact .assignT kd p pos (by simpa using hl) hct' hxs hd (IE he).1
                  · cases ht
                · cases ht
              | Subscript o i p =>
                simp only [trT] at ht
                split at ht
                · cases ht
                · rename_i hs
                  split at ht
                  · rename_i a b ha hb; cases ht
                    by_cases hl : isListComp v = true
                    · simp [isNameE, hl] at hct
                    · exact .assign1 pos (by simpa using hl) (.sub p (by simpa using hs) (IE ha).1 (IE hb).1) (IE he).1 (fun _ => rfl) (fun _ => rfl)
                  · cases ht
              | Attribute o a p =>
                simp only [trT] at ht
                split at ht
                · rename_i x xp
                  split at ht
                  · rename_i hc; cases ht
                    simp only [Bool.and_eq_true, beq_iff_eq] at hc
                    by_cases hl : isListComp v = true
                    · simp [isNameE, hl] at hct
                    · exact .assign1 pos (by simpa using hl) (.attr OK hc.1.1 hc.1.2 hc.2 xp p) (IE he).1 (fun _ => rfl) (fun _ => rfl)
                  · cases ht
                · cases ht
              | _ => simp [trT] at ht
            · cases h
        · cases h
      | _ => simp [trS] at h
    · cases ast with
      | nil => simp only [trSs] at h; cases h; exact .nil
      | cons a r =>
        simp only [trSs] at h
        split at h
        · rename_i a' r' ha hr; cases h
          exact .cons (IS _ _ ha) (ISs _ _ hr)
        · cases h

end Mine

end

section
open PySem PySem.W PyProof.Rows
set_option linter.unusedVariables false
set_option maxRecDepth 100000
namespace Mine

def oneCell : List (Str × NameKind) → Bool
  | [] => true
  | (x, k) :: r => (k != .cell || r.all fun p => p.1 != x) && oneCell r
def scopeOk (sc : Scope) : Bool := sc.kind == .function && !sc.isCoroutine && !sc.isGenerator && oneCell sc.names && sc.names.all fun p => p.2 != .free
def paramOk (sc : Scope) (p : String) : Bool := sc.names.lookup (Str.ofString p) == some .local || sc.names.lookup (Str.ofString p) == some .cell

/-- a function of the program and its inner form -/
structure FnOk (C : Ctx) (f : String) (ps : List String) (b : List S) : Prop where
  ex : ∃ a oc od osl fd body, C.fnv f = some (.ref a) ∧ C.B.get? a = some ⟨oc, od, .func fd, osl⟩ ∧ C.B.CodeRec fd.code fd.qualname ∧ fd.body = .stmts body ∧ fd.closure = [] ∧ fd.globals = mainGlobals ∧ fd.builtins = builtinsNs ∧
    scopeOk fd.scope = true ∧ ps.all (paramOk fd.scope) = true ∧ (∀ (s : Shared) (vals : List Value), C.B.StaysIn s.heap → vals.length = ps.length → BindsTo s fd ⟨vals, []⟩ ((ps.map Str.ofString).zip vals)) ∧
    ∃ fuel, trSs fuel (fun x => fd.scope.names.lookup x) body = some b

theorem cellsFrom_mem : ∀ (names : List (Str × NameKind)) (n : Nat) (acc : List (Str × Addr)) (x : Str), ((x, NameKind.cell) ∈ names ∨ ∃ a, (x, a) ∈ acc) → ∃ a, (x, a) ∈ cellsFrom n names acc
  | [], n, acc, x, h => by
    rcases h with h | h
    · simp at h
    · exact h
  | (nm, kd) :: r, n, acc, x, h => by
    unfold cellsFrom
    split
    · rename_i hk
      refine cellsFrom_mem r _ _ x ?_
      rcases h with h | ⟨a, h⟩
      · rcases List.mem_cons.mp h with q | q
        · cases q; exact .inr ⟨n, .head _⟩
        · exact .inl q
      · exact .inr ⟨a, .tail _ h⟩
    · rename_i hk
      refine cellsFrom_mem r _ _ x ?_
      rcases h with h | h
      · rcases List.mem_cons.mp h with q | q
        · cases q; simp at hk
        · exact .inl q
      · exact .inr h

theorem cellsFrom_fun : ∀ (names : List (Str × NameKind)) (n : Nat) (acc : List (Str × Addr)), oneCell names = true → (∀ x, (∃ a, (x, a) ∈ acc) → (x, NameKind.cell) ∉ names) → (∀ x a b, (x, a) ∈ acc → (x, b) ∈ acc → a = b) →
    ∀ x a b, (x, a) ∈ cellsFrom n names acc → (x, b) ∈ cellsFrom n names acc → a = b
  | [], n, acc, _, _, h => h
  | (nm, kd) :: r, n, acc, ho, hd, hu => by
    simp only [oneCell, Bool.and_eq_true, Bool.or_eq_true, bne_iff_ne, ne_eq, List.all_eq_true] at ho
    unfold cellsFrom
    split
    · rename_i hk
      have hk' : kd = .cell := by simpa using hk
      subst hk'
      have hr := ho.1.resolve_left (fun q => q rfl)
      refine cellsFrom_fun r _ _ ho.2 (fun x ⟨a, hx⟩ hm => ?_) (fun x a b h1 h2 => ?_)
      · rcases List.mem_cons.mp hx with q | q
        · cases q; exact hr _ hm rfl
        · exact hd x ⟨a, q⟩ (.tail _ hm)
      · rcases List.mem_cons.mp h1 with q | q <;> rcases List.mem_cons.mp h2 with q' | q'
        · cases q; cases q'; rfl
        · cases q; exact absurd (List.Mem.head _) (hd _ ⟨b, q'⟩)
        · cases q'; exact absurd (List.Mem.head _) (hd _ ⟨a, q⟩)
        · exact hu x a b q q'
    · exact cellsFrom_fun r _ _ ho.2 (fun x hx hm => hd x hx (.tail _ hm)) hu

theorem lookup_of_mem {x : Str} {a : Addr} {l : List (Str × Addr)} (h : (x, a) ∈ l) : ∃ b, l.lookup x = some b := by
  cases q : l.lookup x with
  | some b => exact ⟨b, rfl⟩
  | none =>
    rw [List.lookup_eq_none_iff] at q
    exact absurd (q _ h) (by simp)

section
variable {C : Ctx} {n : Nat} {A : Around} {fr : List Env} {σ : Store} {ρ : List Addr} {s : Shared}

/-- what the parameters hold -/
theorem params_sound {kindOf : Str → Option NameKind} {ρ : List Addr} {h : Heap} : ∀ {ps : List String} {vs : List V} {cs : List Value} {m m' : Loc} {mm cm : Str → Option Value}, VRs C ρ h vs cs → bindL ps vs m = some m' →
    (∀ x v, m x = some v → kindOf (Str.ofString x) = some .local → ∃ c, mm (Str.ofString x) = some c ∧ VR C ρ h v c) → (∀ x v, m x = some v → kindOf (Str.ofString x) = some .cell → ∃ c, cm (Str.ofString x) = some c ∧ VR C ρ h v c) →
    (∀ p ∈ ps, kindOf (Str.ofString p) = some .local ∨ kindOf (Str.ofString p) = some .cell) →
    (∀ x v, m' x = some v → kindOf (Str.ofString x) = some .local → ∃ c, PySem.bindL kindOf ((ps.map Str.ofString).zip cs) mm (Str.ofString x) = some c ∧ VR C ρ h v c) ∧
    (∀ x v, m' x = some v → kindOf (Str.ofString x) = some .cell → ∃ c, PySem.bindC kindOf ((ps.map Str.ofString).zip cs) cm (Str.ofString x) = some c ∧ VR C ρ h v c) := by
  intro ps
  induction ps with
  | nil =>
    intro vs cs m m' mm cm hv hb h1 h2 hp
    cases vs with
    | nil => simp only [bindL] at hb; cases hb; exact ⟨h1, h2⟩
    | cons _ _ => simp [bindL] at hb
  | cons p ps ih =>
    intro vs cs m m' mm cm hv hb h1 h2 hp
    cases vs with
    | nil => simp [bindL] at hb
    | cons v vs =>
      rcases hv with _ | ⟨hv, hvs⟩
      rename_i c cs
      simp only [bindL] at hb
      simp only [List.map_cons, List.zip_cons_cons, PySem.bindL, PySem.bindC]
      have hp' : ∀ q ∈ ps, kindOf (Str.ofString q) = some .local ∨ kindOf (Str.ofString q) = some .cell := fun q hq => hp q (.tail _ hq)
      rcases hp p (.head _) with hk | hk
      · rw [if_pos hk, if_pos hk]
        refine ih hvs hb (fun x w e1 e2 => ?_) (fun x w e1 e2 => ?_) hp'
        · simp only [upd] at e1
          split at e1
          · rename_i q; subst q; cases e1; exact ⟨c, by simp, hv⟩
          · rename_i q
            obtain ⟨c', e3, e4⟩ := h1 x w e1 e2
            exact ⟨c', by rw [if_neg fun z => q (ofString_inj z)]; exact e3, e4⟩
        · simp only [upd] at e1
          split at e1
          · rename_i q; subst q; rw [hk] at e2; cases e2
          · exact h2 x w e1 e2
      · have hk' : ¬ kindOf (Str.ofString p) = some .local := by rw [hk]; decide
        rw [if_neg hk', if_neg hk']
        refine ih hvs hb (fun x w e1 e2 => ?_) (fun x w e1 e2 => ?_) hp'
        · simp only [upd] at e1
          split at e1
          · rename_i q; subst q; exact absurd e2 hk'
          · exact h1 x w e1 e2
        · simp only [upd] at e1
          split at e1
          · rename_i q; subst q; cases e1; exact ⟨c, by simp, hv⟩
          · rename_i q
            obtain ⟨c', e3, e4⟩ := h2 x w e1 e2
            exact ⟨c', by rw [if_neg fun z => q (ofString_inj z)]; exact e3, e4⟩

theorem leave_common {env : Env} {X : Store → Prop} {ρ : List Addr} {s s₁ s' : Shared} {h' : Heap} {ea : Addr} {a0 : Value} {K : Addr} {σ' : Store} {ρ' : List Addr} {Bx : Heap} (hs : ∀ b o, s.heap.get? b = some o → s₁.heap.get? b = some o ∧ ¬ exOf env b) (hf : env.frame = some env.locals)
    (hg1 : s₁.gens = s.gens) (hos1 : s₁.os = s.os) (hfok : FrOk C ρ s.heap fr)
    (hX : X σ') (hK : C.fnv "BadTable" = some (.ref K)) (hsr : SR C σ' ρ' Bx) (hg : s'.gens = s₁.gens) (hos : s'.os = s₁.os) (hpre : ∀ (i : Nat) (a : Addr), ρ[i]? = some a → ρ'[i]? = some a) (hfresh : ∀ a, a ∈ ρ' → a ∉ ρ → s₁.heap.get? a = none ∧ ¬ exOf env a)
    (hkeep : ∀ b o, s₁.heap.get? b = some o → b ∉ ρ → ¬ exOf env b → b ∉ frAt (env :: fr) → Kept C b o Bx) (hfrk : ∀ L o, L ∈ frAt (env :: fr) → ¬ exOf env L → s₁.heap.get? L = some o → ∃ sl, s'.heap.get? L = some { o with slots := sl })
    (hfl : Heap.FlyingW Bx fr ea (.ref K) a0 h') (hsm : ∀ b o, s'.heap.get? b = some o → (∀ vs, o.data ≠ .fields vs) → ∃ sl, h'.get? b = some { o with slots := sl }) :
    ExcP C fr X noEx ρ s (.ref ea) { s' with heap := h' } := by
  refine ⟨σ', ρ', ea, a0, Bx, K, hX, rfl, hK, hfl, hsr, hg.trans hg1, hos.trans hos1, hpre, fun a h1 h2 => ⟨?_, fun q => q⟩, fun b o e h1 _ h3 => ?_, fun L o hL _ e => ?_⟩
  · cases q : s.heap.get? a with
    | none => rfl
    | some o => have := (hs a o q).1; rw [(hfresh a h1 h2).1] at this; cases this
  · obtain ⟨e1, e2⟩ := hs b o e
    refine hkeep b o e1 h1 e2 fun hm => ?_
    obtain ⟨e0, he0, hfe⟩ := List.mem_filterMap.mp hm
    rcases List.mem_cons.mp he0 with q | q
    · subst q; rw [hf] at hfe; cases hfe; exact e2 (.inl rfl)
    · exact h3 (List.mem_filterMap.mpr ⟨e0, q, hfe⟩)
  · obtain ⟨e1, e2⟩ := hs L o e
    obtain ⟨e0, he0, hfe⟩ := List.mem_filterMap.mp hL
    obtain ⟨_, L', o', a1, a2, a3, ⟨es, ep, a4⟩, a5⟩ := hfok e0 he0
    rw [hfe] at a1; cases a1
    rw [e] at a3; cases a3
    obtain ⟨sl, e'⟩ := hfrk L o (List.mem_filterMap.mpr ⟨e0, .tail _ he0, hfe⟩) e2 e1
    obtain ⟨sl', e''⟩ := hsm L _ e' (fun vs q => by simp only at q; rw [a4] at q; cases q)
    exact ⟨sl', e''⟩

theorem leave_fly {A' : Around} {env : Env} {X : Store → Prop} {s₁ s' : Shared} {e : Value} {EE : Value → Shared → Prop} (hfr : A'.frames = some (env :: fr)) (hf : env.frame = some env.locals) (hs : ∀ b o, s.heap.get? b = some o → s₁.heap.get? b = some o ∧ ¬ exOf env b)
    (hg1 : s₁.gens = s.gens) (hos1 : s₁.os = s.os) (hfok : FrOk C ρ s.heap fr) (x : ExcP C (env :: fr) X (exOf env) ρ s₁ e s') :
    wpAny (model C.prog C.w) A' (leaving env e) (fun _ s'' => ExcP C fr X noEx ρ s e s'') EE s' := by
  obtain ⟨σ', ρ', ea, a0, Bx, K, hX, rfl, hK, hfl, hsr, hg, hos, hpre, hfresh, hkeep, hfrk⟩ := x
  exact wpAny_leaves_onW hfr hf hfl fun h' fl sm => leave_common hs hf hg1 hos1 hfok hX hK hsr hg hos hpre hfresh hkeep hfrk fl sm

theorem leave_made {A' : Around} {env : Env} {X : Store → Prop} {s₁ s' : Shared} {e : Value} {EE : Value → Shared → Prop} (hfr : A'.frames = some (env :: fr)) (hf : env.frame = some env.locals) (hs : ∀ b o, s.heap.get? b = some o → s₁.heap.get? b = some o ∧ ¬ exOf env b)
    (hg1 : s₁.gens = s.gens) (hos1 : s₁.os = s.os) (hfok : FrOk C ρ s.heap fr) (x : ExcG MadeW C (env :: fr) X (exOf env) ρ s₁ e s') :
    wpAny (model C.prog C.w) A' (leaving env e) (fun _ s'' => ExcP C fr X noEx ρ s e s'') EE s' := by
  obtain ⟨σ', ρ', ea, a0, Bx, K, hX, rfl, hK, ⟨w1, w2, w3, oe, vs, w4, w5, w6, w7, w8⟩, hsr, hg, hos, hpre, hfresh, hkeep, hfrk⟩ := x
  refine wpAny_leaving_firstW hfr w3 hf w4 w1 w2 w6 w7 w8 fun h' hL => ?_
  obtain ⟨k1, ⟨_, _, k2⟩, k3, k4⟩ := hL
  rw [w5] at k3
  exact leave_common hs hf hg1 hos1 hfok hX hK hsr hg hos hpre hfresh hkeep hfrk ⟨k1, w2, k2, k3⟩ k4

theorem newEnv_ok {fd : FuncData} {L a : Addr} (hsc : scopeOk fd.scope = true) (hg : fd.globals = mainGlobals) (hb : fd.builtins = builtinsNs) : EnvOk (fun x => fd.scope.names.lookup x) (callEnvC fd L a) := by
  unfold scopeOk at hsc
  simp only [Bool.and_eq_true, beq_iff_eq, List.all_eq_true, bne_iff_ne, ne_eq] at hsc
  refine ⟨hsc.1.1.1.1, hg, hb, fun x h => h, fun x h => h, fun x h => h, fun x h => absurd rfl (hsc.2 _ (mem_of_lookup h)), fun x h => ?_⟩
  obtain ⟨b, hb'⟩ := cellsFrom_mem fd.scope.names (L + 1) [] x (.inl (mem_of_lookup h))
  exact lookup_of_mem hb'

/-- a function's call by what its body means -/
theorem fn_code (OK : C.Ok) (BK : BadOk C) (RK : RaiseOk C n) {f : String} {ps : List String} {b : List S} (F : FnOk C f ps b) {vs : List V} {m₀ : Loc} {X : Store → Prop} {Q : V → Store → Prop} (hb : bindL ps vs (fun _ => none) = some m₀)
    (h : wpSs C n X b m₀ σ fun fl _ σ' => match fl with | .ret v => Q v σ' | .next => Q .none σ' | .cont => False) : ∀ (A : Around) (fr : List Env) (ρ : List Addr) (s : Shared) (c : Value) (cs : List Value),
    Room A (n + 1) → A.frames = some fr → FrOk C ρ s.heap fr → SR C σ ρ s.heap → VRs C ρ s.heap vs cs → C.fnv f = some c →
    codeAny (model C.prog C.w) A (.call c ⟨cs, []⟩) (fun r s' => match r with
      | .ok (.ret v) => (∃ u σ' ρ', Q u σ' ∧ VR C ρ' s'.heap u v ∧ SR C σ' ρ' s'.heap ∧ Post C noEx ρ ρ' s s')
      | .ok _ => False
      | .error e => ExcP C fr X noEx ρ s e s') s := fun A fr ρ s c cs hroom hfrs hfok hsr hvs hc => by
  obtain ⟨a, oc, od, osl, fd, body, e1, e2, e3, e4, e5, e6, e7, e8, e9, e10, fuel, e11⟩ := F.ex
  rw [e1] at hc; cases hc
  have hB := hsr.base
  have hlen : cs.length = ps.length := by rw [← hvs.length, ← bindL_length hb]
  have hko : EnvOk (fun x => fd.scope.names.lookup x) (callEnvC fd s.heap.objs.size a) := newEnv_ok e8 e6 e7
  have hsc := e8
  unfold scopeOk at hsc
  simp only [Bool.and_eq_true, beq_iff_eq, List.all_eq_true, bne_iff_ne, ne_eq, Bool.not_eq_true'] at hsc
  have hpk : ∀ p ∈ ps, fd.scope.names.lookup (Str.ofString p) = some .local ∨ fd.scope.names.lookup (Str.ofString p) = some .cell := fun p hp => by
    have := List.all_eq_true.mp e9 p hp
    unfold paramOk at this
    simpa using this
  refine codeAny_call_function (by have := hroom.depth; omega) (hB _ _ e2) rfl hsc.1.1.1.2 hsc.1.1.2 e4 (e3.keeps hB) (e10 s cs hB hlen _ _ _ _ ?_)
  rw [e5]
  have hkind : ∀ x ∈ (ps.map Str.ofString).zip cs, fd.scope.names.lookup x.1 = some .local ∨ (fd.scope.names.lookup x.1 = some .cell ∧ ((cellsFrom (s.heap.objs.size + 1) fd.scope.names []).lookup x.1).isSome = true) := fun x hx => by
    have hx1 : x.1 ∈ ps.map Str.ofString := (List.of_mem_zip hx).1
    obtain ⟨p, hp, hq⟩ := List.mem_map.mp hx1
    rw [← hq]
    rcases hpk p hp with q | q
    · exact .inl q
    · obtain ⟨c, hc⟩ := cellsFrom_mem fd.scope.names (s.heap.objs.size + 1) [] _ (.inl (mem_of_lookup q))
      obtain ⟨d, hd⟩ := lookup_of_mem hc
      exact .inr ⟨q, by rw [hd]; rfl⟩
  refine wpAny_newFunctionEnv_cells hsc.1.1.1.1 hkind fun env he s₁ IC => ?_
  have he' : env = callEnvC fd s.heap.objs.size a := he
  subst he'
  generalize henv : callEnvC fd s.heap.objs.size a = env at *
  have hloc : env.locals = s.heap.objs.size := by rw [← henv]; rfl
  have hframe : env.frame = some env.locals := by rw [← henv]; rfl
  obtain ⟨hh, tk, hs₁⟩ := IC.toInCall.same
  have hg1 : s₁.gens = s.gens := by rw [hs₁]
  have hos1 : s₁.os = s.os := by rw [hs₁]
  have hex : ∀ b, exOf env b → s.heap.objs.size ≤ b := fun b q => by
    rcases q with q | ⟨nm, q⟩
    · rw [q, hloc]; exact Nat.le_refl _
    · exact Nat.le_of_lt (Nat.lt_of_le_of_lt IC.toInCall.fresh (IC.above nm b q))
  have hexn : ∀ b, exOf env b → s.heap.get? b = none := fun b q => Heap.get?_none_of_le (hex b q)
  have hsk : ∀ b o, s.heap.get? b = some o → s₁.heap.get? b = some o ∧ ¬ exOf env b := fun b o e => ⟨IC.toInCall.keep b o e, fun q => by rw [hexn b q] at e; cases e⟩
  have hBn : ∀ b, exOf env b → C.B.get? b = none := fun b q => by
    cases z : C.B.get? b with
    | none => rfl
    | some o => have := hB b o z; rw [hexn b q] at this; cases this
  have hρn : ∀ b, exOf env b → b ∉ ρ := fun b q hm => by
    obtain ⟨_, _, _, _, r⟩ := hsr.owned hm
    obtain ⟨_, e, _⟩ := r.there
    rw [hexn b q] at e; cases e
  have hsr₁ : SR C σ ρ s₁.heap := ⟨hsr.len, fun i o a e1 e2 => (hsr.obj i o a e1 e2).mono (fun _ _ e => e) (fun b o e _ => (hsk b o e).1) (fun o e => (hsk a o e).1), hsr.inj, hsr.new, fun b o e => (hsk b o (hB b o e)).1⟩
  have hvs₁ : VRs C ρ s₁.heap vs cs := hvs.mono (fun _ _ e => e) fun b o e _ => (hsk b o e).1
  have hko' : ∀ x, env.kindOf x = fd.scope.names.lookup x := fun x => by rw [← henv]; rfl
  obtain ⟨P1, P2⟩ := params_sound (C := C) (kindOf := env.kindOf) (mm := fun _ => none) (cm := fun _ => none) hvs₁ hb (fun x v e => by simp at e) (fun x v e => by simp at e) (fun p hp => by rw [hko']; exact hpk p hp)
  have R : Rel C env ⟨m₀, σ⟩ ρ s₁.heap := by
    refine ⟨hsr₁, ⟨_, IC.toInCall.ns, P1⟩, fun nm c hm => ?_, fun x v e1 e2 => ?_, ⟨hBn _ (.inl rfl), hρn _ (.inl rfl)⟩, fun nm c hm => ⟨hBn _ (.inr ⟨nm, hm⟩), hρn _ (.inr ⟨nm, hm⟩), fun q => ?_⟩, fun n1 n2 c h1 h2 => name_of_addr IC.apart h1 h2⟩
    · obtain ⟨d, hd⟩ := lookup_of_mem hm
      have hmd := mem_of_lookup hd
      have hcl : env.cells = cellsFrom (s.heap.objs.size + 1) fd.scope.names [] := by rw [← henv]; rfl
      rw [hcl] at hm hmd
      have hq : d = c := cellsFrom_fun _ _ _ hsc.1.2 (fun x h => by simp at h) (fun x a b h => by simp at h) _ _ _ hmd hm
      subst hq; exact ⟨_, IC.cell nm d hd⟩
    · obtain ⟨c, hc, hv⟩ := P2 x v e1 e2
      obtain ⟨d, hd⟩ := hko.cellAt _ e2
      exact ⟨d, c, hd, by rw [← hc]; exact IC.cell _ d hd, hv⟩
    · have := IC.above nm c hm; rw [q] at this; exact Nat.lt_irrefl _ this
  have fok : FrOk C ρ s₁.heap (env :: fr) := fun e he => by
    rcases List.mem_cons.mp he with q | q
    · subst q
      obtain ⟨o, es, ep, e1, e2, _⟩ := IC.toInCall.ns
      exact ⟨by rw [hko.kind]; decide, _, o, hframe, hBn _ (.inl rfl), e1, ⟨es, ep, e2⟩, hρn _ (.inl rfl)⟩
    · obtain ⟨hk, L, o, a1, a2, a3, a4, a5⟩ := hfok e q
      exact ⟨hk, L, o, a1, a2, (hsk L o a3).1, a4, a5⟩
  have sit : Sit C n (A.deeper env) (env :: fr) env m₀ σ ρ s₁ := ⟨⟨hroom.handled, by show A.depth + 1 + n + 60 < _; have := hroom.depth; omega, by show A.units + 3 + 4 * n + 200 < _; have := hroom.units; omega⟩, Around.frames_deeper hfrs, fok, R⟩
  refine ⟨(OK.nolimit.keeps hB).keeps IC.toInCall.keep, codeAny_func ?_⟩
  have ps : Pass C (A.deeper env) (env :: fr) env X (fun e s' => wpAny (model C.prog C.w) (A.deeper env) (leaving env e) (fun _ s'' => ExcP C fr X noEx ρ s e s'') (fun e' s'' => ExcP C fr X noEx ρ s e' s'') s') ρ s₁ :=
    ⟨⟨fr, rfl, hframe⟩, PassesOwn.leaving, fun e s' x => leave_fly (Around.frames_deeper hfrs) hframe hsk hg1 hos1 hfok x, fun e s' x => leave_made (Around.frames_deeper hfrs) hframe hsk hg1 hos1 hfok x⟩
  refine wpAny_mono ((trS_sound OK BK RK fuel X (fun x => fd.scope.names.lookup x)).2 body b e11 _ _ _ _ _ _ _ _ _ hko sit ps h) (fun fl s' ⟨fl', m', σ', ρ', hq, hfl, sit', p⟩ => ?_) fun _ _ x => x
  have p' : Post C noEx ρ ρ' s s' := ⟨p.gens.trans hg1, p.os.trans hos1, p.pre, fun a h1 h2 => ⟨(by
      cases q : s.heap.get? a with
      | none => rfl
      | some o => exact absurd (hsk a o q).1 (by rw [(p.fresh a h1 h2).1]; simp)), fun q => q⟩, fun b o e h1 _ => p.keep b o (hsk b o e).1 h1 (hsk b o e).2⟩
  cases fl' <;> cases fl <;> simp only [FlR] at hfl <;> dsimp only at hq ⊢
  · exact ⟨.none, σ', ρ', hq, .none, sit'.rel.sr, p'⟩
  · exact ⟨_, σ', ρ', hq, hfl, sit'.rel.sr, p'⟩

theorem fn_call (OK : C.Ok) (BK : BadOk C) (RK : RaiseOk C n) {f : String} {ps : List String} {b : List S} (F : FnOk C f ps b) {vs : List V} {m₀ : Loc} {X : Store → Prop} {Q : V → Store → Prop} (hb : bindL ps vs (fun _ => none) = some m₀)
    (h : wpSs C n X b m₀ σ fun fl _ σ' => match fl with | .ret v => Q v σ' | .next => Q .none σ' | .cont => False) : SemCall C (n + 1) f vs σ Q X := fun A fr ρ s c cs h1 h2 h3 h4 h5 h6 =>
  wpAny_call (fn_code OK BK RK F hb h A fr ρ s c cs h1 h2 h3 h4 h5 h6)

end
end Mine

end

section
open PySem
set_option linter.unusedVariables false
set_option maxRecDepth 100000
namespace Mine

def b_Geometry_init : List S := [
  .assign (.attr "self" "files") (.loc "files"),
  .assign (.attr "self" "ranks") (.loc "ranks"),
  .assign (.attr "self" "size") (.bin .Mult (.loc "files") (.loc "ranks")),
  .assign (.attr "self" "full") (.bin .Sub (.bin .LShift (.cint 1) (.bin .Mult (.loc "files") (.loc "ranks"))) (.cint 1)),
  .assign (.attr "self" "has_double") (.all [(.loc "has_double"), (.cmp .GtE (.loc "ranks") (.cint 5))]),
  .assign (.attr "self" "has_castling") (.loc "has_castling"),
  .assign (.attr "self" "file_masks") (.lst []),
  .assign (.attr "self" "rank_masks") (.lst []),
  .assign (.attr "self" "rays") (.lst []),
  .assign (.attr "self" "king") (.lst []),
  .assign (.attr "self" "knight") (.lst []),
  .assign (.attr "self" "pawn") (.lst [(.lst []), (.lst [])]),
  .assign (.attr "self" "castles") (.lst []),
  .assign (.attr "self" "rights_lost") (.lst [])]

def b_is_growing : List S := [
  .ret (.any [(.cmp .Gt (.sub (.glob "STEP_RANKS") (.loc "d")) (.cint 0)), (.cmp .Eq (.loc "d") (.cint 1))])]

def b_add_masks : List S := [
  .assign (.name "row") (.bin .Sub (.bin .LShift (.cint 1) (.attr "geo" "files")) (.cint 1)),
  .assign (.name "column") (.cint 0),
  .for (.name "r") (.bcall "range" [(.attr "geo" "ranks")]) [
    .append (.attr "geo" "rank_masks") (.bin .LShift (.loc "row") (.bin .Mult (.loc "r") (.attr "geo" "files"))),
    .aug "column" .BitOr (.bin .LShift (.cint 1) (.bin .Mult (.loc "r") (.attr "geo" "files")))],
  .for (.name "f") (.bcall "range" [(.attr "geo" "files")]) [
    .append (.attr "geo" "file_masks") (.bin .LShift (.loc "column") (.loc "f"))]]

def b_inner_squares : List S := [
  .assign (.name "edge") (.cint 0),
  .ite (.cmp .Gt (.sub (.glob "STEP_FILES") (.loc "d")) (.cint 0)) [
    .aug "edge" .BitOr (.sub (.attr "geo" "file_masks") (.bin .Sub (.attr "geo" "files") (.cint 1)))] [],
  .ite (.cmp .Lt (.sub (.glob "STEP_FILES") (.loc "d")) (.cint 0)) [
    .aug "edge" .BitOr (.sub (.attr "geo" "file_masks") (.cint 0))] [],
  .ite (.cmp .Gt (.sub (.glob "STEP_RANKS") (.loc "d")) (.cint 0)) [
    .aug "edge" .BitOr (.sub (.attr "geo" "rank_masks") (.bin .Sub (.attr "geo" "ranks") (.cint 1)))] [],
  .ite (.cmp .Lt (.sub (.glob "STEP_RANKS") (.loc "d")) (.cint 0)) [
    .aug "edge" .BitOr (.sub (.attr "geo" "rank_masks") (.cint 0))] [],
  .ret (.bin .BitAnd (.attr "geo" "full") (.inv (.loc "edge")))]

def b_add_rays : List S := [
  .assign (.attr "geo" "king") (.bin .Mult (.lst [(.cint 0)]) (.attr "geo" "size")),
  .for (.name "d") (.bcall "range" [(.cint 8)]) [
    .assign (.name "inner") (.call (.glob "inner_squares") [(.loc "geo"), (.loc "d")]),
    .assign (.name "delta") (.bin .Add (.bin .Mult (.sub (.glob "STEP_RANKS") (.loc "d")) (.attr "geo" "files")) (.sub (.glob "STEP_FILES") (.loc "d"))),
    .assign (.name "ray") (.bin .Mult (.lst [(.cint 0)]) (.attr "geo" "size")),
    .assign (.name "order") (.bcall "range" [(.attr "geo" "size")]),
    .ite (.call (.glob "is_growing") [(.loc "d")]) [
      .assign (.name "order") (.bcall "range" [(.bin .Sub (.attr "geo" "size") (.cint 1)), (.neg (.cint 1)), (.neg (.cint 1))])] [],
    .for (.name "square") (.loc "order") [
      .ite (.bin .BitAnd (.bin .RShift (.loc "inner") (.loc "square")) (.cint 1)) [
        .assign (.name "goal") (.bin .Add (.loc "square") (.loc "delta")),
        .assign (.sub (.loc "ray") (.loc "square")) (.bin .BitOr (.sub (.loc "ray") (.loc "goal")) (.bin .LShift (.cint 1) (.loc "goal"))),
        .augsub (.attr "geo" "king") (.loc "square") .BitOr (.bin .LShift (.cint 1) (.loc "goal"))] []],
    .append (.attr "geo" "rays") (.loc "ray")]]

def b_add_pawns : List S := [
  .for (.name "square") (.bcall "range" [(.attr "geo" "size")]) [
    .append (.sub (.attr "geo" "pawn") (.cint 0)) (.bin .BitAnd (.sub (.attr "geo" "king") (.loc "square")) (.bin .BitOr (.sub (.sub (.attr "geo" "rays") (.cint 4)) (.loc "square")) (.sub (.sub (.attr "geo" "rays") (.cint 7)) (.loc "square")))),
    .append (.sub (.attr "geo" "pawn") (.cint 1)) (.bin .BitAnd (.sub (.attr "geo" "king") (.loc "square")) (.bin .BitOr (.sub (.sub (.attr "geo" "rays") (.cint 5)) (.loc "square")) (.sub (.sub (.attr "geo" "rays") (.cint 6)) (.loc "square"))))]]

def b_add_knights : List S := [
  .assign (.name "files") (.attr "geo" "files"),
  .assign (.name "not_first") (.bin .BitAnd (.attr "geo" "full") (.inv (.sub (.attr "geo" "file_masks") (.cint 0)))),
  .assign (.name "not_last") (.bin .BitAnd (.attr "geo" "full") (.inv (.sub (.attr "geo" "file_masks") (.bin .Sub (.loc "files") (.cint 1))))),
  .assign (.name "not_first_two") (.bin .BitAnd (.loc "not_first") (.inv (.sub (.attr "geo" "file_masks") (.cint 1)))),
  .assign (.name "not_last_two") (.bin .BitAnd (.loc "not_last") (.inv (.sub (.attr "geo" "file_masks") (.bin .Sub (.loc "files") (.cint 2))))),
  .for (.name "square") (.bcall "range" [(.attr "geo" "size")]) [
    .assign (.name "b") (.bin .LShift (.cint 1) (.loc "square")),
    .assign (.name "near") (.bin .BitOr (.bin .BitAnd (.bin .LShift (.loc "b") (.cint 1)) (.loc "not_first")) (.bin .BitAnd (.bin .RShift (.loc "b") (.cint 1)) (.loc "not_last"))),
    .assign (.name "far") (.bin .BitOr (.bin .BitAnd (.bin .LShift (.loc "b") (.cint 2)) (.loc "not_first_two")) (.bin .BitAnd (.bin .RShift (.loc "b") (.cint 2)) (.loc "not_last_two"))),
    .assign (.name "found") (.bin .BitOr (.bin .BitOr (.bin .BitOr (.bin .LShift (.loc "near") (.bin .Mult (.cint 2) (.loc "files"))) (.bin .RShift (.loc "near") (.bin .Mult (.cint 2) (.loc "files")))) (.bin .LShift (.loc "far") (.loc "files"))) (.bin .RShift (.loc "far") (.loc "files"))),
    .append (.attr "geo" "knight") (.bin .BitAnd (.loc "found") (.attr "geo" "full"))]]

def b_add_castles : List S := [
  .assign (.attr "geo" "rights_lost") (.bin .Mult (.lst [(.cint 0)]) (.attr "geo" "size")),
  .assign (.name "start") (.bin .FloorDiv (.attr "geo" "files") (.cint 2)),
  .for (.name "index") (.bcall "range" [(.cint 4)]) [
    .assign (.name "base") (.bin .Mult (.bin .Mult (.bin .RShift (.loc "index") (.cint 1)) (.bin .Sub (.attr "geo" "ranks") (.cint 1))) (.attr "geo" "files")),
    .assign (.name "corner") (.bin .Sub (.attr "geo" "files") (.cint 1)),
    .assign (.name "way") (.cint 1),
    .ite (.bin .BitAnd (.loc "index") (.cint 1)) [
      .assign (.name "corner") (.cint 0),
      .assign (.name "way") (.neg (.cint 1))] [],
    .assign (.name "goal") (.bin .Add (.loc "start") (.bin .Mult (.cint 2) (.loc "way"))),
    .ite (.all [(.attr "geo" "has_castling"), (.cmp .Gt (.bin .Mult (.bin .Sub (.loc "corner") (.loc "goal")) (.loc "way")) (.cint 0))]) [
      .append (.attr "geo" "castles") (.tup [(.bin .Add (.loc "base") (.loc "start")), (.bin .Add (.loc "base") (.loc "goal")), (.bin .Add (.loc "base") (.loc "corner")), (.bin .Sub (.bin .Add (.loc "base") (.loc "goal")) (.loc "way"))]),
      .augsub (.attr "geo" "rights_lost") (.bin .Add (.loc "base") (.loc "start")) .BitOr (.bin .LShift (.cint 1) (.loc "index")),
      .augsub (.attr "geo" "rights_lost") (.bin .Add (.loc "base") (.loc "corner")) .BitOr (.bin .LShift (.cint 1) (.loc "index"))] [
      .append (.attr "geo" "castles") .cnone]]]

def b_make_geometry : List S := [
  .ite (.any [(.cmp .Lt (.loc "files") (.cint 2)), (.cmp .Gt (.loc "files") (.cint 8)), (.cmp .Lt (.loc "ranks") (.cint 3)), (.cmp .Gt (.loc "ranks") (.cint 8))]) [
    .raise "ChessError" "no board has that many files and ranks"] [],
  .assign (.name "geo") (.call (.glob "Geometry") [(.loc "files"), (.loc "ranks"), (.loc "has_double"), (.loc "has_castling")]),
  .expr (.call (.glob "add_masks") [(.loc "geo")]),
  .expr (.call (.glob "add_rays") [(.loc "geo")]),
  .expr (.call (.glob "add_pawns") [(.loc "geo")]),
  .expr (.call (.glob "add_knights") [(.loc "geo")]),
  .expr (.call (.glob "add_castles") [(.loc "geo")]),
  .ret (.loc "geo")]

def b_ray_attacks : List S := [
  .assign (.name "ray") (.sub (.sub (.attr "geo" "rays") (.loc "d")) (.loc "square")),
  .assign (.name "stop") (.bin .BitAnd (.loc "ray") (.loc "occupied")),
  .ite (.cmp .Eq (.loc "stop") (.cint 0)) [
    .ret (.loc "ray")] [],
  .ite (.call (.glob "is_growing") [(.loc "d")]) [
    .ret (.bin .BitAnd (.loc "ray") (.bin .BitXor (.loc "stop") (.bin .Sub (.loc "stop") (.cint 1))))] [],
  .assign (.name "behind") (.bin .RShift (.loc "stop") (.cint 1)),
  .aug "behind" .BitOr (.bin .RShift (.loc "behind") (.cint 1)),
  .aug "behind" .BitOr (.bin .RShift (.loc "behind") (.cint 2)),
  .aug "behind" .BitOr (.bin .RShift (.loc "behind") (.cint 4)),
  .aug "behind" .BitOr (.bin .RShift (.loc "behind") (.cint 8)),
  .aug "behind" .BitOr (.bin .RShift (.loc "behind") (.cint 16)),
  .aug "behind" .BitOr (.bin .RShift (.loc "behind") (.cint 32)),
  .ret (.bin .BitAnd (.loc "ray") (.inv (.loc "behind")))]

def b_rook_attacks : List S := [
  .assign (.name "found") (.cint 0),
  .for (.name "d") (.bcall "range" [(.cint 4)]) [
    .aug "found" .BitOr (.call (.glob "ray_attacks") [(.loc "geo"), (.loc "d"), (.loc "square"), (.loc "occupied")])],
  .ret (.loc "found")]

def b_bishop_attacks : List S := [
  .assign (.name "found") (.cint 0),
  .for (.name "d") (.bcall "range" [(.cint 4), (.cint 8)]) [
    .aug "found" .BitOr (.call (.glob "ray_attacks") [(.loc "geo"), (.loc "d"), (.loc "square"), (.loc "occupied")])],
  .ret (.loc "found")]

def b_queen_attacks : List S := [
  .ret (.bin .BitOr (.call (.glob "rook_attacks") [(.loc "geo"), (.loc "square"), (.loc "occupied")]) (.call (.glob "bishop_attacks") [(.loc "geo"), (.loc "square"), (.loc "occupied")]))]

def b_slider_attacks : List S := [
  .ite (.cmp .Eq (.loc "kind") (.glob "BISHOP")) [
    .ret (.call (.glob "bishop_attacks") [(.loc "geo"), (.loc "square"), (.loc "occupied")])] [],
  .ite (.cmp .Eq (.loc "kind") (.glob "ROOK")) [
    .ret (.call (.glob "rook_attacks") [(.loc "geo"), (.loc "square"), (.loc "occupied")])] [],
  .ite (.cmp .Eq (.loc "kind") (.glob "QUEEN")) [
    .ret (.call (.glob "queen_attacks") [(.loc "geo"), (.loc "square"), (.loc "occupied")])] [],
  .ret (.cint 0)]

def b_piece_attacks : List S := [
  .ite (.cmp .Eq (.loc "kind") (.glob "PAWN")) [
    .ret (.sub (.sub (.attr "geo" "pawn") (.loc "side")) (.loc "square"))] [],
  .ite (.cmp .Eq (.loc "kind") (.glob "KNIGHT")) [
    .ret (.sub (.attr "geo" "knight") (.loc "square"))] [],
  .ite (.cmp .Eq (.loc "kind") (.glob "KING")) [
    .ret (.sub (.attr "geo" "king") (.loc "square"))] [],
  .ret (.call (.glob "slider_attacks") [(.loc "geo"), (.loc "kind"), (.loc "square"), (.loc "occupied")])]

def b_solve : List S := [
  .assign (.name "values") (.bin .Mult (.lst [(.glob "NO_MATE")]) (.bcall "len" [(.loc "after")])),
  .assign (.name "left") (.lst []),
  .assign (.name "before") (.comp (.lst []) "n" (.loc "after") []),
  .assign (.name "queue") (.lst []),
  .for (.name "n") (.bcall "range" [(.bcall "len" [(.loc "after")])]) [
    .append (.loc "left") (.bcall "len" [(.sub (.loc "after") (.loc "n"))]),
    .for (.name "m") (.sub (.loc "after") (.loc "n")) [
      .ite (.cmp .NotEq (.loc "m") (.glob "OUTSIDE")) [
        .append (.sub (.loc "before") (.loc "m")) (.loc "n")] []],
    .ite (.sub (.loc "lost") (.loc "n")) [
      .assign (.sub (.loc "values") (.loc "n")) (.cint 0),
      .append (.loc "queue") (.loc "n")] []],
  .assign (.name "at") (.cint 0),
  .while (.cmp .Lt (.loc "at") (.bcall "len" [(.loc "queue")])) [
    .assign (.name "m") (.sub (.loc "queue") (.loc "at")),
    .aug "at" .Add (.cint 1),
    .for (.name "n") (.sub (.loc "before") (.loc "m")) [
      .augsub (.loc "left") (.loc "n") .Sub (.cint 1),
      .ite (.all [(.cmp .Eq (.sub (.loc "values") (.loc "n")) (.glob "NO_MATE")), (.any [(.cmp .Eq (.sub (.loc "sides") (.loc "n")) (.glob "STRONG_MOVES")), (.cmp .Eq (.sub (.loc "left") (.loc "n")) (.cint 0))])]) [
        .assign (.sub (.loc "values") (.loc "n")) (.bin .Add (.sub (.loc "values") (.loc "m")) (.cint 1)),
        .append (.loc "queue") (.loc "n")] []]],
  .ret (.loc "values")]

def b_index_of : List S := [
  .ret (.bin .Add (.bin .Mult (.bin .Add (.bin .Mult (.bin .Add (.bin .Mult (.loc "side") (.loc "size")) (.loc "strong")) (.loc "size")) (.loc "piece")) (.loc "size")) (.loc "weak"))]

def b_parts_of : List S := [
  .ret (.tup [(.bin .FloorDiv (.loc "n") (.bin .Mult (.bin .Mult (.loc "size") (.loc "size")) (.loc "size"))), (.bin .Mod (.bin .FloorDiv (.loc "n") (.bin .Mult (.loc "size") (.loc "size"))) (.loc "size")), (.bin .Mod (.bin .FloorDiv (.loc "n") (.loc "size")) (.loc "size")), (.bin .Mod (.loc "n") (.loc "size"))])]

def b_mark_places : List S := [
  .assign (.name "size") (.attr "geo" "size"),
  .assign (.name "places") (.lst []),
  .for (.name "strong") (.bcall "range" [(.loc "size")]) [
    .for (.name "piece") (.bcall "range" [(.loc "size")]) [
      .assign (.name "free") (.bin .BitAnd (.attr "geo" "full") (.inv (.bin .BitOr (.bin .BitOr (.sub (.attr "geo" "king") (.loc "strong")) (.bin .LShift (.cint 1) (.loc "strong"))) (.bin .LShift (.cint 1) (.loc "piece"))))),
      .ite (.any [(.cmp .Eq (.bin .BitAnd (.bin .RShift (.loc "zone") (.loc "strong")) (.cint 1)) (.cint 0)), (.cmp .Eq (.loc "piece") (.loc "strong")), (.cmp .Eq (.loc "free") (.cint 0))]) [
        .cont] [],
      .assign (.name "checked") (.call (.glob "piece_attacks") [(.loc "geo"), (.glob "WHITE"), (.loc "kind"), (.loc "piece"), (.bin .LShift (.cint 1) (.loc "strong"))]),
      .for (.name "weak") (.bcall "range" [(.loc "size")]) [
        .ite (.bin .BitAnd (.bin .RShift (.loc "free") (.loc "weak")) (.cint 1)) [
          .append (.loc "places") (.call (.glob "index_of") [(.loc "size"), (.glob "WEAK_MOVES"), (.loc "strong"), (.loc "piece"), (.loc "weak")]),
          .ite (.cmp .Eq (.bin .BitAnd (.bin .RShift (.loc "checked") (.loc "weak")) (.cint 1)) (.cint 0)) [
            .append (.loc "places") (.call (.glob "index_of") [(.loc "size"), (.glob "STRONG_MOVES"), (.loc "strong"), (.loc "piece"), (.loc "weak")])] []] []]]],
  .for (.name "n") (.loc "places") [
    .assign (.sub (.loc "table") (.loc "n")) (.glob "NO_MATE")],
  .ret (.loc "places")]

def b_weak_moves : List S := [
  .assign (.name "out") (.lst []),
  .assign (.name "steps") (.sub (.attr "geo" "king") (.loc "weak")),
  .for (.name "goal") (.bcall "range" [(.attr "geo" "size")]) [
    .ite (.cmp .Eq (.bin .BitAnd (.bin .RShift (.loc "steps") (.loc "goal")) (.cint 1)) (.cint 0)) [
      .cont] [],
    .ite (.cmp .Eq (.loc "goal") (.loc "piece")) [
      .ite (.cmp .Eq (.bin .BitAnd (.bin .RShift (.sub (.attr "geo" "king") (.loc "strong")) (.loc "piece")) (.cint 1)) (.cint 0)) [
        .append (.loc "out") (.tup [(.loc "weak"), (.loc "goal"), (.glob "OUTSIDE")])] []] [
      .assign (.name "place") (.call (.glob "index_of") [(.attr "geo" "size"), (.glob "STRONG_MOVES"), (.loc "strong"), (.loc "piece"), (.loc "goal")]),
      .ite (.cmp .NotEq (.sub (.loc "table") (.loc "place")) (.glob "NOT_A_PLACE")) [
        .append (.loc "out") (.tup [(.loc "weak"), (.loc "goal"), (.loc "place")])] []]],
  .ret (.loc "out")]

def b_strong_moves : List S := [
  .assign (.name "out") (.lst []),
  .assign (.name "steps") (.sub (.attr "geo" "king") (.loc "strong")),
  .assign (.name "slides") (.call (.glob "piece_attacks") [(.loc "geo"), (.glob "WHITE"), (.loc "kind"), (.loc "piece"), (.bin .BitOr (.bin .LShift (.cint 1) (.loc "strong")) (.bin .LShift (.cint 1) (.loc "weak")))]),
  .for (.name "goal") (.bcall "range" [(.attr "geo" "size")]) [
    .ite (.bin .BitAnd (.bin .RShift (.loc "steps") (.loc "goal")) (.cint 1)) [
      .assign (.name "place") (.call (.glob "index_of") [(.attr "geo" "size"), (.glob "WEAK_MOVES"), (.loc "goal"), (.loc "piece"), (.loc "weak")]),
      .ite (.cmp .NotEq (.sub (.loc "table") (.loc "place")) (.glob "NOT_A_PLACE")) [
        .append (.loc "out") (.tup [(.loc "strong"), (.loc "goal"), (.loc "place")])] []] []],
  .for (.name "goal") (.bcall "range" [(.attr "geo" "size")]) [
    .ite (.bin .BitAnd (.bin .RShift (.loc "slides") (.loc "goal")) (.cint 1)) [
      .assign (.name "place") (.call (.glob "index_of") [(.attr "geo" "size"), (.glob "WEAK_MOVES"), (.loc "strong"), (.loc "goal"), (.loc "weak")]),
      .ite (.cmp .NotEq (.sub (.loc "table") (.loc "place")) (.glob "NOT_A_PLACE")) [
        .append (.loc "out") (.tup [(.loc "piece"), (.loc "goal"), (.loc "place")])] []] []],
  .ret (.loc "out")]

def b_moves_at : List S := [
  .ite (.cmp .Eq (.loc "side") (.glob "WEAK_MOVES")) [
    .ret (.call (.glob "weak_moves") [(.loc "geo"), (.loc "table"), (.loc "strong"), (.loc "piece"), (.loc "weak")])] [],
  .ret (.call (.glob "strong_moves") [(.loc "geo"), (.loc "table"), (.loc "kind"), (.loc "strong"), (.loc "piece"), (.loc "weak")])]

def b_build_zone : List S := [
  .ite (.any [(.cmp .Lt (.loc "kind") (.glob "KNIGHT")), (.cmp .Gt (.loc "kind") (.glob "QUEEN"))]) [
    .raise "BadTable" "no table for this kind"] [],
  .assign (.name "half") (.bin .Mult (.bin .Mult (.attr "geo" "size") (.attr "geo" "size")) (.attr "geo" "size")),
  .assign (.name "table") (.bin .Mult (.lst [(.glob "NOT_A_PLACE")]) (.bin .Mult (.cint 2) (.loc "half"))),
  .assign (.name "places") (.call (.glob "mark_places") [(.loc "geo"), (.loc "kind"), (.loc "zone"), (.loc "table")]),
  .assign (.name "where") (.dct (.glob "OUTSIDE") (.glob "OUTSIDE")),
  .for (.name "k") (.bcall "range" [(.bcall "len" [(.loc "places")])]) [
    .assign (.sub (.loc "where") (.sub (.loc "places") (.loc "k"))) (.loc "k")],
  .assign (.name "sides") (.lst []),
  .assign (.name "after") (.lst []),
  .assign (.name "lost") (.lst []),
  .for (.name "n") (.loc "places") [
    .assign (.tup ["side", "strong", "piece", "weak"]) (.call (.glob "parts_of") [(.attr "geo" "size"), (.loc "n")]),
    .assign (.name "row") (.lst []),
    .for (.tup ["origin", "goal", "place"]) (.call (.glob "moves_at") [(.loc "geo"), (.loc "table"), (.loc "kind"), (.loc "side"), (.loc "strong"), (.loc "piece"), (.loc "weak")]) [
      .append (.loc "row") (.sub (.loc "where") (.loc "place"))],
    .append (.loc "sides") (.loc "side"),
    .append (.loc "after") (.loc "row"),
    .append (.loc "lost") (.all [(.cmp .Eq (.loc "side") (.glob "WEAK_MOVES")), (.cmp .Eq (.loc "row") (.lst [])), (.cmp .Eq (.sub (.loc "table") (.bin .Sub (.loc "n") (.loc "half"))) (.glob "NOT_A_PLACE"))])],
  .assign (.name "values") (.call (.glob "solve") [(.loc "sides"), (.loc "after"), (.loc "lost")]),
  .for (.name "k") (.bcall "range" [(.bcall "len" [(.loc "places")])]) [
    .assign (.sub (.loc "table") (.sub (.loc "places") (.loc "k"))) (.sub (.loc "values") (.loc "k"))],
  .ret (.loc "table")]

def b_probe : List S := [
  .assign (.name "size") (.attr "geo" "size"),
  .ite (.any [(.cmp .Lt (.loc "kind") (.glob "KNIGHT")), (.cmp .Gt (.loc "kind") (.glob "QUEEN"))]) [
    .raise "BadTable" "no table for this kind"] [],
  .ite (.cmp .NotEq (.bcall "len" [(.loc "table")]) (.bin .Mult (.bin .Mult (.bin .Mult (.cint 2) (.loc "size")) (.loc "size")) (.loc "size"))) [
    .raise "BadTable" "the table is of another shape"] [],
  .ite (.all [(.cmp .NotEq (.loc "side") (.glob "STRONG_MOVES")), (.cmp .NotEq (.loc "side") (.glob "WEAK_MOVES"))]) [
    .raise "BadTable" "no such side"] [],
  .for (.name "square") (.tup [(.loc "strong"), (.loc "piece"), (.loc "weak")]) [
    .ite (.any [(.cmp .Lt (.loc "square") (.cint 0)), (.cmp .GtE (.loc "square") (.loc "size"))]) [
      .raise "BadTable" "no such square"] []],
  .ret (.sub (.loc "table") (.call (.glob "index_of") [(.loc "size"), (.loc "side"), (.loc "strong"), (.loc "piece"), (.loc "weak")]))]

def b_best_move : List S := [
  .assign (.name "best") (.tup [(.neg (.cint 1)), (.neg (.cint 1))]),
  .ite (.cmp .Eq (.call (.glob "probe") [(.loc "geo"), (.loc "table"), (.loc "kind"), (.loc "side"), (.loc "strong"), (.loc "piece"), (.loc "weak")]) (.glob "NOT_A_PLACE")) [
    .ret (.loc "best")] [],
  .assign (.name "top") (.cint 0),
  .for (.tup ["origin", "goal", "place"]) (.call (.glob "moves_at") [(.loc "geo"), (.loc "table"), (.loc "kind"), (.loc "side"), (.loc "strong"), (.loc "piece"), (.loc "weak")]) [
    .assign (.name "worth") (.bcall "len" [(.loc "table")]),
    .ite (.all [(.cmp .NotEq (.loc "place") (.glob "OUTSIDE")), (.cmp .NotEq (.sub (.loc "table") (.loc "place")) (.glob "NO_MATE"))]) [
      .assign (.name "worth") (.sub (.loc "table") (.loc "place"))] [],
    .ite (.cmp .Eq (.loc "side") (.glob "STRONG_MOVES")) [
      .assign (.name "worth") (.neg (.loc "worth"))] [],
    .ite (.any [(.cmp .Eq (.loc "best") (.tup [(.neg (.cint 1)), (.neg (.cint 1))])), (.cmp .Gt (.loc "worth") (.loc "top"))]) [
      .assign (.name "best") (.tup [(.loc "origin"), (.loc "goal")]),
      .assign (.name "top") (.loc "worth")] []],
  .ret (.loc "best")]

def b_mate_line : List S := [
  .assign (.name "out") (.lst []),
  .assign (.name "plies") (.call (.glob "probe") [(.loc "geo"), (.loc "table"), (.loc "kind"), (.loc "side"), (.loc "strong"), (.loc "piece"), (.loc "weak")]),
  .while (.cmp .Gt (.loc "plies") (.cint 0)) [
    .assign (.tup ["origin", "goal"]) (.call (.glob "best_move") [(.loc "geo"), (.loc "table"), (.loc "kind"), (.loc "side"), (.loc "strong"), (.loc "piece"), (.loc "weak")]),
    .append (.loc "out") (.tup [(.loc "origin"), (.loc "goal")]),
    .ite (.cmp .Eq (.loc "origin") (.loc "strong")) [
      .assign (.name "strong") (.loc "goal")] [
      .ite (.cmp .Eq (.loc "origin") (.loc "piece")) [
        .assign (.name "piece") (.loc "goal")] [
        .assign (.name "weak") (.loc "goal")]],
    .assign (.name "side") (.bin .Sub (.cint 1) (.loc "side")),
    .aug "plies" .Sub (.cint 1)],
  .ret (.loc "out")]

def b__law_number : List S := [
  .ret (.ite (.cmp .Lt (.loc "i") (.bcall "len" [(.loc "script")])) (.sub (.loc "script") (.loc "i")) (.bin .Mult (.bin .Mult (.cint 5) (.loc "i")) (.bin .Sub (.loc "i") (.cint 1))))]

def b__law_apart : List S := [
  .ret (.tup [(.bcall "abs" [(.bin .Sub (.bin .Mod (.loc "a") (.loc "files")) (.bin .Mod (.loc "b") (.loc "files")))]), (.bcall "abs" [(.bin .Sub (.bin .FloorDiv (.loc "a") (.loc "files")) (.bin .FloorDiv (.loc "b") (.loc "files")))])])]

def b__law_touch : List S := [
  .ret (.cmp .Eq (.bcall "max" [(.call (.glob "_law_apart") [(.loc "files"), (.loc "a"), (.loc "b")])]) (.cint 1))]

def b__law_strikes : List S := [
  .assign (.tup ["across", "up"]) (.call (.glob "_law_apart") [(.loc "files"), (.loc "origin"), (.loc "goal")]),
  .ite (.cmp .Eq (.loc "kind") (.cint 2)) [
    .ret (.cmp .Eq (.bcall "sorted" [(.lst [(.loc "across"), (.loc "up")])]) (.lst [(.cint 1), (.cint 2)]))] [],
  .assign (.name "is_straight") (.cmp .NotEq (.cmp .Eq (.loc "across") (.cint 0)) (.cmp .Eq (.loc "up") (.cint 0))),
  .assign (.name "is_aslant") (.all [(.cmp .Eq (.loc "across") (.loc "up")), (.cmp .Gt (.loc "across") (.cint 0))]),
  .ite (.not (.any [(.all [(.loc "is_straight"), (.cmp .In (.loc "kind") (.tup [(.cint 4), (.cint 5)]))]), (.all [(.loc "is_aslant"), (.cmp .In (.loc "kind") (.tup [(.cint 3), (.cint 5)]))])])) [
    .ret (.cbool false)] [],
  .assign (.name "length") (.bcall "max" [(.loc "across"), (.loc "up")]),
  .for (.name "far") (.bcall "range" [(.cint 1), (.loc "length")]) [
    .assign (.name "x") (.bin .Add (.bin .Mod (.loc "origin") (.loc "files")) (.bin .FloorDiv (.bin .Mult (.bin .Sub (.bin .Mod (.loc "goal") (.loc "files")) (.bin .Mod (.loc "origin") (.loc "files"))) (.loc "far")) (.loc "length"))),
    .assign (.name "y") (.bin .Add (.bin .FloorDiv (.loc "origin") (.loc "files")) (.bin .FloorDiv (.bin .Mult (.bin .Sub (.bin .FloorDiv (.loc "goal") (.loc "files")) (.bin .FloorDiv (.loc "origin") (.loc "files"))) (.loc "far")) (.loc "length"))),
    .ite (.cmp .In (.bin .Add (.bin .Mult (.loc "y") (.loc "files")) (.loc "x")) (.loc "wall")) [
      .ret (.cbool false)] []],
  .ret (.cbool true)]

def b__law_stands : List S := [
  .assign (.tup ["files", "size", "kind", "zone"]) (.loc "board"),
  .assign (.tup ["side", "king", "man", "bare"]) (.loc "place"),
  .ite (.any [(.cmp .NotIn (.loc "king") (.loc "zone")), (.cmp .In (.loc "man") (.tup [(.loc "king"), (.loc "bare")])), (.cmp .Eq (.loc "king") (.loc "bare")), (.call (.glob "_law_touch") [(.loc "files"), (.loc "king"), (.loc "bare")])]) [
    .ret (.cbool false)] [],
  .ret (.any [(.cmp .Eq (.loc "side") (.cint 1)), (.not (.call (.glob "_law_strikes") [(.loc "files"), (.loc "kind"), (.loc "man"), (.loc "bare"), (.lst [(.loc "king")])]))])]

def b__law_ways : List S := [
  .assign (.tup ["files", "size", "kind", "zone"]) (.loc "board"),
  .assign (.tup ["side", "king", "man", "bare"]) (.loc "place"),
  .assign (.name "found") (.lst []),
  .for (.name "goal") (.bcall "range" [(.loc "size")]) [
    .ite (.cmp .Eq (.loc "side") (.cint 1)) [
      .ite (.call (.glob "_law_touch") [(.loc "files"), (.loc "bare"), (.loc "goal")]) [
        .ite (.cmp .Eq (.loc "goal") (.loc "man")) [
          .ite (.not (.call (.glob "_law_touch") [(.loc "files"), (.loc "king"), (.loc "man")])) [
            .append (.loc "found") (.tup [(.loc "bare"), (.loc "goal"), .cnone])] []] [
          .ite (.call (.glob "_law_stands") [(.loc "board"), (.tup [(.cint 0), (.loc "king"), (.loc "man"), (.loc "goal")])]) [
            .append (.loc "found") (.tup [(.loc "bare"), (.loc "goal"), (.tup [(.cint 0), (.loc "king"), (.loc "man"), (.loc "goal")])])] []]] [],
      .cont] [],
    .ite (.all [(.call (.glob "_law_touch") [(.loc "files"), (.loc "king"), (.loc "goal")]), (.call (.glob "_law_stands") [(.loc "board"), (.tup [(.cint 1), (.loc "goal"), (.loc "man"), (.loc "bare")])])]) [
      .append (.loc "found") (.tup [(.loc "king"), (.loc "goal"), (.tup [(.cint 1), (.loc "goal"), (.loc "man"), (.loc "bare")])])] [],
    .ite (.all [(.call (.glob "_law_strikes") [(.loc "files"), (.loc "kind"), (.loc "man"), (.loc "goal"), (.lst [(.loc "king"), (.loc "bare")])]), (.call (.glob "_law_stands") [(.loc "board"), (.tup [(.cint 1), (.loc "king"), (.loc "goal"), (.loc "bare")])])]) [
      .append (.loc "found") (.tup [(.loc "man"), (.loc "goal"), (.tup [(.cint 1), (.loc "king"), (.loc "goal"), (.loc "bare")])])] []],
  .ret (.loc "found")]

def b__law_word : List S := [
  .ite (.cmp .Is (.loc "place") .cnone) [
    .ret (.neg (.cint 1))] [],
  .ret (.call (.glob "probe") [(.loc "geo"), (.loc "table"), (.sub (.loc "board") (.cint 2)), (.sub (.loc "place") (.cint 0)), (.sub (.loc "place") (.cint 1)), (.sub (.loc "place") (.cint 2)), (.sub (.loc "place") (.cint 3))])]

def b__law_due : List S := [
  .assign (.name "won") (.comp (.loc "word") "word" (.loc "words") [(.cmp .GtE (.loc "word") (.cint 0))]),
  .ite (.cmp .Eq (.sub (.loc "place") (.cint 0)) (.cint 0)) [
    .ret (.ite (.cmp .NotEq (.loc "won") (.lst [])) (.bin .Add (.cint 1) (.bcall "min" [(.loc "won")])) (.neg (.cint 1)))] [],
  .ite (.cmp .Eq (.loc "words") (.lst [])) [
    .ret (.ite (.call (.glob "_law_strikes") [(.sub (.loc "board") (.cint 0)), (.sub (.loc "board") (.cint 2)), (.sub (.loc "place") (.cint 2)), (.sub (.loc "place") (.cint 3)), (.lst [(.sub (.loc "place") (.cint 1))])]) (.cint 0) (.neg (.cint 1)))] [],
  .ret (.ite (.cmp .Eq (.bcall "len" [(.loc "won")]) (.bcall "len" [(.loc "words")])) (.bin .Add (.cint 1) (.bcall "max" [(.loc "won")])) (.neg (.cint 1)))]

def b__law_right : List S := [
  .assign (.tup ["side", "king", "man", "bare"]) (.loc "place"),
  .assign (.name "word") (.call (.glob "_law_word") [(.loc "geo"), (.loc "board"), (.loc "table"), (.loc "place")]),
  .assign (.name "heard") (.call (.glob "best_move") [(.loc "geo"), (.loc "table"), (.sub (.loc "board") (.cint 2)), (.loc "side"), (.loc "king"), (.loc "man"), (.loc "bare")]),
  .ite (.not (.call (.glob "_law_stands") [(.loc "board"), (.loc "place")])) [
    .ret (.all [(.cmp .Eq (.loc "word") (.neg (.cint 2))), (.cmp .Eq (.loc "heard") (.tup [(.neg (.cint 1)), (.neg (.cint 1))]))])] [],
  .assign (.name "ways") (.call (.glob "_law_ways") [(.loc "board"), (.loc "place")]),
  .assign (.name "words") (.comp (.call (.glob "_law_word") [(.loc "geo"), (.loc "board"), (.loc "table"), (.sub (.loc "way") (.cint 2))]) "way" (.loc "ways") []),
  .ite (.cmp .NotEq (.loc "word") (.call (.glob "_law_due") [(.loc "board"), (.loc "place"), (.loc "words")])) [
    .ret (.cbool false)] [],
  .ite (.cmp .Eq (.loc "ways") (.lst [])) [
    .ret (.cmp .Eq (.loc "heard") (.tup [(.neg (.cint 1)), (.neg (.cint 1))]))] [],
  .assign (.name "chosen") (.comp (.sub (.loc "words") (.loc "i")) "i" (.bcall "range" [(.bcall "len" [(.loc "ways")])]) [(.cmp .Eq (.upto (.sub (.loc "ways") (.loc "i")) 2) (.loc "heard"))]),
  .ite (.cmp .NotEq (.bcall "len" [(.loc "chosen")]) (.cint 1)) [
    .ret (.cbool false)] [],
  .ite (.cmp .Gt (.loc "word") (.cint 0)) [
    .ret (.cmp .Eq (.sub (.loc "chosen") (.cint 0)) (.bin .Sub (.loc "word") (.cint 1)))] [],
  .ret (.any [(.cmp .Eq (.loc "side") (.cint 0)), (.cmp .Eq (.sub (.loc "chosen") (.cint 0)) (.neg (.cint 1)))])]

def b__law_line_right : List S := [
  .assign (.name "word") (.call (.glob "_law_word") [(.loc "geo"), (.loc "board"), (.loc "table"), (.loc "place")]),
  .assign (.name "played") (.call (.glob "mate_line") [(.loc "geo"), (.loc "table"), (.sub (.loc "board") (.cint 2)), (.sub (.loc "place") (.cint 0)), (.sub (.loc "place") (.cint 1)), (.sub (.loc "place") (.cint 2)), (.sub (.loc "place") (.cint 3))]),
  .ite (.cmp .NotEq (.bcall "len" [(.loc "played")]) (.bcall "max" [(.loc "word"), (.cint 0)])) [
    .ret (.cbool false)] [],
  .for (.name "turn") (.loc "played") [
    .assign (.name "behind") (.comp (.sub (.loc "way") (.cint 2)) "way" (.call (.glob "_law_ways") [(.loc "board"), (.loc "place")]) [(.cmp .Eq (.upto (.loc "way") 2) (.loc "turn"))]),
    .ite (.any [(.cmp .NotEq (.bcall "len" [(.loc "behind")]) (.cint 1)), (.cmp .Is (.sub (.loc "behind") (.cint 0)) .cnone), (.cmp .NotEq (.call (.glob "_law_word") [(.loc "geo"), (.loc "board"), (.loc "table"), (.sub (.loc "behind") (.cint 0))]) (.bin .Sub (.loc "word") (.cint 1)))]) [
      .ret (.cbool false)] [],
    .assign (.tup ["place", "word"]) (.tup [(.sub (.loc "behind") (.cint 0)), (.bin .Sub (.loc "word") (.cint 1))]),
    .ite (.not (.call (.glob "_law_right") [(.loc "geo"), (.loc "board"), (.loc "table"), (.loc "place")])) [
      .ret (.cbool false)] []],
  .ite (.cmp .Eq (.loc "played") (.lst [])) [
    .ret (.cbool true)] [],
  .ret (.all [(.cmp .Eq (.sub (.loc "place") (.cint 0)) (.cint 1)), (.cmp .Eq (.call (.glob "_law_ways") [(.loc "board"), (.loc "place")]) (.lst [])), (.not (.call (.glob "_law_stands") [(.loc "board"), (.tup [(.cint 0), (.sub (.loc "place") (.cint 1)), (.sub (.loc "place") (.cint 2)), (.sub (.loc "place") (.cint 3))])]))])]

def b__law_place : List S := [
  .ret (.tup [(.bin .Mod (.bin .FloorDiv (.loc "n") (.bin .Pow (.loc "size") (.cint 3))) (.cint 2)), (.bin .Mod (.bin .FloorDiv (.loc "n") (.bin .Pow (.loc "size") (.cint 2))) (.loc "size")), (.bin .Mod (.bin .FloorDiv (.loc "n") (.loc "size")) (.loc "size")), (.bin .Mod (.loc "n") (.loc "size"))])]

def b__law_refused : List S := [
  .assign (.tup ["size", "kind"]) (.tup [(.sub (.loc "board") (.cint 1)), (.sub (.loc "board") (.cint 2))]),
  .assign (.name "asked") (.sub (.lst [(.tup [(.loc "table"), (.cint 1), (.cint 0), (.cint 0), (.cint 1), (.bin .Sub (.loc "size") (.cint 1))]), (.tup [(.loc "table"), (.cint 6), (.cint 1), (.cint 0), (.cint 1), (.bin .Sub (.loc "size") (.cint 1))]), (.tup [(.loc "table"), (.loc "kind"), (.cint 2), (.cint 0), (.cint 1), (.cint 2)]), (.tup [(.loc "table"), (.loc "kind"), (.neg (.cint 1)), (.cint 0), (.cint 1), (.cint 2)]), (.tup [(.loc "table"), (.loc "kind"), (.cint 0), (.loc "size"), (.cint 1), (.cint 2)]), (.tup [(.loc "table"), (.loc "kind"), (.cint 1), (.cint 0), (.neg (.cint 1)), (.cint 2)]), (.tup [(.loc "table"), (.loc "kind"), (.cint 0), (.cint 0), (.cint 1), (.bin .Add (.loc "size") (.bin .Mod (.loc "n") (.cint 3)))]), (.tup [(.bin .Add (.loc "table") (.lst [(.cint 0)])), (.loc "kind"), (.cint 0), (.cint 0), (.cint 1), (.bin .Sub (.loc "size") (.cint 1))])]) (.bin .Mod (.loc "n") (.cint 8))),
  .for (.name "work") (.tup [(.glob "probe"), (.glob "best_move"), (.glob "mate_line")]) [
    .try (.loc "work") [(.loc "geo"), (.sub (.loc "asked") (.cint 0)), (.sub (.loc "asked") (.cint 1)), (.sub (.loc "asked") (.cint 2)), (.sub (.loc "asked") (.cint 3)), (.sub (.loc "asked") (.cint 4)), (.sub (.loc "asked") (.cint 5))] "BadTable"],
  .ret (.cbool true)]

def b_law : List S := [
  .assign (.tup ["files", "ranks"]) (.sub (.lst [(.tup [(.cint 2), (.cint 3)]), (.tup [(.cint 3), (.cint 3)]), (.tup [(.cint 2), (.cint 4)]), (.tup [(.cint 3), (.cint 4)])]) (.bin .Mod (.call (.glob "_law_number") [(.loc "script"), (.cint 0)]) (.cint 4))),
  .assign (.tup ["size", "kind"]) (.tup [(.bin .Mult (.loc "files") (.loc "ranks")), (.sub (.lst [(.cint 5), (.cint 4), (.cint 2), (.cint 3)]) (.bin .Mod (.call (.glob "_law_number") [(.loc "script"), (.cint 1)]) (.cint 4)))]),
  .assign (.name "zone") (.comp (.bin .Mod (.call (.glob "_law_number") [(.loc "script"), (.loc "i")]) (.loc "size")) "i" (.tup [(.cint 2), (.cint 3), (.cint 4)]) []),
  .ite (.cmp .Eq (.loc "size") (.cint 6)) [
    .assign (.name "zone") (.bcall "list" [(.bcall "range" [(.loc "size")])])] [],
  .ite (.cmp .Eq (.loc "size") (.cint 12)) [
    .assign (.name "zone") (.upto (.loc "zone") 1)] [],
  .assign (.name "geo") (.call (.glob "make_geometry") [(.loc "files"), (.loc "ranks"), (.cbool false), (.cbool false)]),
  .assign (.name "table") (.call (.glob "build_zone") [(.loc "geo"), (.loc "kind"), (.bcall "sum" [(.comp (.bin .Pow (.cint 2) (.loc "square")) "square" (.bcall "range" [(.loc "size")]) [(.cmp .In (.loc "square") (.loc "zone"))])])]),
  .assign (.name "board") (.tup [(.loc "files"), (.loc "size"), (.loc "kind"), (.loc "zone")]),
  .for (.name "i") (.tup [(.cint 5), (.cint 6), (.cint 7)]) [
    .assign (.name "place") (.call (.glob "_law_place") [(.loc "size"), (.bin .Mod (.call (.glob "_law_number") [(.loc "script"), (.loc "i")]) (.bcall "len" [(.loc "table")]))]),
    .ite (.any [(.not (.call (.glob "_law_right") [(.loc "geo"), (.loc "board"), (.loc "table"), (.loc "place")])), (.not (.call (.glob "_law_line_right") [(.loc "geo"), (.loc "board"), (.loc "table"), (.loc "place")]))]) [
      .ret (.cbool false)] []],
  .assign (.name "won") (.comp (.loc "n") "n" (.bcall "range" [(.bcall "len" [(.loc "table")])]) [(.cmp .Gt (.sub (.loc "table") (.loc "n")) (.cint 0))]),
  .ite (.cmp .NotEq (.loc "won") (.lst [])) [
    .assign (.name "place") (.call (.glob "_law_place") [(.loc "size"), (.sub (.loc "won") (.bin .Mod (.call (.glob "_law_number") [(.loc "script"), (.cint 8)]) (.bcall "len" [(.loc "won")])))]),
    .ite (.any [(.not (.call (.glob "_law_right") [(.loc "geo"), (.loc "board"), (.loc "table"), (.loc "place")])), (.not (.call (.glob "_law_line_right") [(.loc "geo"), (.loc "board"), (.loc "table"), (.loc "place")]))]) [
      .ret (.cbool false)] []] [],
  .ret (.call (.glob "_law_refused") [(.loc "geo"), (.loc "board"), (.loc "table"), (.call (.glob "_law_number") [(.loc "script"), (.cint 9)])])]

end Mine

end

section
open PySem
set_option linter.unusedVariables false
set_option maxRecDepth 100000
namespace Mine

def fnNames : List String := ["is_growing", "add_masks", "inner_squares", "add_rays", "add_pawns", "add_knights", "add_castles", "make_geometry", "ray_attacks", "rook_attacks", "bishop_attacks", "queen_attacks", "slider_attacks", "piece_attacks",
  "solve", "index_of", "parts_of", "mark_places", "weak_moves", "strong_moves", "moves_at", "build_zone", "probe", "best_move", "mate_line",
  "_law_number", "_law_apart", "_law_touch", "_law_strikes", "_law_stands", "_law_ways", "_law_word", "_law_due", "_law_right", "_law_line_right", "_law_place", "_law_refused", "Geometry"]

def glbTab (x : String) : Option V :=
  if x = "STEP_FILES" then some (.tup [.int 0, .int 1, .int 0, .int (-1), .int 1, .int 1, .int (-1), .int (-1)])
  else if x = "STEP_RANKS" then some (.tup [.int 1, .int 0, .int (-1), .int 0, .int 1, .int (-1), .int (-1), .int 1])
  else if x = "WHITE" then some (.int 0) else if x = "PAWN" then some (.int 1) else if x = "KNIGHT" then some (.int 2) else if x = "BISHOP" then some (.int 3) else if x = "ROOK" then some (.int 4)
  else if x = "QUEEN" then some (.int 5) else if x = "KING" then some (.int 6) else if x = "NOT_A_PLACE" then some (.int (-2)) else if x = "NO_MATE" then some (.int (-1)) else if x = "OUTSIDE" then some (.int (-1))
  else if x = "STRONG_MOVES" then some (.int 0) else if x = "WEAK_MOVES" then some (.int 1)
  else if x ∈ fnNames then some (.fn x) else none

/-- a call of the class Geometry -/
def GeoOk (C : Ctx) : Prop :=
  ∀ (n : Nat) (vs : List V) (σ : Store) (Q : V → Store → Prop) (X : Store → Prop) (m₀ : Loc), bindL ["self", "files", "ranks", "has_double", "has_castling"] (.ref (σ.length + 1) :: vs) (fun _ => none) = some m₀ →
    wpSs C n X b_Geometry_init m₀ (σ ++ [.ns fun _ => none] ++ [.inst "Geometry" σ.length]) (fun fl _ σ' => match fl with | .ret v => v = .none ∧ Q (.ref (σ.length + 1)) σ' | .next => V.none = .none ∧ Q (.ref (σ.length + 1)) σ' | .cont => False) → SemCall C (n + 4) "Geometry" vs σ Q X

/-- the program's tables -/
structure Prg (C : Ctx) : Prop where
  OK : C.Ok
  BK : BadOk C
  RK : ∀ n, RaiseOk C n
  glb : C.glb = glbTab
  geo : GeoOk C
  f_is_growing : FnOk C "is_growing" ["d"] b_is_growing
  f_add_masks : FnOk C "add_masks" ["geo"] b_add_masks
  f_inner_squares : FnOk C "inner_squares" ["geo", "d"] b_inner_squares
  f_add_rays : FnOk C "add_rays" ["geo"] b_add_rays
  f_add_pawns : FnOk C "add_pawns" ["geo"] b_add_pawns
  f_add_knights : FnOk C "add_knights" ["geo"] b_add_knights
  f_add_castles : FnOk C "add_castles" ["geo"] b_add_castles
  f_make_geometry : FnOk C "make_geometry" ["files", "ranks", "has_double", "has_castling"] b_make_geometry
  f_ray_attacks : FnOk C "ray_attacks" ["geo", "d", "square", "occupied"] b_ray_attacks
  f_rook_attacks : FnOk C "rook_attacks" ["geo", "square", "occupied"] b_rook_attacks
  f_bishop_attacks : FnOk C "bishop_attacks" ["geo", "square", "occupied"] b_bishop_attacks
  f_queen_attacks : FnOk C "queen_attacks" ["geo", "square", "occupied"] b_queen_attacks
  f_slider_attacks : FnOk C "slider_attacks" ["geo", "kind", "square", "occupied"] b_slider_attacks
  f_piece_attacks : FnOk C "piece_attacks" ["geo", "side", "kind", "square", "occupied"] b_piece_attacks
  f_solve : FnOk C "solve" ["sides", "after", "lost"] b_solve
  f_index_of : FnOk C "index_of" ["size", "side", "strong", "piece", "weak"] b_index_of
  f_parts_of : FnOk C "parts_of" ["size", "n"] b_parts_of
  f_mark_places : FnOk C "mark_places" ["geo", "kind", "zone", "table"] b_mark_places
  f_weak_moves : FnOk C "weak_moves" ["geo", "table", "strong", "piece", "weak"] b_weak_moves
  f_strong_moves : FnOk C "strong_moves" ["geo", "table", "kind", "strong", "piece", "weak"] b_strong_moves
  f_moves_at : FnOk C "moves_at" ["geo", "table", "kind", "side", "strong", "piece", "weak"] b_moves_at
  f_build_zone : FnOk C "build_zone" ["geo", "kind", "zone"] b_build_zone
  f_probe : FnOk C "probe" ["geo", "table", "kind", "side", "strong", "piece", "weak"] b_probe
  f_best_move : FnOk C "best_move" ["geo", "table", "kind", "side", "strong", "piece", "weak"] b_best_move
  f_mate_line : FnOk C "mate_line" ["geo", "table", "kind", "side", "strong", "piece", "weak"] b_mate_line
  f__law_number : FnOk C "_law_number" ["script", "i"] b__law_number
  f__law_apart : FnOk C "_law_apart" ["files", "a", "b"] b__law_apart
  f__law_touch : FnOk C "_law_touch" ["files", "a", "b"] b__law_touch
  f__law_strikes : FnOk C "_law_strikes" ["files", "kind", "origin", "goal", "wall"] b__law_strikes
  f__law_stands : FnOk C "_law_stands" ["board", "place"] b__law_stands
  f__law_ways : FnOk C "_law_ways" ["board", "place"] b__law_ways
  f__law_word : FnOk C "_law_word" ["geo", "board", "table", "place"] b__law_word
  f__law_due : FnOk C "_law_due" ["board", "place", "words"] b__law_due
  f__law_right : FnOk C "_law_right" ["geo", "board", "table", "place"] b__law_right
  f__law_line_right : FnOk C "_law_line_right" ["geo", "board", "table", "place"] b__law_line_right
  f__law_place : FnOk C "_law_place" ["size", "n"] b__law_place
  f__law_refused : FnOk C "_law_refused" ["geo", "board", "table", "n"] b__law_refused
  f_law : FnOk C "law" ["script"] b_law
  f_init : FnOk C "Geometry.__init__" ["self", "files", "ranks", "has_double", "has_castling"] b_Geometry_init

theorem SemCall.up {C : Ctx} {a b : Nat} {f : String} {vs : List V} {σ : Store} {Q : V → Store → Prop} {X : Store → Prop} (h : SemCall C a f vs σ Q X) (hab : a ≤ b) : SemCall C b f vs σ Q X :=
  fun A fr ρ s c cs h1 h2 h3 h4 h5 h6 => h A fr ρ s c cs (h1.mono hab) h2 h3 h4 h5 h6

theorem Prg.call {C : Ctx} (P : Prg C) {n : Nat} {f : String} {ps : List String} {b : List S} (F : FnOk C f ps b) {vs : List V} {m₀ : Loc} {σ : Store} {X : Store → Prop} {Q : V → Store → Prop} (hb : bindL ps vs (fun _ => none) = some m₀)
    (h : wpSs C n X b m₀ σ fun fl _ σ' => match fl with | .ret v => Q v σ' | .next => Q .none σ' | .cont => False) : SemCall C (n + 1) f vs σ Q X := fn_call P.OK P.BK (P.RK n) F hb h

end Mine

end

section
open PySem PySem.W PyProof.Rows
set_option linter.unusedVariables false
set_option maxRecDepth 100000
namespace Mine

def plainArgs (p : Arguments) (ps : List String) : Bool :=
  p.posonlyargs.isEmpty && p.args.map (·.arg) == ps.map Str.ofString && p.vararg.isNone && p.kwonlyargs.isEmpty && p.kwarg.isNone

def theFn (K : Frag) (f : String) : Option (Addr × FuncData) := match nsIn K mainGlobals (Str.ofString f) with
  | some (some (.ref a)) => (match K.lookup a with
    | some ⟨_, _, .func fd, _⟩ => some (a, fd)
    | _ => none)
  | _ => none

def fnAt (K : Frag) (a : Addr) : Option (Addr × FuncData) := match K.lookup a with
    | some ⟨_, _, .func fd, _⟩ => some (a, fd)
    | _ => none

def chkOf (K : Frag) (r : Option (Addr × FuncData)) (ps : List String) : Option (List S) := match r with
  | some (_, fd) => if codeIn K fd.code fd.qualname && fd.closure.isEmpty && fd.globals == mainGlobals && fd.builtins == builtinsNs && (fd.defaults == .none) && scopeOk fd.scope && ps.all (paramOk fd.scope) && plainArgs fd.params ps then
      (match fd.body with
      | .stmts body => trSs 60 (fun x => fd.scope.names.lookup x) body
      | _ => none) else none
  | none => none
def chkFn (K : Frag) (f : String) (ps : List String) : Option (List S) := chkOf K (theFn K f) ps
end Mine

end

section
open PySem PySem.W PyProof.Rows
set_option linter.unusedVariables false
set_option maxRecDepth 1000000
set_option maxHeartbeats 0
namespace Mine

noncomputable abbrev KP (p : Params) : Frag := hd.heap_39 p
def fnAddrs : List (String × Nat) := [("is_growing", 76), ("add_masks", 83), ("inner_squares", 90), ("add_rays", 97), ("add_pawns", 104), ("add_knights", 111), ("add_castles", 118), ("make_geometry", 125), ("ray_attacks", 132), ("rook_attacks", 139), ("bishop_attacks", 146), ("queen_attacks", 153), ("slider_attacks", 160), ("piece_attacks", 167), ("solve", 172), ("index_of", 179), ("parts_of", 186), ("mark_places", 193), ("weak_moves", 200), ("strong_moves", 207), ("moves_at", 214), ("build_zone", 221), ("probe", 228), ("best_move", 235), ("mate_line", 242), ("_law_number", 249), ("_law_apart", 256), ("_law_touch", 263), ("_law_strikes", 270), ("_law_stands", 277), ("_law_ways", 284), ("_law_word", 291), ("_law_due", 296), ("_law_right", 301), ("_law_line_right", 306), ("_law_place", 313), ("_law_refused", 320), ("Geometry", 65), ("BadTable", 44), ("law", 325)]
def allAddrs : List (String × Nat) := ("Geometry.__init__", 62) :: fnAddrs
noncomputable def mkC (prog : Program) (w : World) (B : Heap) : Ctx := { prog, w, B, fnv := fun x => (allAddrs.lookup x).map .ref, glb := glbTab, K := KP w.params }

theorem k_names (p : Params) : fnAddrs.all (fun q => match nsIn (KP p) mainGlobals (Str.ofString q.1) with | some (some (.ref a)) => a == q.2 | _ => false) = true := by kernel_rfl
theorem k_keep (p : Params) (S : Setting) : allAddrs.all (fun q => (peek (KP p) S (keeperOf (.ref q.2))).isSome) = true := by kernel_rfl

def chkInts : List V → List Value → Bool
  | [], [] => true
  | .int i :: r, .int j _ :: s => i == j && chkInts r s
  | _, _ => false
def chkVal (K : Frag) : V → Value → Bool
  | .int i, .int j _ => i == j
  | .fn x, .ref a => allAddrs.lookup x == some a
  | .tup vs, .ref a => (match K.lookup a with
    | some ⟨.type t, _, .seq xs _, _⟩ => t == "tuple" && chkInts vs xs.toList
    | _ => false)
  | _, _ => false
def glbNames : List String := ["STEP_FILES", "STEP_RANKS", "WHITE", "PAWN", "KNIGHT", "BISHOP", "ROOK", "QUEEN", "KING", "NOT_A_PLACE", "NO_MATE", "OUTSIDE", "STRONG_MOVES", "WEAK_MOVES"] ++ fnNames
def chkGlb (K : Frag) (x : String) : Bool := match glbTab x, nsIn K mainGlobals (Str.ofString x) with
  | some v, some (some c) => chkVal K v c
  | _, _ => false
theorem k_glb (p : Params) : glbNames.all (chkGlb (KP p)) = true := by kernel_rfl
theorem k_blt (p : Params) : bnames.all (fun f => match nsIn (KP p) mainGlobals (Str.ofString f) with | some none => true | _ => false) = true := by kernel_rfl
theorem k_blt2 : bnames.all (fun f => bootBuiltins (Str.ofString f) == some (bval f) && (Str.ofString f != ("__name__" : Str))) = true := by kernel_rfl
theorem k_geo (p : Params) : (findIn (KP p) (.ref 65) "__getattribute__" = some (some (.builtin "object.__getattribute__"))) ∧ (findIn (KP p) (.ref 65) "__setattr__" = some (some (.builtin "object.__setattr__"))) ∧
    ((clsIn (KP p) 65).map (·.hasDict) = some true) ∧ plainOver (KP p) 65 = true := ⟨by kernel_rfl, by kernel_rfl, by kernel_rfl, by kernel_rfl⟩
theorem k_attrs (p : Params) : geoAttrs.all (fun n => match findIn (KP p) (.ref 65) (Str.ofString n) with | some none => true | _ => false) = true := by kernel_rfl

theorem c_is_growing (p : Params) : chkFn (KP p) "is_growing" ["d"] = some b_is_growing := by kernel_rfl
theorem d_is_growing (p : Params) (S : Setting) : ∀ vals : List Value, vals.length = 1 → ((theFn (KP p) "is_growing").bind fun r => peek (KP p) S (bindArgs r.2 ⟨vals, []⟩)) = some ((["d"].map Str.ofString).zip vals)
  | [c0], _ => by kernel_rfl
theorem c_add_masks (p : Params) : chkFn (KP p) "add_masks" ["geo"] = some b_add_masks := by kernel_rfl
theorem d_add_masks (p : Params) (S : Setting) : ∀ vals : List Value, vals.length = 1 → ((theFn (KP p) "add_masks").bind fun r => peek (KP p) S (bindArgs r.2 ⟨vals, []⟩)) = some ((["geo"].map Str.ofString).zip vals)
  | [c0], _ => by kernel_rfl
theorem c_inner_squares (p : Params) : chkFn (KP p) "inner_squares" ["geo", "d"] = some b_inner_squares := by kernel_rfl
theorem d_inner_squares (p : Params) (S : Setting) : ∀ vals : List Value, vals.length = 2 → ((theFn (KP p) "inner_squares").bind fun r => peek (KP p) S (bindArgs r.2 ⟨vals, []⟩)) = some ((["geo", "d"].map Str.ofString).zip vals)
  | [c0, c1], _ => by kernel_rfl
theorem c_add_rays (p : Params) : chkFn (KP p) "add_rays" ["geo"] = some b_add_rays := by kernel_rfl
theorem d_add_rays (p : Params) (S : Setting) : ∀ vals : List Value, vals.length = 1 → ((theFn (KP p) "add_rays").bind fun r => peek (KP p) S (bindArgs r.2 ⟨vals, []⟩)) = some ((["geo"].map Str.ofString).zip vals)
  | [c0], _ => by kernel_rfl
theorem c_add_pawns (p : Params) : chkFn (KP p) "add_pawns" ["geo"] = some b_add_pawns := by kernel_rfl
theorem d_add_pawns (p : Params) (S : Setting) : ∀ vals : List Value, vals.length = 1 → ((theFn (KP p) "add_pawns").bind fun r => peek (KP p) S (bindArgs r.2 ⟨vals, []⟩)) = some ((["geo"].map Str.ofString).zip vals)
  | [c0], _ => by kernel_rfl
theorem c_add_knights (p : Params) : chkFn (KP p) "add_knights" ["geo"] = some b_add_knights := by kernel_rfl
theorem d_add_knights (p : Params) (S : Setting) : ∀ vals : List Value, vals.length = 1 → ((theFn (KP p) "add_knights").bind fun r => peek (KP p) S (bindArgs r.2 ⟨vals, []⟩)) = some ((["geo"].map Str.ofString).zip vals)
  | [c0], _ => by kernel_rfl
theorem c_add_castles (p : Params) : chkFn (KP p) "add_castles" ["geo"] = some b_add_castles := by kernel_rfl
theorem d_add_castles (p : Params) (S : Setting) : ∀ vals : List Value, vals.length = 1 → ((theFn (KP p) "add_castles").bind fun r => peek (KP p) S (bindArgs r.2 ⟨vals, []⟩)) = some ((["geo"].map Str.ofString).zip vals)
  | [c0], _ => by kernel_rfl
theorem c_make_geometry (p : Params) : chkFn (KP p) "make_geometry" ["files", "ranks", "has_double", "has_castling"] = some b_make_geometry := by kernel_rfl
theorem d_make_geometry (p : Params) (S : Setting) : ∀ vals : List Value, vals.length = 4 → ((theFn (KP p) "make_geometry").bind fun r => peek (KP p) S (bindArgs r.2 ⟨vals, []⟩)) = some ((["files", "ranks", "has_double", "has_castling"].map Str.ofString).zip vals)
  | [c0, c1, c2, c3], _ => by kernel_rfl
theorem c_ray_attacks (p : Params) : chkFn (KP p) "ray_attacks" ["geo", "d", "square", "occupied"] = some b_ray_attacks := by kernel_rfl
theorem d_ray_attacks (p : Params) (S : Setting) : ∀ vals : List Value, vals.length = 4 → ((theFn (KP p) "ray_attacks").bind fun r => peek (KP p) S (bindArgs r.2 ⟨vals, []⟩)) = some ((["geo", "d", "square", "occupied"].map Str.ofString).zip vals)
  | [c0, c1, c2, c3], _ => by kernel_rfl
theorem c_rook_attacks (p : Params) : chkFn (KP p) "rook_attacks" ["geo", "square", "occupied"] = some b_rook_attacks := by kernel_rfl
theorem d_rook_attacks (p : Params) (S : Setting) : ∀ vals : List Value, vals.length = 3 → ((theFn (KP p) "rook_attacks").bind fun r => peek (KP p) S (bindArgs r.2 ⟨vals, []⟩)) = some ((["geo", "square", "occupied"].map Str.ofString).zip vals)
  | [c0, c1, c2], _ => by kernel_rfl
theorem c_bishop_attacks (p : Params) : chkFn (KP p) "bishop_attacks" ["geo", "square", "occupied"] = some b_bishop_attacks := by kernel_rfl
theorem d_bishop_attacks (p : Params) (S : Setting) : ∀ vals : List Value, vals.length = 3 → ((theFn (KP p) "bishop_attacks").bind fun r => peek (KP p) S (bindArgs r.2 ⟨vals, []⟩)) = some ((["geo", "square", "occupied"].map Str.ofString).zip vals)
  | [c0, c1, c2], _ => by kernel_rfl
theorem c_queen_attacks (p : Params) : chkFn (KP p) "queen_attacks" ["geo", "square", "occupied"] = some b_queen_attacks := by kernel_rfl
theorem d_queen_attacks (p : Params) (S : Setting) : ∀ vals : List Value, vals.length = 3 → ((theFn (KP p) "queen_attacks").bind fun r => peek (KP p) S (bindArgs r.2 ⟨vals, []⟩)) = some ((["geo", "square", "occupied"].map Str.ofString).zip vals)
  | [c0, c1, c2], _ => by kernel_rfl
theorem c_slider_attacks (p : Params) : chkFn (KP p) "slider_attacks" ["geo", "kind", "square", "occupied"] = some b_slider_attacks := by kernel_rfl
theorem d_slider_attacks (p : Params) (S : Setting) : ∀ vals : List Value, vals.length = 4 → ((theFn (KP p) "slider_attacks").bind fun r => peek (KP p) S (bindArgs r.2 ⟨vals, []⟩)) = some ((["geo", "kind", "square", "occupied"].map Str.ofString).zip vals)
  | [c0, c1, c2, c3], _ => by kernel_rfl
theorem c_piece_attacks (p : Params) : chkFn (KP p) "piece_attacks" ["geo", "side", "kind", "square", "occupied"] = some b_piece_attacks := by kernel_rfl
theorem d_piece_attacks (p : Params) (S : Setting) : ∀ vals : List Value, vals.length = 5 → ((theFn (KP p) "piece_attacks").bind fun r => peek (KP p) S (bindArgs r.2 ⟨vals, []⟩)) = some ((["geo", "side", "kind", "square", "occupied"].map Str.ofString).zip vals)
  | [c0, c1, c2, c3, c4], _ => by kernel_rfl
theorem c_solve (p : Params) : chkFn (KP p) "solve" ["sides", "after", "lost"] = some b_solve := by kernel_rfl
theorem d_solve (p : Params) (S : Setting) : ∀ vals : List Value, vals.length = 3 → ((theFn (KP p) "solve").bind fun r => peek (KP p) S (bindArgs r.2 ⟨vals, []⟩)) = some ((["sides", "after", "lost"].map Str.ofString).zip vals)
  | [c0, c1, c2], _ => by kernel_rfl
theorem c_index_of (p : Params) : chkFn (KP p) "index_of" ["size", "side", "strong", "piece", "weak"] = some b_index_of := by kernel_rfl
theorem d_index_of (p : Params) (S : Setting) : ∀ vals : List Value, vals.length = 5 → ((theFn (KP p) "index_of").bind fun r => peek (KP p) S (bindArgs r.2 ⟨vals, []⟩)) = some ((["size", "side", "strong", "piece", "weak"].map Str.ofString).zip vals)
  | [c0, c1, c2, c3, c4], _ => by kernel_rfl
theorem c_parts_of (p : Params) : chkFn (KP p) "parts_of" ["size", "n"] = some b_parts_of := by kernel_rfl
theorem d_parts_of (p : Params) (S : Setting) : ∀ vals : List Value, vals.length = 2 → ((theFn (KP p) "parts_of").bind fun r => peek (KP p) S (bindArgs r.2 ⟨vals, []⟩)) = some ((["size", "n"].map Str.ofString).zip vals)
  | [c0, c1], _ => by kernel_rfl
theorem c_mark_places (p : Params) : chkFn (KP p) "mark_places" ["geo", "kind", "zone", "table"] = some b_mark_places := by kernel_rfl
theorem d_mark_places (p : Params) (S : Setting) : ∀ vals : List Value, vals.length = 4 → ((theFn (KP p) "mark_places").bind fun r => peek (KP p) S (bindArgs r.2 ⟨vals, []⟩)) = some ((["geo", "kind", "zone", "table"].map Str.ofString).zip vals)
  | [c0, c1, c2, c3], _ => by kernel_rfl
theorem c_weak_moves (p : Params) : chkFn (KP p) "weak_moves" ["geo", "table", "strong", "piece", "weak"] = some b_weak_moves := by kernel_rfl
theorem d_weak_moves (p : Params) (S : Setting) : ∀ vals : List Value, vals.length = 5 → ((theFn (KP p) "weak_moves").bind fun r => peek (KP p) S (bindArgs r.2 ⟨vals, []⟩)) = some ((["geo", "table", "strong", "piece", "weak"].map Str.ofString).zip vals)
  | [c0, c1, c2, c3, c4], _ => by kernel_rfl
theorem c_strong_moves (p : Params) : chkFn (KP p) "strong_moves" ["geo", "table", "kind", "strong", "piece", "weak"] = some b_strong_moves := by kernel_rfl
theorem d_strong_moves (p : Params) (S : Setting) : ∀ vals : List Value, vals.length = 6 → ((theFn (KP p) "strong_moves").bind fun r => peek (KP p) S (bindArgs r.2 ⟨vals, []⟩)) = some ((["geo", "table", "kind", "strong", "piece", "weak"].map Str.ofString).zip vals)
  | [c0, c1, c2, c3, c4, c5], _ => by kernel_rfl
theorem c_moves_at (p : Params) : chkFn (KP p) "moves_at" ["geo", "table", "kind", "side", "strong", "piece", "weak"] = some b_moves_at := by kernel_rfl
theorem d_moves_at (p : Params) (S : Setting) : ∀ vals : List Value, vals.length = 7 → ((theFn (KP p) "moves_at").bind fun r => peek (KP p) S (bindArgs r.2 ⟨vals, []⟩)) = some ((["geo", "table", "kind", "side", "strong", "piece", "weak"].map Str.ofString).zip vals)
  | [c0, c1, c2, c3, c4, c5, c6], _ => by kernel_rfl
theorem c_build_zone (p : Params) : chkFn (KP p) "build_zone" ["geo", "kind", "zone"] = some b_build_zone := by kernel_rfl
theorem d_build_zone (p : Params) (S : Setting) : ∀ vals : List Value, vals.length = 3 → ((theFn (KP p) "build_zone").bind fun r => peek (KP p) S (bindArgs r.2 ⟨vals, []⟩)) = some ((["geo", "kind", "zone"].map Str.ofString).zip vals)
  | [c0, c1, c2], _ => by kernel_rfl
theorem c_probe (p : Params) : chkFn (KP p) "probe" ["geo", "table", "kind", "side", "strong", "piece", "weak"] = some b_probe := by kernel_rfl
theorem d_probe (p : Params) (S : Setting) : ∀ vals : List Value, vals.length = 7 → ((theFn (KP p) "probe").bind fun r => peek (KP p) S (bindArgs r.2 ⟨vals, []⟩)) = some ((["geo", "table", "kind", "side", "strong", "piece", "weak"].map Str.ofString).zip vals)
  | [c0, c1, c2, c3, c4, c5, c6], _ => by kernel_rfl
theorem c_best_move (p : Params) : chkFn (KP p) "best_move" ["geo", "table", "kind", "side", "strong", "piece", "weak"] = some b_best_move := by kernel_rfl
theorem d_best_move (p : Params) (S : Setting) : ∀ vals : List Value, vals.length = 7 → ((theFn (KP p) "best_move").bind fun r => peek (KP p) S (bindArgs r.2 ⟨vals, []⟩)) = some ((["geo", "table", "kind", "side", "strong", "piece", "weak"].map Str.ofString).zip vals)
  | [c0, c1, c2, c3, c4, c5, c6], _ => by kernel_rfl
theorem c_mate_line (p : Params) : chkFn (KP p) "mate_line" ["geo", "table", "kind", "side", "strong", "piece", "weak"] = some b_mate_line := by kernel_rfl
theorem d_mate_line (p : Params) (S : Setting) : ∀ vals : List Value, vals.length = 7 → ((theFn (KP p) "mate_line").bind fun r => peek (KP p) S (bindArgs r.2 ⟨vals, []⟩)) = some ((["geo", "table", "kind", "side", "strong", "piece", "weak"].map Str.ofString).zip vals)
  | [c0, c1, c2, c3, c4, c5, c6], _ => by kernel_rfl
theorem c__law_number (p : Params) : chkFn (KP p) "_law_number" ["script", "i"] = some b__law_number := by kernel_rfl
theorem d__law_number (p : Params) (S : Setting) : ∀ vals : List Value, vals.length = 2 → ((theFn (KP p) "_law_number").bind fun r => peek (KP p) S (bindArgs r.2 ⟨vals, []⟩)) = some ((["script", "i"].map Str.ofString).zip vals)
  | [c0, c1], _ => by kernel_rfl
theorem c__law_apart (p : Params) : chkFn (KP p) "_law_apart" ["files", "a", "b"] = some b__law_apart := by kernel_rfl
theorem d__law_apart (p : Params) (S : Setting) : ∀ vals : List Value, vals.length = 3 → ((theFn (KP p) "_law_apart").bind fun r => peek (KP p) S (bindArgs r.2 ⟨vals, []⟩)) = some ((["files", "a", "b"].map Str.ofString).zip vals)
  | [c0, c1, c2], _ => by kernel_rfl
theorem c__law_touch (p : Params) : chkFn (KP p) "_law_touch" ["files", "a", "b"] = some b__law_touch := by kernel_rfl
theorem d__law_touch (p : Params) (S : Setting) : ∀ vals : List Value, vals.length = 3 → ((theFn (KP p) "_law_touch").bind fun r => peek (KP p) S (bindArgs r.2 ⟨vals, []⟩)) = some ((["files", "a", "b"].map Str.ofString).zip vals)
  | [c0, c1, c2], _ => by kernel_rfl
theorem c__law_strikes (p : Params) : chkFn (KP p) "_law_strikes" ["files", "kind", "origin", "goal", "wall"] = some b__law_strikes := by kernel_rfl
theorem d__law_strikes (p : Params) (S : Setting) : ∀ vals : List Value, vals.length = 5 → ((theFn (KP p) "_law_strikes").bind fun r => peek (KP p) S (bindArgs r.2 ⟨vals, []⟩)) = some ((["files", "kind", "origin", "goal", "wall"].map Str.ofString).zip vals)
  | [c0, c1, c2, c3, c4], _ => by kernel_rfl
theorem c__law_stands (p : Params) : chkFn (KP p) "_law_stands" ["board", "place"] = some b__law_stands := by kernel_rfl
theorem d__law_stands (p : Params) (S : Setting) : ∀ vals : List Value, vals.length = 2 → ((theFn (KP p) "_law_stands").bind fun r => peek (KP p) S (bindArgs r.2 ⟨vals, []⟩)) = some ((["board", "place"].map Str.ofString).zip vals)
  | [c0, c1], _ => by kernel_rfl
theorem c__law_ways (p : Params) : chkFn (KP p) "_law_ways" ["board", "place"] = some b__law_ways := by kernel_rfl
theorem d__law_ways (p : Params) (S : Setting) : ∀ vals : List Value, vals.length = 2 → ((theFn (KP p) "_law_ways").bind fun r => peek (KP p) S (bindArgs r.2 ⟨vals, []⟩)) = some ((["board", "place"].map Str.ofString).zip vals)
  | [c0, c1], _ => by kernel_rfl
theorem c__law_word (p : Params) : chkFn (KP p) "_law_word" ["geo", "board", "table", "place"] = some b__law_word := by kernel_rfl
theorem d__law_word (p : Params) (S : Setting) : ∀ vals : List Value, vals.length = 4 → ((theFn (KP p) "_law_word").bind fun r => peek (KP p) S (bindArgs r.2 ⟨vals, []⟩)) = some ((["geo", "board", "table", "place"].map Str.ofString).zip vals)
  | [c0, c1, c2, c3], _ => by kernel_rfl
theorem c__law_due (p : Params) : chkFn (KP p) "_law_due" ["board", "place", "words"] = some b__law_due := by kernel_rfl
theorem d__law_due (p : Params) (S : Setting) : ∀ vals : List Value, vals.length = 3 → ((theFn (KP p) "_law_due").bind fun r => peek (KP p) S (bindArgs r.2 ⟨vals, []⟩)) = some ((["board", "place", "words"].map Str.ofString).zip vals)
  | [c0, c1, c2], _ => by kernel_rfl
theorem c__law_right (p : Params) : chkFn (KP p) "_law_right" ["geo", "board", "table", "place"] = some b__law_right := by kernel_rfl
theorem d__law_right (p : Params) (S : Setting) : ∀ vals : List Value, vals.length = 4 → ((theFn (KP p) "_law_right").bind fun r => peek (KP p) S (bindArgs r.2 ⟨vals, []⟩)) = some ((["geo", "board", "table", "place"].map Str.ofString).zip vals)
  | [c0, c1, c2, c3], _ => by kernel_rfl
theorem c__law_line_right (p : Params) : chkFn (KP p) "_law_line_right" ["geo", "board", "table", "place"] = some b__law_line_right := by kernel_rfl
theorem d__law_line_right (p : Params) (S : Setting) : ∀ vals : List Value, vals.length = 4 → ((theFn (KP p) "_law_line_right").bind fun r => peek (KP p) S (bindArgs r.2 ⟨vals, []⟩)) = some ((["geo", "board", "table", "place"].map Str.ofString).zip vals)
  | [c0, c1, c2, c3], _ => by kernel_rfl
theorem c__law_place (p : Params) : chkFn (KP p) "_law_place" ["size", "n"] = some b__law_place := by kernel_rfl
theorem d__law_place (p : Params) (S : Setting) : ∀ vals : List Value, vals.length = 2 → ((theFn (KP p) "_law_place").bind fun r => peek (KP p) S (bindArgs r.2 ⟨vals, []⟩)) = some ((["size", "n"].map Str.ofString).zip vals)
  | [c0, c1], _ => by kernel_rfl
theorem c__law_refused (p : Params) : chkFn (KP p) "_law_refused" ["geo", "board", "table", "n"] = some b__law_refused := by kernel_rfl
theorem d__law_refused (p : Params) (S : Setting) : ∀ vals : List Value, vals.length = 4 → ((theFn (KP p) "_law_refused").bind fun r => peek (KP p) S (bindArgs r.2 ⟨vals, []⟩)) = some ((["geo", "board", "table", "n"].map Str.ofString).zip vals)
  | [c0, c1, c2, c3], _ => by kernel_rfl
theorem c_law (p : Params) : chkFn (KP p) "law" ["script"] = some b_law := by kernel_rfl
theorem d_law (p : Params) (S : Setting) : ∀ vals : List Value, vals.length = 1 → ((theFn (KP p) "law").bind fun r => peek (KP p) S (bindArgs r.2 ⟨vals, []⟩)) = some ((["script"].map Str.ofString).zip vals)
  | [c0], _ => by kernel_rfl
theorem c_init (p : Params) : chkOf (KP p) (fnAt (KP p) 62) ["self", "files", "ranks", "has_double", "has_castling"] = some b_Geometry_init := by kernel_rfl
theorem d_ginit (p : Params) (S : Setting) : ∀ vals : List Value, vals.length = 5 → ((fnAt (KP p) 62).bind fun r => peek (KP p) S (bindArgs r.2 ⟨vals, []⟩)) = some ((["self", "files", "ranks", "has_double", "has_castling"].map Str.ofString).zip vals)
  | [c0, c1, c2, c3, c4], _ => by kernel_rfl
theorem k_geo_init (p : Params) : findIn (KP p) (.ref 65) "__init__" = some (some (.ref 62)) := by kernel_rfl
theorem k_geo_fn (p : Params) : typeIn (KP p) (.ref 62) = some (.type "function") := by kernel_rfl
theorem k_geo_makes (p : Params) : makesIn (KP p) 65 = true := by kernel_rfl
end Mine

end

section
open PySem PySem.W PyProof.Rows
set_option linter.unusedVariables false
set_option maxRecDepth 100000
namespace Mine

/-- what is known of the ground -/
structure Gr (w : World) (B : Heap) : Prop where
  X : (KP w.params).In B
  ns : ∃ mg mb, B.Ns mainGlobals mg ∧ B.Ns builtinsNs mb ∧ ∀ x : Str, x ≠ "__name__" → mb x = bootBuiltins x
  nolimit : B.NoLimit

theorem mem_of_lookup' : ∀ {l : List (String × Nat)} {x : String} {a : Nat}, l.lookup x = some a → (x, a) ∈ l
  | [], _, _, h => by simp at h
  | (y, b) :: r, x, a, h => by
    rw [List.lookup_cons] at h
    split at h
    · rename_i q; cases h; rw [beq_iff_eq.mp q]; exact .head _
    · exact .tail _ (mem_of_lookup' h)

theorem ns_of_nsIn {K : Frag} {B : Heap} {ns : Addr} {g : Str → Option Value} {name : Str} {r : Option Value} (X : K.In B) (N : B.Ns ns g) (e : nsIn K ns name = some r) : g name = r := by
  obtain ⟨o, es, ep, ho, hd, hk, hf⟩ := N
  unfold nsIn at e
  split at e
  · rename_i c d es' n sl hl
    have := X _ _ hl
    rw [ho] at this; cases this
    simp only at hd; cases hd
    rw [← hf name]
    unfold nsFind findBy
    rw [← Array.find?_toList]
    split at e
    · rename_i en he; cases e
      rw [he]; rfl
    · rename_i he
      split at e
      · cases e
      · cases e; rw [he]; rfl
  · cases e

section
variable {prog : Program} {w : World} {B : Heap} (G : Gr w B)
include G

theorem fn_addr {x : String} {c : Value} (h : (mkC prog w B).fnv x = some c) : ∃ a, (x, a) ∈ allAddrs ∧ c = .ref a := by
  simp only [mkC, Option.map_eq_some_iff] at h
  obtain ⟨a, h1, rfl⟩ := h
  exact ⟨a, mem_of_lookup' h1, rfl⟩

theorem nsIn_fn {x : String} {a : Nat} (h : (x, a) ∈ fnAddrs) : nsIn (KP w.params) mainGlobals (Str.ofString x) = some (some (.ref a)) := by
  have := List.all_eq_true.mp (k_names w.params) _ h
  simp only at this
  split at this
  · rename_i b hb; rw [hb, beq_iff_eq.mp this]
  · cases this

theorem glob_fn {x : String} {a : Nat} (h : (x, a) ∈ fnAddrs) : GlobAt (mkC prog w B) x (.ref a) := by
  obtain ⟨mg, mb, h1, h2, h3⟩ := G.ns
  exact ⟨mg, mb, h1, h2, .inl (ns_of_nsIn G.X h1 (nsIn_fn G h))⟩

omit G in
theorem glbTab_names {x : String} {v : V} (h : glbTab x = some v) : x ∈ glbNames := by
  by_cases hx : x ∈ glbNames
  · exact hx
  · simp only [glbNames, List.mem_append, List.mem_cons, List.not_mem_nil, or_false, not_or] at hx
    obtain ⟨⟨h1, h2, h3, h4, h5, h6, h7, h8, h9, h10, h11, h12, h13, h14⟩, h15⟩ := hx
    unfold glbTab at h
    rw [if_neg h1, if_neg h2, if_neg h3, if_neg h4, if_neg h5, if_neg h6, if_neg h7, if_neg h8, if_neg h9, if_neg h10, if_neg h11, if_neg h12, if_neg h13, if_neg h14, if_neg h15] at h
    cases h

omit G in
theorem chkInts_ok {h : Heap} {C : Ctx} : ∀ {vs : List V} {cs : List Value}, chkInts vs cs = true → VRs C [] h vs cs
  | [], [], _ => .nil
  | .int i :: r, .int j t :: s, e => by
    simp only [chkInts, Bool.and_eq_true, beq_iff_eq] at e
    obtain ⟨rfl, e⟩ := e
    exact .cons (.int i t) (chkInts_ok e)
  | [], _ :: _, e => by simp [chkInts] at e
  | .int _ :: _, [], e => by simp [chkInts] at e

theorem chkVal_ok {v : V} {c : Value} (h : chkVal (KP w.params) v c = true) : VR (mkC prog w B) [] B v c := by
  unfold chkVal at h
  split at h
  · rw [beq_iff_eq.mp h]; exact .int _ _
  · rename_i x a
    exact .fn (by simp only [mkC]; rw [beq_iff_eq.mp h]; rfl)
  · rename_i vs a
    split at h
    · rename_i t d xs n sl ho
      simp only [Bool.and_eq_true, beq_iff_eq] at h
      obtain ⟨rfl, h2⟩ := h
      exact .tup (cs := xs.toList) ⟨_, G.X _ _ ho, rfl, n, by simp⟩ (chkInts_ok h2)
    · cases h
  · cases h

theorem keep_fn (prog : Program) {c : Value} {a : Nat} {x : String} (h : (x, a) ∈ allAddrs) : KeeperOk (mkC prog w B) (.ref a) := fun A E Q s hs hQ => by
  have := List.all_eq_true.mp (k_keep w.params ⟨prog, w.params⟩) _ h
  simp only [Option.isSome_iff_exists] at this
  obtain ⟨kp, hkp⟩ := this
  exact Looks.of_peek (M := model prog w) G.X hkp A Q E s hs (hQ kp)

theorem mk_ok (prog : Program) : (mkC prog w B).Ok where
  keeper := fun x c h => by
    obtain ⟨a, h1, rfl⟩ := fn_addr G h
    exact keep_fn G prog (c := .ref a) h1
  KB := G.X
  geo := fun a h => by
    have ha : a = 65 := by
      have : (mkC prog w B).fnv "Geometry" = some (.ref 65) := rfl
      rw [this] at h; cases h; rfl
    subst ha
    obtain ⟨h1, h2, h3, h4⟩ := k_geo w.params
    simp only [Option.map_eq_some_iff] at h3
    refine ⟨h1, h2, h3, h4, fun n hn => ?_⟩
    have := List.all_eq_true.mp (k_attrs w.params) n hn
    split at this
    · assumption
    · cases this
  glb := fun x v h => by
    have hx := List.all_eq_true.mp (k_glb w.params) x (glbTab_names h)
    have h' : glbTab x = some v := h
    unfold chkGlb at hx
    rw [h'] at hx
    split at hx
    · rename_i v' c e1 e2
      cases e1
      obtain ⟨mg, mb, g1, g2, g3⟩ := G.ns
      exact ⟨c, ⟨mg, mb, g1, g2, .inl (ns_of_nsIn G.X g1 e2)⟩, chkVal_ok G hx⟩
    · cases hx
  blt := fun f hf => by
    obtain ⟨mg, mb, g1, g2, g3⟩ := G.ns
    have h1 := List.all_eq_true.mp (k_blt w.params) f hf
    have h2 := List.all_eq_true.mp k_blt2 f hf
    simp only [Bool.and_eq_true, beq_iff_eq, bne_iff_ne, ne_eq] at h1 h2
    split at h1
    · rename_i e
      exact ⟨mg, mb, g1, g2, .inr ⟨ns_of_nsIn G.X g1 e, by rw [g3 _ h2.2]; exact h2.1⟩⟩
    · cases h1
  nolimit := G.nolimit

theorem mk_fnOf (prog : Program) {f : String} {ps : List String} {b : List S} {a : Nat} {r : Option (Addr × FuncData)} (hf : allAddrs.lookup f = some a) (hr : ∀ x, r = some x → x.1 = a ∧ ∃ oc od osl, (KP w.params).lookup a = some ⟨oc, od, .func x.2, osl⟩) (hc : chkOf (KP w.params) r ps = some b)
    (hd : ∀ (S : Setting) (vals : List Value), vals.length = ps.length → (r.bind fun r => peek (KP w.params) S (bindArgs r.2 ⟨vals, []⟩)) = some ((ps.map Str.ofString).zip vals)) : FnOk (mkC prog w B) f ps b := by
  unfold chkOf at hc
  split at hc
  · rename_i a' fd
    split at hc
    · rename_i hcond
      simp only [Bool.and_eq_true, beq_iff_eq, List.isEmpty_iff] at hcond
      obtain ⟨⟨⟨⟨⟨⟨⟨c1, c2⟩, c3⟩, c4⟩, c5⟩, c6⟩, c7⟩, c8⟩ := hcond
      split at hc
      · rename_i body hbody
        obtain ⟨_, oc, od, osl, ho⟩ := hr _ rfl
        exact ⟨a, oc, od, osl, fd, body, by simp [mkC, hf], G.X _ _ ho, codeRec_of G.X c1, hbody, c2, c3, c4, c6, c7, fun s vals hs hl => kp_binds (G.X.keeps hs) fun S => hd S vals hl, 60, hc⟩
      · cases hc
    · cases hc
  · cases hc

theorem mk_fn (prog : Program) {f : String} {ps : List String} {b : List S} {a : Nat} (hf : fnAddrs.lookup f = some a) (hf' : allAddrs.lookup f = some a) (hc : chkFn (KP w.params) f ps = some b)
    (hd : ∀ (S : Setting) (vals : List Value), vals.length = ps.length → ((theFn (KP w.params) f).bind fun r => peek (KP w.params) S (bindArgs r.2 ⟨vals, []⟩)) = some ((ps.map Str.ofString).zip vals)) : FnOk (mkC prog w B) f ps b := by
  refine mk_fnOf G prog hf' (fun x hx => ?_) hc hd
  have hns := nsIn_fn G (mem_of_lookup' hf)
  unfold theFn at hx
  rw [hns] at hx
  simp only at hx
  split at hx
  · rename_i oc od fd' osl ho
    cases hx
    exact ⟨rfl, oc, od, osl, ho⟩
  · cases hx

theorem mk_init (prog : Program) : FnOk (mkC prog w B) "Geometry.__init__" ["self", "files", "ranks", "has_double", "has_castling"] b_Geometry_init := by
  refine mk_fnOf G prog (a := 62) rfl (fun x hx => ?_) (c_init w.params) (d_ginit w.params)
  unfold fnAt at hx
  split at hx
  · rename_i oc od fd' osl ho
    cases hx
    exact ⟨rfl, oc, od, osl, ho⟩
  · cases hx

end
end Mine

end

section
open PySem PySem.W PyProof.Rows PySem.Calls
set_option linter.unusedVariables false
set_option maxRecDepth 1000000
namespace Mine

def badMro : List Value := [.ref 44, .ref 31, .type "Exception", .type "BaseException", .type "object"]
theorem k_bad (p : Params) : (clsIn (KP p) 44).map (fun cd => (cd.mro, cd.hasDict)) = some (badMro, true) := by kernel_rfl
theorem k_bad_set (p : Params) : findIn (KP p) (.ref 44) "__setattr__" = some (some (.builtin "object.__setattr__")) := by kernel_rfl
theorem k_bad_text (p : Params) : findIn (KP p) (.ref 44) "text" = some none := by kernel_rfl
theorem k_bad_obj (p : Params) : mroIn (KP p) 44 (.type "object") = some true := by kernel_rfl
theorem k_bad_exc (p : Params) : mroIn (KP p) 44 (.type "BaseException") = some true := by kernel_rfl
theorem k_bad_self (p : Params) : mroIn (KP p) 44 (.ref 44) = some true := by kernel_rfl
theorem bad_refuse (e : Value) : refuseLoop e "__setattr__" badMro = pure () := by
  unfold badMro
  rw [refuseLoop_ref, refuseLoop_ref]
  kernel_rfl

section
variable {prog : Program} {w : World} {A : Around} {E : Value → Shared → Prop} {s : Shared}

/-- self.text = text, on a refusal that has no dict yet -/
theorem bad_set_text (X : (KP w.params).In s.heap) {e : Addr} {vs : Array Value} {v : Value} {Q : Unit → Shared → Prop} (he : s.heap.get? e = some { cls := .ref 44, dict := none, data := .fields vs })
    (h : ∀ h' tk D, (∀ b o, b ≠ e → s.heap.get? b = some o → h'.get? b = some o) → h'.get? e = some { cls := .ref 44, dict := some D, data := .fields vs } → Q () { s with heap := h', toks := tk }) :
    wpAny (model prog w) A (setAttr (.ref e) "text" v) Q E s := by
  have I : InstAt s.heap e { cls := .ref 44, dict := none, data := .fields vs } 44 none := ⟨he, rfl, rfl, trivial⟩
  obtain ⟨cd, hc, hcd⟩ := Option.map_eq_some_iff.mp (k_bad w.params)
  have hmro : cd.mro = badMro := congrArg Prod.fst hcd
  have hdict : cd.hasDict = true := congrArg Prod.snd hcd
  refine set_plain X I (k_bad_set _) ?_
  have SF := PySem.F.store_object
  have X' : (KP w.params).In ({ s with toks := s.toks + 1 } : Shared).heap := X
  have I' : InstAt ({ s with toks := s.toks + 1 } : Shared).heap e { cls := .ref 44, dict := none, data := .fields vs } 44 none := I
  have sub : Looks (model prog w) ({ s with toks := s.toks + 1 } : Shared).heap (isInstance (.ref e) (.type "object")) true := I'.type.andThen (looks_mroIn X' (k_bad_obj _))
  refine codeAny_call_builtin SF.slot.plain SF.entry (@check_slot (model prog w) _ _ { s with toks := s.toks + 1 } "object.__setattr__" "object" "__setattr__" (.ref e) [.str "text" s.toks, v] [] _ SF.kind SF.split sub (SF.args (.ref e) (.str "text" s.toks) v) ?_)
  have hm : Looks (model prog w) ({ s with toks := s.toks + 1 } : Shared).heap (mroOf (.ref 44)) badMro := by rw [← hmro]; exact (looks_clsIn X' hc).andThen .now
  rw [osa_eq, refuse_eq]
  refine wpAny_bind (wpAny_bind (I'.type.here (wpAny_bind (hm.here ?_))))
  rw [bad_refuse]
  refine wpAny_pure (wpAny_bind (I'.type.here (wpAny_bind ((looks_findIn X' (k_bad_text _)).here (wpAny_bind (wpAny_pure ?_))))))
  unfold Builtin.ObjectAttr.storeInOwnDict Builtin.ObjectAttr.ownDictForStores
  refine wpAny_bind (wpAny_pure (wpAny_bind ?_))
  show wpAny _ _ (instanceDict e true) _ _ _
  unfold instanceDict
  refine wpAny_bind (wpAny_loadPart (s := { s with toks := s.toks + 1 }) he (wpAny_bind ((looks_clsIn X' hc).here ?_)))
  rw [hdict]
  show wpAny _ _ (alloc { cls := .type "dict", data := .dict #[] } >>= fun d => update e (fun o => { o with dict := some d }) >>= fun _ => dictMade (.ref 44) e d) _ _ _
  have hn : s.heap.get? s.heap.objs.size = none := Heap.get?_none_of_le (Nat.le_refl _)
  have hne : e ≠ s.heap.objs.size := fun q => by rw [q, hn] at he; cases he
  have he₁ := Heap.get?_push_of_some { cls := .type "dict", data := .dict #[] } he
  refine wpAny_bind (wpAny_alloc (wpAny_bind (wpAny_update he₁ (wpAny_pure ?_))))
  show wpAny _ _ (Builtin.ObjectAttr.storeInDict s.heap.objs.size (.str "text" s.toks) "text" v) _ _ _
  unfold Builtin.ObjectAttr.storeInDict
  generalize hH : (s.heap.push { cls := .type "dict", data := .dict #[] }).update e (fun o => { o with dict := some s.heap.objs.size }) = H
  have hD : H.get? s.heap.objs.size = some { cls := .type "dict", data := .dict #[] } := by
    rw [← hH, Heap.get?_update_other _ _ hne]; exact Heap.get?_push_size _ rfl
  have hE : H.get? e = some { cls := .ref 44, dict := some s.heap.objs.size, data := .fields vs } := by
    rw [← hH]; exact Heap.get?_update_self _ he₁ rfl
  have hN : H.Ns1 s.heap.objs.size fun _ => none := ⟨_, #[], 0, hD, rfl, fun _ h => by simp at h, by unfold UniqKeys; simp, fun _ => rfl⟩
  refine wpAny_bind (wpAny_pure (wpAny_bind ?_))
  refine wpAny_nsSet1 (s := { s with heap := H, toks := s.toks + 1 }) hN fun h' hn' hsb => ?_
  obtain ⟨oD, esD, epD, hoD, hdD, hcD⟩ := hn'.count (ns := ["text"]) (fun y hy => by
    by_cases q : y = "text"
    · rw [q]; exact .head _
    · simp [q] at hy)
  refine wpAny_bind (wpAny_lookBehind hoD (by rw [hdD]; exact pastItsLine_dict (Nat.le_trans hcD (by rw [sizeLine_eq]; decide))) ?_)
  refine wpAny_pure ?_
  refine h h' _ s.heap.objs.size (fun b o hb e' => ?_) ((hsb.2 e hne).trans hE)
  have hbn : b ≠ s.heap.objs.size := fun q => by rw [q, hn] at e'; cases e'
  refine (hsb.2 b hbn).trans ?_
  rw [← hH, Heap.get?_update_other _ _ (Ne.symm hb)]
  exact Heap.get?_push_of_some _ e'
end
end Mine

end

section
open PySem PySem.W PyProof.Rows PySem.Calls
set_option linter.unusedVariables false
set_option maxRecDepth 1000000
namespace Mine

def badTail : List Value := [.ref 31, .type "Exception", .type "BaseException", .type "object"]
theorem k_bad_cls (p : Params) : ((KP p).lookup 44).map (fun o => (o.cls, (match o.data with | .cls cd => some (cd.mro, cd.hasDel) | _ => none), o.slots.toList[4]?, o.slots.size)) = some (.type "type", some (badMro, false), some (some (.builtin "Exception.__new__")), 6) := by kernel_rfl

theorem exc_shape {o : Obj} (h : (o.cls, (match o.data with | .cls cd => some (cd.mro, cd.hasDel) | _ => none), o.slots.toList[4]?, o.slots.size) = (Value.type "type", some (badMro, false), some (some (Value.builtin "Exception.__new__")), 6)) :
    ∃ nm q N bs hdct sn sub ab col dd k0 k1 k2 k3 k5, o = excClassObj nm q 44 N bs badTail hdct sn sub ab col dd k0 k1 k2 k3 k5 "Exception.__new__" := by
  obtain ⟨c, d, dt, sl⟩ := o
  simp only [Prod.mk.injEq] at h
  obtain ⟨rfl, h2, h3, h4⟩ := h
  cases dt with
  | cls cd =>
    simp only [Option.some.injEq, Prod.mk.injEq] at h2
    obtain ⟨nm, bs, mro, ns, q, hd, sn, sub, ab, col, del⟩ := cd
    obtain ⟨rfl, rfl⟩ := h2
    obtain ⟨l⟩ := sl
    match l, h3, h4 with
    | [a, b, c, d', e, f], h3, _ =>
      simp at h3
      subst h3
      exact ⟨nm, q, ns, bs, hd, sn, sub, ab, col, d, a, b, c, d', f, rfl⟩
  | _ => simp at h2

theorem bad_obj {w : World} {B : Heap} (X : (KP w.params).In B) : ∃ nm q N bs hdct sn sub ab col dd k0 k1 k2 k3 k5, B.get? 44 = some (excClassObj nm q 44 N bs badTail hdct sn sub ab col dd k0 k1 k2 k3 k5 "Exception.__new__") := by
  obtain ⟨o, ho, hs⟩ := Option.map_eq_some_iff.mp (k_bad_cls w.params)
  obtain ⟨nm, q, N, bs, hdct, sn, sub, ab, col, dd, k0, k1, k2, k3, k5, rfl⟩ := exc_shape hs
  exact ⟨nm, q, N, bs, hdct, sn, sub, ab, col, dd, k0, k1, k2, k3, k5, X _ _ ho⟩

section
variable {prog : Program} {w : World} {A : Around} {E : Value → Shared → Prop} {s : Shared}

theorem mk_bad {B : Heap} (prog : Program) (G : Gr w B) : BadOk (mkC prog w B) := by
  obtain ⟨nm, q, N, bs, hdct, sn, sub, ab, col, dd, k0, k1, k2, k3, k5, hb⟩ := bad_obj G.X
  exact ⟨44, nm, q, N, bs, badTail, hdct, sn, sub, ab, col, dd, k0, k1, k2, k3, k5, _, rfl, hb, rfl, glob_fn G (mem_of_lookup' rfl)⟩

theorem exc_init (X : (KP w.params).In s.heap) {e t0 : Addr} {txt : Value} {Q : Value → Shared → Prop} (he : s.heap.get? e = some { cls := .ref 44, dict := none, data := .fields #[.ref t0, .none, .none, .none, .bool false, .none] })
    (h : ∀ h' tk t, (∀ b o, b ≠ e → s.heap.get? b = some o → h'.get? b = some o) → h'.get? e = some { cls := .ref 44, dict := none, data := .fields #[.ref t, .none, .none, .none, .bool false, .none] } → Q .none { s with heap := h', toks := tk }) :
    wpAny (model prog w) A (call (.builtin "Exception.__init__") [.ref e, txt]) Q E s := by
  obtain ⟨nm, q, N, bs, hdct, sn, sub, ab, col, dd, k0, k1, k2, k3, k5, hC⟩ := bad_obj X
  obtain ⟨h₀, g, d, t, os⟩ := s
  have F := PySem.F.excBase_Exception
  have hcB : (Value.ref 44 :: badTail).contains (.type "Exception") = true := by rfl
  have hshort := F.noStar
  refine wpAny_call (codeAny_call_builtin F.init.plain F.initEntry ?_)
  simp only [checkBuiltinCall, F.initKind, F.initSplit, F.initRow]
  repeat (first | (with_reducible refine wpAny_loadPart_at he ?_) | with_reducible refine wpAny_loadPart_at hC ?_ | (with_reducible refine wpAny_isSubtype_exc hC ?_; rw [hcB]) | wp_step)
  have hn : h₀.get? h₀.objs.size = none := Heap.get?_none_of_le (Nat.le_refl _)
  have he' : (h₀.push { cls := .type "tuple", data := .seq #[txt] }).get? e = some { cls := .ref 44, dict := none, data := .fields #[.ref t0, .none, .none, .none, .bool false, .none] } := Heap.get?_push_of_some _ he
  refine h _ t h₀.objs.size (fun b o hb eb => ?_) ?_
  · rw [Heap.get?_update_other _ _ (Ne.symm hb)]
    exact Heap.get?_push_of_some _ eb
  · rw [Heap.get?_update_self _ he' rfl]
    rfl

theorem k_exc_init (p : Params) : findCls (KP p) (.type "Exception") (.type "type") "__init__" = some (.val (.builtin "Exception.__init__")) := by kernel_rfl
theorem type_method {K : Frag} {T : String} {name : Str} {v : Value} {pl : Sem Bool} {Q : Value × List Value → Shared → Prop} (X : K.In s.heap) (ht : typeOf (.type T) = pure (.type "type")) (hs : Manifest.isStub T = false)
    (e : findCls K (.type T) (.type "type") name = some (.val v)) (hh : handedIn v = true) (h : Q (v, []) { s with toks := s.toks + 1 }) : wpAny (model prog w) A (getMethod (.type T) name pl) Q E s := by
  have hstub : opaqueClassAbove (.type T) = pure none := by unfold opaqueClassAbove; dsimp only; rw [hs]; rfl
  have L0 : Looks (model prog w) s.heap (typeOf (.type T)) (.type "type") := Looks.of_pure ht
  have hg : findIn K (.type "type") "__getattribute__" = some (some (.builtin "type.__getattribute__")) := type_tga
  unfold getMethod specialOf
  refine wpAny_bind (wpAny_bind (L0.here ((looks_findIn X hg).here ?_)))
  dsimp only
  rw [if_pos canon_tga]
  refine wpAny_bind (wpAny_mono (Q := fun v => Q (v, [])) (E := E) ?_ (fun _ _ z => wpAny_pure z) fun _ _ z => z)
  have LO : Looks (model prog w) s.heap (opaqueClassAbove (.type T)) none := Looks.of_pure hstub
  refine cls_open X LO L0 hg (looks_hook X (r := none) (by rfl)) (by show subIn K _ _ = _; rfl) e
    (wpAny_pure (by show wpAny _ _ (handedOut v) _ _ _; rw [handedOut_of hh]; exact wpAny_pure h))

/-- the body of the refusals' own __init__ -/
theorem init_body (X : (KP w.params).In s.heap) {env : Env} {p1 p2 p3 p4 p5 p6 p7 p8 p9 p10 : Pos} {e t0 : Addr} {txt : Value} {mm mg mb : Str → Option Value} {Q : Flow → Shared → Prop} (hk : env.scope.kind = .function)
    (k1 : env.kindOf "self" = some .local) (k2 : env.kindOf "text" = some .local) (k3 : env.kindOf "Exception" = some .globalImplicit) (hg : env.globals = mainGlobals) (hb : env.builtins = builtinsNs) (hline : (p2.endLine == p5.line) = true)
    (hns : s.heap.Ns env.locals mm) (m1 : mm "self" = some (.ref e)) (m2 : mm "text" = some txt) (hne : e ≠ env.locals) (hKe : (KP w.params).lookup e = none) (g1 : s.heap.Ns mainGlobals mg) (g2 : mg "Exception" = none) (g3 : s.heap.Ns builtinsNs mb) (g4 : mb "Exception" = some (.type "Exception"))
    (he : s.heap.get? e = some { cls := .ref 44, dict := none, data := .fields #[.ref t0, .none, .none, .none, .bool false, .none] })
    (h : ∀ h' tk t D, (∀ b o, b ≠ e → s.heap.get? b = some o → h'.get? b = some o) → h'.get? e = some { cls := .ref 44, dict := some D, data := .fields #[.ref t, .none, .none, .none, .bool false, .none] } → Q .next { s with heap := h', toks := tk }) :
    wpAny (model prog w) A (execs [.Expr (.Call (.Attribute (.Name "Exception" p1) "__init__" p2) [.Name "self" p3, .Name "text" p4] [] p5) p6, .Assign [.Attribute (.Name "self" p7) "text" p8] (.Name "text" p9) p10] env) Q E s := by
  have hi : interactive env = false := by unfold interactive; rw [hk]; rfl
  refine wpAny_execs_cons (wpAny_Expr_any ?_ hi rfl)
  rw [arm_eval_Call, base_of (o := .Name "Exception" p1) rfl]
  refine wpAny_bind (Calls.Name_function_global hk k3 (Calls.loadGlobal_builtin (by rw [hg]; exact g1) g2 (by rw [hb]; exact g3) g4 ?_) rfl)
  refine wpAny_bind (wpAny_standAt ?_)
  have hform : methodCallForm (([.Name "self" p3, .Name "text" p4] : List Expr).length + ([] : List Keyword).length) (backTo p5 (starEach [.Name "self" p3, .Name "text" p4] env)) (backToKw p5 (keywordEach [] env)) = true := by rfl
  have hpos : methodCallPos true (.Name "Exception" p1) env p2 p5 = pure p5 := by unfold methodCallPos; simp [hline]
  unfold methodCall
  rw [hform]
  refine wpAny_bind (wpAny_holding ?_)
  rw [show ∀ (o : Expr) (ov : Value) (nm : Str), calleeOf true o env ov nm = getMethod ov nm (do return (← importBound o env).getD true) from fun _ _ _ => rfl]
  have hto : typeOf (.type "Exception") = pure (.type "type") := by kernel_rfl
  have hst : Manifest.isStub "Exception" = false := by decide +kernel
  have hki : findCls (KP w.params) (.type "Exception") (.type "type") (Str.ofString "__init__") = some (.val (.builtin "Exception.__init__")) := k_exc_init w.params
  have hhi : handedIn (.builtin "Exception.__init__") = true := rfl
  have hgm := fun {pl : Sem Bool} {Q : Value × List Value → Shared → Prop} (h : Q (.builtin "Exception.__init__", []) { s with toks := s.toks + 1 }) => type_method (prog := prog) (w := w) (A := A) (E := E) (s := s) (pl := pl) (Q := Q) (K := KP w.params) (T := "Exception") (name := Str.ofString "__init__") (v := .builtin "Exception.__init__") X hto hst hki hhi h
  refine hgm ?_
  refine wpAny_bind (wpAny_of_eq hpos ?_)
  refine Calls.callWith_builtin rfl (Calls.evalArgs_plain (Calls.spliced_cons (wpAny_Name (wpAny_loadName_local (s := { s with toks := s.toks + 1 }) hk k1 hns m1 (Calls.spliced_cons (wpAny_Name (wpAny_loadName_local (s := { s with toks := s.toks + 1 }) hk k2 hns m2 (Calls.spliced_nil ?_)) rfl))) rfl)))
  refine exc_init (s := { s with toks := s.toks + 1 }) X he fun h₁ tk₁ t₁ keep₁ at₁ => ?_
  have hns₁ : h₁.Ns env.locals mm := hns.at' fun o eo => keep₁ _ o (Ne.symm hne) eo
  have X₁ : (KP w.params).In h₁ := fun a o ho => keep₁ a o (fun q => by rw [q, hKe] at ho; cases ho) (X _ _ ho)
  refine wpAny_execs_cons (plainObj_wpAny_Assign_Attribute ?_)
  refine wpAny_Name (wpAny_loadName_local (s := { s with heap := h₁, toks := tk₁ }) hk k2 hns₁ m2 ?_) rfl
  refine wpAny_Name (wpAny_loadName_local (s := { s with heap := h₁, toks := tk₁ }) hk k1 hns₁ m1 ?_) rfl
  refine bad_set_text (s := { s with heap := h₁, toks := tk₁ }) X₁ at₁ fun h₂ tk₂ D keep₂ at₂ => ?_
  exact wpAny_execs_nil (h h₂ tk₂ t₁ D (fun b o hb eo => keep₂ b o hb (keep₁ b o hb eo)) at₂)
end
end Mine

end

section
open PySem PySem.W PyProof.Rows PySem.Calls
set_option linter.unusedVariables false
set_option maxRecDepth 1000000
namespace Mine

theorem k_bad_init (p : Params) : findIn (KP p) (.ref 44) "__init__" = some (some (.ref 28)) := by kernel_rfl
theorem k_init_fn (p : Params) : typeIn (KP p) (.ref 28) = some (.type "function") := by kernel_rfl

section
variable {prog : Program} {w : World} {A : Around} {E : Value → Shared → Prop} {R : Result → Shared → Prop} {h : Heap} {g : Array GenState} {d : Drawn} {t : Nat} {os : OsState}
variable {nm q : Str} {N : Addr} {bs : List Value} {hdct : Bool} {sn : List Str} {sub : List Value} {ab : Bool} {col : Option Bool} {dd : Option Addr} {k0 k1 k2 k3 k5 : Option Value}

theorem bad_check_new {M : Model} {rest : List Value} {Q : Unit → Shared → Prop} (hC : h.get? 44 = some (excClassObj nm q 44 N bs badTail hdct sn sub ab col dd k0 k1 k2 k3 k5 "Exception.__new__"))
    (hq : Q () ⟨h, g, d, t, os⟩) : wpAny M A (checkBuiltinCall "Exception.__new__" ⟨.ref 44 :: rest, []⟩) Q E ⟨h, g, d, t, os⟩ := by
  have Fn := PySem.F.excBase_Exception
  have hcont : (Value.ref 44 :: badTail).contains (.type "Exception") = true := by rfl
  have hstar := Fn.noStar
  simp only [checkBuiltinCall, Fn.newKind, Fn.newSplit, Fn.newRow]
  repeat (first | refine wpAny_loadPart_at hC ?_ | (refine wpAny_isSubtype_exc hC ?_; rw [hcont]) | refine wpAny_staticBase_exc hC ?_ | refine wpAny_madeBy_exc hC ?_ | simp only [bne_self_eq_false, Bool.false_eq_true, if_false] | wp_step)
  exact hq

theorem bad_new {rest : List Value} (hC : h.get? 44 = some (excClassObj nm q 44 N bs badTail hdct sn sub ab col dd k0 k1 k2 k3 k5 "Exception.__new__"))
    (hq : R (.ok (.ret (.ref (h.objs.size + 1)))) ⟨(h.push { cls := .type "tuple", data := .seq rest.toArray }).push
      { cls := .ref 44, data := .fields #[.ref h.objs.size, .none, .none, .none, .bool false, .none] }, g, d, t, os⟩) (hrest : rest.length ≤ sizeLine) :
    codeAny (model prog w) A (.builtin "Exception.__new__" ⟨.ref 44 :: rest, []⟩) R ⟨h, g, d, t, os⟩ := by
  have Fn := PySem.F.excBase_Exception
  have hends := Fn.ends
  have hcB : (Value.ref 44 :: badTail).contains (.type "Exception") = true := by rfl
  have hcA : (Value.ref 44 :: badTail).contains (.type "AttributeError") = false := by rfl
  have hcN : (Value.ref 44 :: badTail).contains (.type "NameError") = false := by rfl
  refine codeAny_builtinAt Fn.entry ?_
  unfold Builtin.«BaseException.__new__»
  refine PySem.wpAt_bind ?_
  show PySem.wpAt _ _ _ (stack >>= _) _ _ _
  refine PySem.wpAt_bind (PySem.wpAt_stack fun p below => PySem.wpAt_of_wpAny ?_)
  wp_walk
  refine PySem.wpAt_of_wpAny ?_
  rw [Fn.owner]
  repeat (first | with_reducible refine wpAny_madeHere_exc Fn.canon hC ?_ | with_reducible refine wpAny_loadPart_at hC ?_ | (with_reducible refine wpAny_isSubtype_exc hC ?_; first | rw [hcB] | rw [hcA] | rw [hcN]) | wp_step)
  show R _ _
  rw [Heap.size_push]
  exact hq

theorem bad_call (X : (KP w.params).In h) {txt : Value} {Q : Value → Shared → Prop}
    (hq : ∀ t0, t0 = h.objs.size → wpAny (model prog w) (A.under (.builtin "type.__call__" ⟨[.ref 44, txt], []⟩)) (call (.ref 28) [.ref (h.objs.size + 1), txt]) (fun v s' => v = .none ∧ Q (.ref (h.objs.size + 1)) s') E
      ⟨(h.push { cls := .type "tuple", data := .seq #[txt] }).push { cls := .ref 44, data := .fields #[.ref t0, .none, .none, .none, .bool false, .none] }, g, d, t, os⟩) :
    wpAny (model prog w) A (call (.ref 44) [txt]) Q E ⟨h, g, d, t, os⟩ := by
  obtain ⟨nm, q, N, bs, hdct, sn, sub, ab, col, dd, k0, k1, k2, k3, k5, hC⟩ := bad_obj X
  have Fn := PySem.F.excBase_Exception
  have f1 := tc_lookup
  have f2 := tc_bind (.ref 44)
  have hT : (⟨h, g, d, t, os⟩ : Shared).TypeIs (.ref 44) "type" := ⟨_, hC, rfl⟩
  refine wpAny_call (codeAny_of_tree ?_)
  show wpAny _ _ (callAny (.ref 44) _) _ _ _
  repeat (any_goals (first | assumption | with_reducible refine wpAny_loadPart_at hC ?_ | wp_step))
  refine ⟨rfl, ?_⟩
  refine codeAny_call_builtin_at (Code.quiet_builtin _ (by decide +kernel)) entry_typeCall (wpAny_check_type_call_sub hC ?_)
  unfold Builtin.«type.__call__»
  repeat (first | with_reducible refine wpAny_loadPart_at hC ?_ | with_reducible refine wpAny_madeBy_exc hC ?_ | wp_step)
  refine codeAny_call_builtin_code (Code.quiet_builtin _ Fn.quiet) (bad_check_new hC ?_)
  refine bad_new hC ?_ (by rw [sizeLine_eq]; simp)
  show wpAny _ _ _ _ _ _
  have hC₁ := Heap.get?_push_of_some { cls := .ref 44, data := .fields #[.ref h.objs.size, .none, .none, .none, .bool false, .none] }
    (Heap.get?_push_of_some { cls := .type "tuple", data := .seq [txt].toArray } hC)
  have X₁ : (KP w.params).In ((h.push { cls := .type "tuple", data := .seq [txt].toArray }).push { cls := .ref 44, data := .fields #[.ref h.objs.size, .none, .none, .none, .bool false, .none] }) :=
    X.keeps fun b o e => Heap.get?_push_of_some _ (Heap.get?_push_of_some _ e)
  have hget : ((h.push { cls := .type "tuple", data := .seq [txt].toArray }).push
      { cls := .ref 44, data := .fields #[.ref h.objs.size, .none, .none, .none, .bool false, .none] }).get? (h.objs.size + 1) = some
      { cls := .ref 44, data := .fields #[.ref h.objs.size, .none, .none, .none, .bool false, .none] } := by heap_get
  have hcC : (Value.ref 44 :: badTail).contains (.ref 44) = true := by rfl
  unfold isInstance
  repeat (first | with_reducible refine wpAny_loadPart_at hget ?_ | (with_reducible refine wpAny_isSubtype_exc hC₁ ?_; rw [hcC]) | wp_step)
  refine (looks_mroIn X₁ (k_bad_self w.params)).here ?_
  have t1 : Looks (model prog w) ((h.push { cls := .type "tuple", data := .seq [txt].toArray }).push { cls := .ref 44, data := .fields #[.ref h.objs.size, .none, .none, .none, .bool false, .none] }) (typeOf (.ref (h.objs.size + 1))) (.ref 44) := (Looks.ld hget).andThen .now
  rw [if_neg (by decide)]
  refine wpAny_bind (wpAny_holding ?_)
  unfold callSpecial? specialOf
  refine wpAny_bind (wpAny_bind (t1.here ((looks_findIn X₁ (k_bad_init w.params)).here ?_)))
  refine wpAny_holding (wpAny_bind ((bind_fn X₁ (.ref (h.objs.size + 1)) (k_init_fn w.params)).here ?_))
  refine wpAny_bind (wpAny_mono (hq _ rfl) (fun v s' hv => ?_) fun _ _ x => x)
  obtain ⟨rfl, hv⟩ := hv
  exact wpAny_pure (wpAny_pure hv)
end

def initFn (K : Frag) : Option FuncData := match K.lookup 28 with
  | some ⟨_, _, .func fd, _⟩ => some fd
  | _ => none
def initBody : FuncBody → Bool
  | .stmts [.Expr (.Call (.Attribute (.Name a p1) b p2) [.Name c p3, .Name d p4] [] p5) p6, .Assign [.Attribute (.Name e p7) f p8] (.Name g p9) p10] =>
    a == ("Exception" : Str) && b == ("__init__" : Str) && c == ("self" : Str) && d == ("text" : Str) && e == ("self" : Str) && f == ("text" : Str) && g == ("text" : Str) && p2.endLine == p5.line
  | _ => false
def initScope (sc : Scope) : Bool := sc.kind == .function && !sc.isCoroutine && !sc.isGenerator && sc.names.all (fun p => p.2 != .cell) && sc.names.lookup ("self" : Str) == some .local && sc.names.lookup ("text" : Str) == some .local && sc.names.lookup ("Exception" : Str) == some .globalImplicit
def initChk (K : Frag) : Bool := match initFn K with
  | some fd => codeIn K fd.code fd.qualname && fd.closure.isEmpty && fd.globals == mainGlobals && fd.builtins == builtinsNs && initScope fd.scope && initBody fd.body
  | none => false
theorem k_init (p : Params) : initChk (KP p) = true := by kernel_rfl
theorem d_init (p : Params) (S : Setting) (c1 c2 : Value) : ((initFn (KP p)).bind fun fd => peek (KP p) S (bindArgs fd ⟨[c1, c2], []⟩)) = some [(("self" : Str), c1), (("text" : Str), c2)] := by kernel_rfl
theorem k_exc_glob (p : Params) : nsIn (KP p) mainGlobals "Exception" = some none := by kernel_rfl
theorem k_exc_boot : bootBuiltins "Exception" = some (.type "Exception") := by kernel_rfl

section
variable {prog : Program} {w : World} {A : Around} {E : Value → Shared → Prop} {s : Shared} {B : Heap}

theorem bad_init_call (G : Gr w B) (hB : B.StaysIn s.heap) (hd : A.depth < recursionLimit) {e t0 : Addr} {txt : Value} {Q : Value → Shared → Prop} (hKe : (KP w.params).lookup e = none)
    (he : s.heap.get? e = some { cls := .ref 44, dict := none, data := .fields #[.ref t0, .none, .none, .none, .bool false, .none] })
    (h : ∀ h' tk t D, (∀ b o, b ≠ e → s.heap.get? b = some o → h'.get? b = some o) → h'.get? e = some { cls := .ref 44, dict := some D, data := .fields #[.ref t, .none, .none, .none, .bool false, .none] } → Q .none { s with heap := h', toks := tk }) :
    wpAny (model prog w) A (call (.ref 28) [.ref e, txt]) Q E s := by
  have X : (KP w.params).In s.heap := G.X.keeps hB
  have hk := k_init w.params
  unfold initChk at hk
  split at hk
  · rename_i fd hfd
    simp only [Bool.and_eq_true, beq_iff_eq, List.isEmpty_iff] at hk
    obtain ⟨⟨⟨⟨⟨c1, c2⟩, c3⟩, c4⟩, c5⟩, c6⟩ := hk
    unfold initScope at c5
    simp only [Bool.and_eq_true, beq_iff_eq, List.all_eq_true, bne_iff_ne, ne_eq, Bool.not_eq_true'] at c5
    obtain ⟨⟨⟨⟨⟨⟨s1, s2⟩, s3⟩, s4⟩, s5⟩, s6⟩, s7⟩ := c5
    unfold initBody at c6
    split at c6
    · rename_i a p1 b p2 c p3 d p4 p5 p6 ee p7 f p8 g p9 p10 hbody
      simp only [Bool.and_eq_true, beq_iff_eq] at c6
      obtain ⟨⟨⟨⟨⟨⟨⟨rfl, rfl⟩, rfl⟩, rfl⟩, rfl⟩, rfl⟩, rfl⟩, hline⟩ := c6
      have hfd' := hfd
      unfold initFn at hfd'
      split at hfd'
      · rename_i oc od fd' osl ho
        cases hfd'
        obtain ⟨mg, mb, g1, g2, g3⟩ := G.ns
        have hbind : BindsTo s fd ⟨[.ref e, txt], []⟩ [(("self" : Str), .ref e), (("text" : Str), txt)] := kp_binds X fun S => by
          have := d_init w.params S (.ref e) txt
          rw [hfd] at this; exact this
        refine wpAny_call (codeAny_call_def hd (X _ _ ho) rfl (G.nolimit.keeps hB) (codeRec_of X c1) hbody hbind (fun x hx => s4 x hx) (fun x hx => by
          rcases List.mem_cons.mp hx with q | q
          · subst q; exact s5
          · rcases List.mem_cons.mp q with q | q
            · subst q; exact s6
            · cases q) (fun h₀ hns hk₀ => ?_) s2 s3 s1)
        have hel : e < s.heap.objs.size := Heap.lt_size he
        refine init_body (prog := prog) (w := w) (s := { s with heap := h₀, toks := s.toks + 2 }) (X.keeps hk₀) (env := callEnv fd s.heap.objs.size 28) s1 s5 s6 s7 c3 c4 (by simpa using hline) hns (by rfl) (by rfl) (Nat.ne_of_lt hel) hKe
          ((g1.keeps hB).keeps hk₀) (ns_of_nsIn G.X g1 (k_exc_glob _)) ((g2.keeps hB).keeps hk₀) (by rw [g3 _ (by decide)]; exact k_exc_boot) (hk₀ _ _ he) fun h' tk t D keep' at' => ?_
        exact h h' tk t D (fun b o hb eo => keep' b o hb (hk₀ b o eo)) at'
      · cases hfd'
    · cases c6
  · cases hk
end
end Mine

end

section
open PySem PySem.W PyProof.Rows PySem.Calls
set_option linter.unusedVariables false
set_option maxRecDepth 1000000
namespace Mine

section
variable {M : Model} {A : Around} {E : Value → Shared → Prop} {env : Env}
theorem raise_own {s : Shared} {w : World} {x : Sem Value} {Q : Flow → Shared → Prop} (hh : A.handled = none)
    (h : wpAny M A x (fun v s₁ => ∃ e D t, v = .ref e ∧ (KP w.params).In s₁.heap ∧ s₁.heap.get? e = some { cls := .ref 44, dict := some D, data := .fields #[.ref t, .none, .none, .none, .bool false, .none] } ∧ E (.ref e) s₁) E s) :
    wpAny M A (raiseStmt env (some x) none) Q E s := by
  unfold raiseStmt
  refine wpAny_bind (wpAny_mono h (fun v s₁ h₁ => ?_) fun _ _ x => x)
  obtain ⟨e, D, t, rfl, X, he, hE⟩ := h₁
  obtain ⟨nm, q, N, bs, hdct, sn, sub, ab, col, dd, k0, k1, k2, k3, k5, hC⟩ := bad_obj X
  have hcB : (Value.ref 44 :: badTail).contains (.type "BaseException") = true := by rfl
  obtain ⟨hp, g, d, tk, os⟩ := s₁
  repeat (first | with_reducible refine wpAny_loadPart_at he ?_ | with_reducible refine wpAny_loadPart_at hC ?_ | (with_reducible refine wpAny_isSubtype_exc hC ?_; rw [hcB]) | wp_step)
  exact wpAny_raiseNew_none hh hE
end

theorem SR.hide {C : Ctx} {n : Nat} {A : Around} {fr : List Env} {env : Env} {m : Loc} {σ : Store} {ρ : List Addr} {s : Shared} (sit : Sit C n A fr env m σ ρ s) : SR C σ ρ (hideAll s.heap (frAt fr)) := by
  have dictAt : ∀ L, L ∈ frAt fr → ∃ o, s.heap.get? L = some o ∧ (∃ es ep, o.data = .dict es ep) ∧ L ∉ ρ ∧ C.B.get? L = none := fun L hL => by
    obtain ⟨e, he, hfe⟩ := List.mem_filterMap.mp hL
    obtain ⟨_, L', o, a1, a2, a3, a4, a5⟩ := sit.fok e he
    rw [hfe] at a1; cases a1
    exact ⟨o, a3, a4, a5, a2⟩
  have sr := sit.rel.sr
  refine ⟨sr.len, fun i o a e1 e2 => (sr.obj i o a e1 e2).mono (fun _ _ e => e) (fun b o e hi => hideAll_get _ e fun hm => ?_) (fun o e => hideAll_get _ e fun hm => ?_), sr.inj, sr.new, fun b o e => hideAll_get _ (sr.base b o e) fun hm => ?_⟩
  · obtain ⟨o', e', ⟨es, ep, hd⟩, _⟩ := dictAt b hm
    rw [e] at e'; cases e'; exact not_imm_dict hd hi
  · exact (dictAt a hm).choose_spec.2.2.1 (List.mem_of_getElem? e2)
  · obtain ⟨_, _, _, _, hB⟩ := dictAt b hm
    rw [hB] at e; cases e

theorem made_here {C : Ctx} {n : Nat} {A : Around} {fr : List Env} {env : Env} {m : Loc} {σ : Store} {ρ : List Addr} {s s' : Shared} {X : Store → Prop} {e t D : Addr} (sit : Sit C n A fr env m σ ρ s) (hK : C.fnv "BadTable" = some (.ref 44)) (hX : X σ)
    (hn : s.heap.get? e = none) (hk : ∀ b o, s.heap.get? b = some o → s'.heap.get? b = some o) (he : s'.heap.get? e = some { cls := .ref 44, dict := some D, data := .fields #[.ref t, .none, .none, .none, .bool false, .none] })
    (hg : s'.gens = s.gens) (hos : s'.os = s.os) : ExcG MadeW C fr X (exOf env) ρ s (.ref e) s' := by
  refine ⟨σ, ρ, e, .ref t, hideAll s.heap (frAt fr), 44, hX, rfl, hK, ⟨fun b o q => hk b o (of_hideAll _ q), ?_, ?_, _, _, he, rfl, rfl, rfl, rfl⟩, SR.hide sit, hg, hos, fun _ _ q => q, fun a h1 h2 => absurd h1 h2, fun b o q h1 h2 h3 => .inl (hideAll_get _ q h3), fun L o hL _ q => ⟨o.slots, hk L o q⟩⟩
  · cases q : (hideAll s.heap (frAt fr)).get? e with
    | none => rfl
    | some o => have := of_hideAll _ q; rw [hn] at this; cases this
  · have key : ∀ l : List Env, (∀ x ∈ l, x ∈ fr) → s'.heap.FunFrames (hideAll s.heap (frAt fr)) l := by
      intro l
      induction l with
      | nil => intro _; trivial
      | cons x r ih =>
        intro hx
        obtain ⟨hkd, L, o, a1, a2, a3, ⟨es, ep, a4⟩, a5⟩ := sit.fok x (hx x (.head _))
        exact ⟨hkd, ⟨L, o, a1, hideAll_none _ (List.mem_filterMap.mpr ⟨x, hx x (.head _), a1⟩), hk L o a3, fun vs q => by rw [a4] at q; cases q⟩, ih fun y hy => hx y (.tail _ hy)⟩
    exact key fr fun x hx => hx

theorem mk_raise {w : World} {B : Heap} (prog : Program) (G : Gr w B) (n : Nat) : RaiseOk (mkC prog w B) n := fun A fr env m σ ρ s k X x t np cp cpos pos kd EB Q hk sit ps hx hg hxn hX => by
  rw [arm_exec_Raise]
  have hB : B.StaysIn s.heap := sit.rel.sr.base
  have OK := mk_ok G prog
  refine wpAny_bind (wpAny_standAt (raise_own (w := w) sit.room.handled (wpAny_bind (wpAny_mono (Q := fun v s₁ => ∃ e D t, v = .ref e ∧ (KP w.params).In s₁.heap ∧ s₁.heap.get? e = some { cls := .ref 44, dict := some D, data := .fields #[.ref t, .none, .none, .none, .bool false, .none] } ∧ EB (.ref e) s₁) ?_ (fun v s₃ h₃ => wpAny_bind (wpAny_standAt (wpAny_pure h₃))) fun _ _ x => x))))
  have hgl : GlobAt (mkC prog w B) x.toString (.ref 44) := by rw [hxn]; exact glob_fn G (mem_of_lookup' rfl)
  refine wpAny_Call_Name_kw (Calls.Name_function_global hk.kind (hk.glob _ hg) (load_globAt hk sit (nameOk_eq hx).1 hgl ?_) (nameOk_eq hx).2)
  rw [starEach_plain cpos env (by rfl), map_false]
  refine callWith_any (C := mkC prog w B) (by simp) ?_
  refine Calls.spliced_cons (wpAny_Constant_str (Calls.spliced_nil ?_))
  have hB' : B.StaysIn ({ s with toks := s.toks + 1 } : Shared).heap := hB
  refine ⟨hB', keep_fn G prog (c := .ref 44) (x := "BadTable") (mem_of_lookup' rfl), ?_⟩
  have XX : (KP w.params).In s.heap := G.X.keeps hB
  have hlt : ∀ b o, s.heap.get? b = some o → b < s.heap.objs.size := fun b o e => Heap.lt_size e
  have hne : s.heap.get? (s.heap.objs.size + 1) = none := Heap.get?_none_of_le (Nat.le_succ _)
  have hKe : (KP w.params).lookup (s.heap.objs.size + 1) = none := by
    cases q : (KP w.params).lookup (s.heap.objs.size + 1) with
    | none => rfl
    | some o => have := XX _ _ q; rw [hne] at this; cases this
  show wpAny _ _ (call (.ref 44) [.str t s.toks]) _ _ ⟨s.heap, s.gens, s.drawn, s.toks + 1, s.os⟩
  refine bad_call XX fun t0 ht0 => ?_
  subst ht0
  have k2 : ∀ b o, s.heap.get? b = some o → ((s.heap.push { cls := .type "tuple", data := .seq #[.str t s.toks] }).push { cls := .ref 44, data := .fields #[.ref s.heap.objs.size, .none, .none, .none, .bool false, .none] }).get? b = some o := fun b o e => Heap.get?_push_of_some _ (Heap.get?_push_of_some _ e)
  refine bad_init_call (s := ⟨(s.heap.push { cls := .type "tuple", data := .seq #[.str t s.toks] }).push { cls := .ref 44, data := .fields #[.ref s.heap.objs.size, .none, .none, .none, .bool false, .none] }, s.gens, s.drawn, s.toks + 1, s.os⟩)
    (t0 := s.heap.objs.size) G (fun b o e => k2 b o (hB b o e)) (by
      have := sit.room.depth
      have hw : (Code.builtin "type.__call__" ⟨[.ref 44, .str t s.toks], []⟩).weight = 1 := by kernel_rfl
      show A.depth + (Code.builtin "type.__call__" ⟨[.ref 44, .str t s.toks], []⟩).weight < recursionLimit
      rw [hw]; omega) hKe ?_ fun h' tk t' D keep' at' => ?_
  · have := Heap.get?_push_size (s.heap.push { cls := .type "tuple", data := .seq #[.str t s.toks] }) (o := { cls := .ref 44, data := .fields #[.ref s.heap.objs.size, .none, .none, .none, .bool false, .none] }) rfl
    rw [Heap.size_push] at this
    exact this
  · refine ⟨rfl, s.heap.objs.size + 1, D, t', rfl, ?_, at', ?_⟩
    · exact fun a o ho => keep' a o (fun q => by rw [q, hKe] at ho; cases ho) (k2 _ _ (XX _ _ ho))
    · refine ps.made _ _ (made_here sit rfl hX hne (fun b o eb => keep' b o (fun q => by rw [q, hne] at eb; cases eb) (k2 b o eb)) at' rfl rfl)

end Mine

end

section
open PySem PySem.W PyProof.Rows PySem.Calls
set_option linter.unusedVariables false
set_option maxRecDepth 1000000
set_option maxHeartbeats 0
namespace Mine

theorem mk_geo {w : World} {B : Heap} (prog : Program) (G : Gr w B) : GeoOk (mkC prog w B) := fun n vs σ Q X m₀ hb h A fr ρ s c cs h1 h2 h3 h4 h5 h6 => by
  have hc : (mkC prog w B).fnv "Geometry" = some (.ref 65) := rfl
  rw [hc] at h6; cases h6
  have hB : B.StaysIn s.heap := h4.base
  have XX : (KP w.params).In s.heap := G.X.keeps hB
  have hn0 : s.heap.get? s.heap.objs.size = none := Heap.get?_none_of_le (Nat.le_refl _)
  have hk1 : ∀ b o, s.heap.get? b = some o → (s.heap.push emptyDict).get? b = some o := fun b o e => Heap.get?_push_of_some _ e
  have hs1 : (s.heap.push emptyDict).objs.size = s.heap.objs.size + 1 := Heap.size_push ..
  have hn1 : (s.heap.push emptyDict).get? (s.heap.objs.size + 1) = none := Heap.get?_none_of_le (by rw [hs1]; exact Nat.le_refl _)
  have hk2 : ∀ b o, (s.heap.push emptyDict).get? b = some o → ((s.heap.push emptyDict).push (instObj 65 s.heap.objs.size)).get? b = some o := fun b o e => Heap.get?_push_of_some _ e
  have hd : (s.heap.push emptyDict).get? s.heap.objs.size = some emptyDict := Heap.get?_push_size _ rfl
  have hx : ((s.heap.push emptyDict).push (instObj 65 s.heap.objs.size)).get? (s.heap.objs.size + 1) = some (instObj 65 s.heap.objs.size) := by
    have := Heap.get?_push_size (s.heap.push emptyDict) (o := instObj 65 s.heap.objs.size) rfl
    rw [hs1] at this; exact this
  have sr1 : SR (mkC prog w B) (σ ++ [.ns fun _ => none]) (ρ ++ [s.heap.objs.size]) (s.heap.push emptyDict) :=
    h4.alloc hn0 hk1 (.ns (m := fun _ => none) ⟨_, #[], 0, hd, rfl, fun _ h => by simp at h, by unfold UniqKeys; simp, fun _ => rfl⟩ (fun y hy => by simp at hy) fun x v e => by simp at e)
  have sr2 : SR (mkC prog w B) (σ ++ [.ns fun _ => none] ++ [.inst "Geometry" σ.length]) (ρ ++ [s.heap.objs.size] ++ [s.heap.objs.size + 1]) ((s.heap.push emptyDict).push (instObj 65 s.heap.objs.size)) :=
    sr1.alloc hn1 hk2 (.inst hc (by rw [← h4.len, List.append_assoc, List.getElem?_append_right (Nat.le_refl _)]; simp) hx)
  have p1 : Post (mkC prog w B) noEx ρ (ρ ++ [s.heap.objs.size]) s { s with heap := s.heap.push emptyDict } := .alloc hn0 (fun q => q) hk1 rfl rfl
  have p2 : Post (mkC prog w B) noEx (ρ ++ [s.heap.objs.size]) (ρ ++ [s.heap.objs.size] ++ [s.heap.objs.size + 1]) { s with heap := s.heap.push emptyDict } { s with heap := (s.heap.push emptyDict).push (instObj 65 s.heap.objs.size) } :=
    .alloc hn1 (fun q => q) hk2 rfl rfl
  have p12 := p1.trans p2
  have fok2 : FrOk (mkC prog w B) (ρ ++ [s.heap.objs.size] ++ [s.heap.objs.size + 1]) ((s.heap.push emptyDict).push (instObj 65 s.heap.objs.size)) fr :=
    FrOk.post (s := s) (s' := { s with heap := (s.heap.push emptyDict).push (instObj 65 s.heap.objs.size) }) h3 p12 fun b o hb => hb.elim
  have hvs : VRs (mkC prog w B) (ρ ++ [s.heap.objs.size] ++ [s.heap.objs.size + 1]) ((s.heap.push emptyDict).push (instObj 65 s.heap.objs.size)) (.ref (σ.length + 1) :: vs) (.ref (s.heap.objs.size + 1) :: cs) :=
    .cons (.ref (by rw [← h4.len, List.getElem?_append_right (by simp)]; simp)) (h5.mono (fun i a e => getElem?_snoc_of (getElem?_snoc_of e)) fun b o e _ => hk2 b o (hk1 b o e))
  refine wpAny_call ?_
  have hw1 : (Code.builtin "type.__call__" ⟨.ref 65 :: cs, []⟩).weight = 1 := by kernel_rfl
  have hu1 : (Code.builtin "type.__call__" ⟨.ref 65 :: cs, []⟩).cUnits = 1 := by kernel_rfl
  have room : Room (A.under (Code.builtin "type.__call__" ⟨.ref 65 :: cs, []⟩)) (n + 1) := ⟨h1.handled, by
    show A.depth + (Code.builtin "type.__call__" ⟨.ref 65 :: cs, []⟩).weight + (n + 1) + 60 < recursionLimit
    rw [hw1]; have := h1.depth; omega, by
    show A.units + (Code.builtin "type.__call__" ⟨.ref 65 :: cs, []⟩).cUnits + 4 * (n + 1) + 200 < cLine
    rw [hu1]; have := h1.units; omega⟩
  have frs : (A.under (Code.builtin "type.__call__" ⟨.ref 65 :: cs, []⟩)).frames = some fr := by
    have he : (Code.builtin "type.__call__" ⟨.ref 65 :: cs, []⟩).envs = [] := by kernel_rfl
    unfold Around.under
    rw [he, h2]; rfl
  have key := fn_code (Q := fun v σ' => v = .none ∧ Q (.ref (σ.length + 1)) σ') (mk_ok G prog) (mk_bad prog G) (mk_raise prog G n) (mk_init G prog) hb h (A.under (Code.builtin "type.__call__" ⟨.ref 65 :: cs, []⟩)) fr _ { s with heap := (s.heap.push emptyDict).push (instObj 65 s.heap.objs.size) } (.ref 62) _ room frs fok2 sr2 hvs rfl
  have mk := make_core (prog := prog) (w := w) (A := A) (g := s.gens) (d := s.drawn) (t := s.toks) (os := s.os) (rest := cs) (kw := []) (makes_of XX (k_geo_makes _)) (looks_findIn XX (k_geo_init _)) (fun self => bind_fn XX self (k_geo_fn _)) (.inl rfl)
    (R := fun r s' => match r with
      | .ok (.ret v) => (∃ u σ' ρ', Q u σ' ∧ VR (mkC prog w B) ρ' s'.heap u v ∧ SR (mkC prog w B) σ' ρ' s'.heap ∧ Post (mkC prog w B) noEx ρ ρ' s s')
      | .ok _ => False
      | .error e => ExcP (mkC prog w B) fr X noEx ρ s e s') (codeAny_mono key fun r s' z => ?_)
  · exact mk
  · rcases r with e | f
    · exact z.after p12 h3
    · cases f with
      | ret v =>
        obtain ⟨u, σ', ρ', ⟨rfl, hq⟩, hv, hsr, hp⟩ := z
        cases hv
        refine ⟨rfl, .ref (σ.length + 1), σ', ρ', hq, .ref (hp.pre _ _ ?_), hsr, p12.trans hp⟩
        rw [← h4.len, List.getElem?_append_right (by simp)]; simp
      | _ => exact z.elim

theorem mk_prg {w : World} {B : Heap} (prog : Program) (G : Gr w B) : Prg (mkC prog w B) where
  OK := mk_ok G prog
  BK := mk_bad prog G
  RK := mk_raise prog G
  glb := rfl
  geo := mk_geo prog G
  f_is_growing := mk_fn G prog (a := (fnAddrs.lookup "is_growing").get!) rfl rfl (c_is_growing w.params) (d_is_growing w.params)
  f_add_masks := mk_fn G prog (a := (fnAddrs.lookup "add_masks").get!) rfl rfl (c_add_masks w.params) (d_add_masks w.params)
  f_inner_squares := mk_fn G prog (a := (fnAddrs.lookup "inner_squares").get!) rfl rfl (c_inner_squares w.params) (d_inner_squares w.params)
  f_add_rays := mk_fn G prog (a := (fnAddrs.lookup "add_rays").get!) rfl rfl (c_add_rays w.params) (d_add_rays w.params)
  f_add_pawns := mk_fn G prog (a := (fnAddrs.lookup "add_pawns").get!) rfl rfl (c_add_pawns w.params) (d_add_pawns w.params)
  f_add_knights := mk_fn G prog (a := (fnAddrs.lookup "add_knights").get!) rfl rfl (c_add_knights w.params) (d_add_knights w.params)
  f_add_castles := mk_fn G prog (a := (fnAddrs.lookup "add_castles").get!) rfl rfl (c_add_castles w.params) (d_add_castles w.params)
  f_make_geometry := mk_fn G prog (a := (fnAddrs.lookup "make_geometry").get!) rfl rfl (c_make_geometry w.params) (d_make_geometry w.params)
  f_ray_attacks := mk_fn G prog (a := (fnAddrs.lookup "ray_attacks").get!) rfl rfl (c_ray_attacks w.params) (d_ray_attacks w.params)
  f_rook_attacks := mk_fn G prog (a := (fnAddrs.lookup "rook_attacks").get!) rfl rfl (c_rook_attacks w.params) (d_rook_attacks w.params)
  f_bishop_attacks := mk_fn G prog (a := (fnAddrs.lookup "bishop_attacks").get!) rfl rfl (c_bishop_attacks w.params) (d_bishop_attacks w.params)
  f_queen_attacks := mk_fn G prog (a := (fnAddrs.lookup "queen_attacks").get!) rfl rfl (c_queen_attacks w.params) (d_queen_attacks w.params)
  f_slider_attacks := mk_fn G prog (a := (fnAddrs.lookup "slider_attacks").get!) rfl rfl (c_slider_attacks w.params) (d_slider_attacks w.params)
  f_piece_attacks := mk_fn G prog (a := (fnAddrs.lookup "piece_attacks").get!) rfl rfl (c_piece_attacks w.params) (d_piece_attacks w.params)
  f_solve := mk_fn G prog (a := (fnAddrs.lookup "solve").get!) rfl rfl (c_solve w.params) (d_solve w.params)
  f_index_of := mk_fn G prog (a := (fnAddrs.lookup "index_of").get!) rfl rfl (c_index_of w.params) (d_index_of w.params)
  f_parts_of := mk_fn G prog (a := (fnAddrs.lookup "parts_of").get!) rfl rfl (c_parts_of w.params) (d_parts_of w.params)
  f_mark_places := mk_fn G prog (a := (fnAddrs.lookup "mark_places").get!) rfl rfl (c_mark_places w.params) (d_mark_places w.params)
  f_weak_moves := mk_fn G prog (a := (fnAddrs.lookup "weak_moves").get!) rfl rfl (c_weak_moves w.params) (d_weak_moves w.params)
  f_strong_moves := mk_fn G prog (a := (fnAddrs.lookup "strong_moves").get!) rfl rfl (c_strong_moves w.params) (d_strong_moves w.params)
  f_moves_at := mk_fn G prog (a := (fnAddrs.lookup "moves_at").get!) rfl rfl (c_moves_at w.params) (d_moves_at w.params)
  f_build_zone := mk_fn G prog (a := (fnAddrs.lookup "build_zone").get!) rfl rfl (c_build_zone w.params) (d_build_zone w.params)
  f_probe := mk_fn G prog (a := (fnAddrs.lookup "probe").get!) rfl rfl (c_probe w.params) (d_probe w.params)
  f_best_move := mk_fn G prog (a := (fnAddrs.lookup "best_move").get!) rfl rfl (c_best_move w.params) (d_best_move w.params)
  f_mate_line := mk_fn G prog (a := (fnAddrs.lookup "mate_line").get!) rfl rfl (c_mate_line w.params) (d_mate_line w.params)
  f__law_number := mk_fn G prog (a := (fnAddrs.lookup "_law_number").get!) rfl rfl (c__law_number w.params) (d__law_number w.params)
  f__law_apart := mk_fn G prog (a := (fnAddrs.lookup "_law_apart").get!) rfl rfl (c__law_apart w.params) (d__law_apart w.params)
  f__law_touch := mk_fn G prog (a := (fnAddrs.lookup "_law_touch").get!) rfl rfl (c__law_touch w.params) (d__law_touch w.params)
  f__law_strikes := mk_fn G prog (a := (fnAddrs.lookup "_law_strikes").get!) rfl rfl (c__law_strikes w.params) (d__law_strikes w.params)
  f__law_stands := mk_fn G prog (a := (fnAddrs.lookup "_law_stands").get!) rfl rfl (c__law_stands w.params) (d__law_stands w.params)
  f__law_ways := mk_fn G prog (a := (fnAddrs.lookup "_law_ways").get!) rfl rfl (c__law_ways w.params) (d__law_ways w.params)
  f__law_word := mk_fn G prog (a := (fnAddrs.lookup "_law_word").get!) rfl rfl (c__law_word w.params) (d__law_word w.params)
  f__law_due := mk_fn G prog (a := (fnAddrs.lookup "_law_due").get!) rfl rfl (c__law_due w.params) (d__law_due w.params)
  f__law_right := mk_fn G prog (a := (fnAddrs.lookup "_law_right").get!) rfl rfl (c__law_right w.params) (d__law_right w.params)
  f__law_line_right := mk_fn G prog (a := (fnAddrs.lookup "_law_line_right").get!) rfl rfl (c__law_line_right w.params) (d__law_line_right w.params)
  f__law_place := mk_fn G prog (a := (fnAddrs.lookup "_law_place").get!) rfl rfl (c__law_place w.params) (d__law_place w.params)
  f__law_refused := mk_fn G prog (a := (fnAddrs.lookup "_law_refused").get!) rfl rfl (c__law_refused w.params) (d__law_refused w.params)
  f_law := mk_fn G prog (a := (fnAddrs.lookup "law").get!) rfl rfl (c_law w.params) (d_law w.params)
  f_init := mk_init G prog
end Mine

end

section
open PySem
set_option linter.unusedVariables false
set_option linter.unusedSimpArgs false
set_option maxRecDepth 100000
namespace Mine

/-- what stays of a store -/
def Keep (σ σ' : Store) : Prop := ∀ (i : Nat) (o : AObj), σ[i]? = some o → σ'[i]? = some o
theorem Keep.refl (σ : Store) : Keep σ σ := fun _ _ h => h
theorem Keep.trans {a b c : Store} (x : Keep a b) (y : Keep b c) : Keep a c := fun i o h => y i o (x i o h)
theorem Keep.snoc (σ : Store) (o : AObj) : Keep σ (σ ++ [o]) := fun i o' h => getElem?_snoc_of h
theorem Keep.len {a b : Store} (x : Keep a b) : a.length ≤ b.length := by
  cases h : a.length with
  | zero => omega
  | succ n =>
    have h1 : a[n]? = some a[n] := List.getElem?_eq_getElem (by omega)
    have := (List.getElem?_eq_some_iff.mp (x n _ h1)).1
    omega
theorem Keep.set {a b : Store} (x : Keep a b) {i : Nat} (hi : a.length ≤ i) (o : AObj) : Keep a (b.set i o) := fun j o' h => by
  have hj : j < a.length := (List.getElem?_eq_some_iff.mp h).1
  rw [List.getElem?_set_ne (by omega)]; exact x j o' h
theorem snoc_at (σ : Store) (o : AObj) : (σ ++ [o])[σ.length]? = some o := by simp

/-- the board's tables -/
structure GeoD where
  files : Nat
  ranks : Nat
  full : Int
  king : List Int
  knight : List Int
  rays : List (List Int)

structure GeoIs (σ : Store) (g : Nat) (G : GeoD) : Prop where
  ex : ∃ (d : Nat) (f : String → Option V) (kk kn r : Nat) (rs : List Nat), σ[g]? = some (AObj.inst "Geometry" d) ∧ σ[d]? = some (AObj.ns f) ∧ f "files" = some (V.int G.files) ∧ f "size" = some (V.int (G.files * G.ranks : Nat)) ∧ f "full" = some (V.int G.full) ∧
    f "king" = some (V.ref kk) ∧ σ[kk]? = some (AObj.list (G.king.map V.int)) ∧ f "knight" = some (V.ref kn) ∧ σ[kn]? = some (AObj.list (G.knight.map V.int)) ∧
    f "rays" = some (V.ref r) ∧ σ[r]? = some (AObj.list (rs.map V.ref)) ∧ (∀ (d : Nat) (l : List Int), G.rays[d]? = some l → ∃ a, rs[d]? = some a ∧ σ[a]? = some (AObj.list (l.map V.int)))

theorem GeoIs.keep {σ σ' : Store} {g : Nat} {G : GeoD} (x : GeoIs σ g G) (k : Keep σ σ') : GeoIs σ' g G := by
  obtain ⟨d, f, kk, kn, r, rs, h1, h2, h3, h4, h5, h6, h7, h8, h9, h10, h11, h12⟩ := x.ex
  exact ⟨d, f, kk, kn, r, rs, k _ _ h1, k _ _ h2, h3, h4, h5, h6, k _ _ h7, h8, k _ _ h9, h10, k _ _ h11, fun d l h => let ⟨a, b, c⟩ := h12 d l h; ⟨a, b, k _ _ c⟩⟩

def growing (d : Nat) : Bool := d == 0 || d == 1 || d == 4 || d == 7
def rayAtt (d : Nat) (ray occ : Int) : Int :=
  let stop := Builtin.bitAnd ray occ
  if stop = 0 then ray
  else if growing d then Builtin.bitAnd ray (Builtin.bitXor stop (stop - 1))
  else
    let b0 := stop / 2
    let b1 := Builtin.bitOr b0 (b0 / 2)
    let b2 := Builtin.bitOr b1 (b1 / 4)
    let b3 := Builtin.bitOr b2 (b2 / 16)
    let b4 := Builtin.bitOr b3 (b3 / 256)
    let b5 := Builtin.bitOr b4 (b4 / 65536)
    let b6 := Builtin.bitOr b5 (b5 / 4294967296)
    Builtin.bitAnd ray (Builtin.bitNot b6)

theorem upd_same {m : Loc} {x : String} {v : V} : upd m x v x = some v := by simp [upd]
theorem upd_ne {m : Loc} {x y : String} {v : V} (h : y ≠ x) : upd m x v y = m y := by simp [upd, h]
theorem behind_step {C : Ctx} {n : Nat} {X : Store → Prop} {m : Loc} {σ : Store} {b : Int} {k : Int} (hk : 0 ≤ k) {r : List S} {Q : Fl → Loc → Store → Prop} (hm : m "behind" = some (.int b)) (h : wpSs C n X r (upd m "behind" (.int (Builtin.bitOr b (b / 2 ^ k.toNat)))) σ Q) :
    wpSs C n X (.aug "behind" .BitOr (.bin .RShift (.loc "behind") (.cint k)) :: r) m σ Q := by
  rw [wpSs, wpS]
  exact ⟨_, hm, by rw [wpE, wpE]; exact ⟨_, hm, by rw [wpE]; exact ⟨hk, h⟩⟩⟩

/-- parts of a body -/
theorem wpSs_append {C : Ctx} {n : Nat} {X : Store → Prop} : ∀ {a b : List S} {m : Loc} {σ : Store} {Q : Fl → Loc → Store → Prop},
    wpSs C n X (a ++ b) m σ Q = wpSs C n X a m σ (fun fl m₁ σ₁ => match fl with | .next => wpSs C n X b m₁ σ₁ Q | fl => Q fl m₁ σ₁)
  | [], b, m, σ, Q => by rw [List.nil_append, wpSs]
  | s :: a, b, m, σ, Q => by
    rw [List.cons_append, wpSs, wpSs]
    congr 1
    funext fl m₁ σ₁
    cases fl
    · exact wpSs_append
    · rfl
    · rfl

/-- one statement, what follows kept apart -/
theorem step {C : Ctx} {n : Nat} {X : Store → Prop} {s : S} {r : List S} {m : Loc} {σ : Store} {Q : Fl → Loc → Store → Prop}
    (h : ∀ K : Fl → Loc → Store → Prop, (∀ m₁ σ₁, wpSs C n X r m₁ σ₁ Q → K .next m₁ σ₁) → (∀ v m₁ σ₁, Q (.ret v) m₁ σ₁ → K (.ret v) m₁ σ₁) → (∀ m₁ σ₁, Q .cont m₁ σ₁ → K .cont m₁ σ₁) → wpS C n X s m σ K) : wpSs C n X (s :: r) m σ Q := by
  rw [wpSs]
  exact h _ (fun _ _ h => h) (fun _ _ _ h => h) fun _ _ h => h
theorem done {C : Ctx} {n : Nat} {X : Store → Prop} {m : Loc} {σ : Store} {Q : Fl → Loc → Store → Prop} (h : Q .next m σ) : wpSs C n X [] m σ Q := by rw [wpSs]; exact h

section
variable {C : Ctx} (P : Prg C) {X : Store → Prop} {σ : Store}
include P

theorem s_index_of (a b c d e : Int) (ha : a.natAbs < 2 ^ 64) : SemCall C 1 "index_of" [.int a, .int b, .int c, .int d, .int e] σ (fun v σ' => v = .int (((b * a + c) * a + d) * a + e) ∧ σ' = σ) X := by
  refine P.call P.f_index_of rfl ?_
  simp [b_index_of, wpSs, wpS, wpE, wpBin, upd, bindL]
  exact ⟨.inr ha, .inr ha, .inr ha⟩

theorem s_parts_of (a n : Int) (ha : 0 < a ∧ a ≤ 100) : SemCall C 1 "parts_of" [.int a, .int n] σ (fun v σ' => v = .tup [.int (n / (a * a * a)), .int (n / (a * a) % a), .int (n / a % a), .int (n % a)] ∧ σ' = σ) X := by
  refine P.call P.f_parts_of rfl ?_
  have h1 : 0 < a * a := Int.mul_pos ha.1 ha.1
  have h2 : 0 < a * a * a := Int.mul_pos h1 ha.1
  have h3 : a * a ≤ 100 * 100 := Int.mul_le_mul ha.2 ha.2 (by omega) (by omega)
  have h4 : a * a * a ≤ 100 * 100 * 100 := Int.mul_le_mul h3 ha.2 (by omega) (by omega)
  simp [b_parts_of, wpSs, wpS, wpE, wpEs, wpBin, upd, bindL]
  omega

theorem s_is_growing (d : Nat) (hd : d < 8) : SemCall C 1 "is_growing" [.int d] σ (fun v σ' => v = .bool (growing d) ∧ σ' = σ) X := by
  refine P.call P.f_is_growing rfl ?_
  have : d = 0 ∨ d = 1 ∨ d = 2 ∨ d = 3 ∨ d = 4 ∨ d = 5 ∨ d = 6 ∨ d = 7 := by omega
  rcases this with rfl | rfl | rfl | rfl | rfl | rfl | rfl | rfl <;>
  simp [b_is_growing, wpSs, wpS, wpE, wpAnyL, wpBin, upd, bindL, P.glb, glbTab, wpItem, cmpV, eqV, truthV, growing]

end
end Mine

end

section
open PySem
set_option linter.unusedVariables false
set_option linter.unusedSimpArgs false
set_option maxRecDepth 100000
namespace Mine

theorem forW_inv {src : V} {items : List V} {bnd : V → Loc → Option Loc} {body : Loc → Store → (Fl → Loc → Store → Prop) → Prop} {Q : Fl → Loc → Store → Prop} (I : Nat → Loc → Store → Prop)
    (hsrc : ∀ i m σ, I i m σ → srcItems σ src = some items)
    (hstep : ∀ i v m σ, items[i]? = some v → I i m σ → ∀ K : Fl → Loc → Store → Prop, (∀ m₁ σ₁, I (i + 1) m₁ σ₁ → K .next m₁ σ₁) → (∀ m₁ σ₁, I (i + 1) m₁ σ₁ → K .cont m₁ σ₁) →
      (∀ v m₁ σ₁, Q (.ret v) m₁ σ₁ → K (.ret v) m₁ σ₁) → ∃ m', bnd v m = some m' ∧ body m' σ K)
    (hend : ∀ m σ, I items.length m σ → Q .next m σ) :
    ∀ (rest : List V) (i : Nat) (m : Loc) (σ : Store), items.drop i = rest → i ≤ items.length → I i m σ → forW src items bnd body rest m σ Q := by
  intro rest
  induction rest with
  | nil =>
    intro i m σ hd hi hI
    have hlen : items.length = i := by
      have := congrArg List.length hd
      simp at this; omega
    exact ⟨hsrc _ _ _ hI, hend _ _ (hlen ▸ hI)⟩
  | cons v r ih =>
    intro i m σ hd hi hI
    have hv : items[i]? = some v := by
      have := congrArg (fun l => l[0]?) hd
      simpa using this
    have hlt : i < items.length := (List.getElem?_eq_some_iff.mp hv).1
    have hd' : items.drop (i + 1) = r := by rw [← List.drop_drop, hd]; rfl
    have go := fun m₁ σ₁ (h : I (i + 1) m₁ σ₁) => ih (i + 1) m₁ σ₁ hd' hlt h
    exact ⟨hsrc _ _ _ hI, hstep i v m σ hv hI _ (fun m₁ σ₁ h => go m₁ σ₁ h) (fun m₁ σ₁ h => go m₁ σ₁ h) fun v m₁ σ₁ h => h⟩

theorem rngList_up (a b : Nat) : rngList a b 1 = (List.range (b - a)).map fun (i : Nat) => (a : Int) + i := by
  unfold rngList
  have : (Builtin.Range.rangeSize a b 1).toNat = b - a := by rw [PySem.rangeSize_one]; split <;> omega
  rw [this]
  simp

/-- for x in range(a, b) -/
theorem forW_rng {a b : Nat} {x : String} {body : Loc → Store → (Fl → Loc → Store → Prop) → Prop} {Q : Fl → Loc → Store → Prop} {m : Loc} {σ : Store} (hab : a ≤ b) (I : Nat → Loc → Store → Prop) (h0 : I a m σ)
    (hstep : ∀ i m σ, a ≤ i → i < b → I i m σ → ∀ K : Fl → Loc → Store → Prop, (∀ m₁ σ₁, I (i + 1) m₁ σ₁ → K .next m₁ σ₁) → (∀ m₁ σ₁, I (i + 1) m₁ σ₁ → K .cont m₁ σ₁) → (∀ v m₁ σ₁, Q (.ret v) m₁ σ₁ → K (.ret v) m₁ σ₁) → body (upd m x (.int i)) σ K)
    (hend : ∀ m σ, I b m σ → Q .next m σ) : ∃ items, srcItems σ (.rng a b 1) = some items ∧ forW (.rng a b 1) items (bndT (.name x)) body items m σ Q := by
  refine ⟨_, rfl, ?_⟩
  have hlen : ((rngList a b 1).map V.int).length = b - a := by rw [rngList_up]; simp
  refine forW_inv (fun i m σ => I (a + i) m σ) (fun _ _ _ _ => rfl) (fun i v m σ hv hI K h1 h2 h3 => ?_) (fun m σ h => hend m σ (by rw [hlen, show a + (b - a) = b by omega] at h; exact h)) _ 0 m σ rfl (Nat.zero_le _) h0
  have hi : i < b - a := by have := (List.getElem?_eq_some_iff.mp hv).1; rw [hlen] at this; exact this
  have hv' : v = .int ((a + i : Nat) : Int) := by
    rw [rngList_up] at hv
    simp [hi] at hv
    rw [← hv]; simp
  subst hv'
  exact ⟨_, rfl, hstep (a + i) m σ (by omega) (by omega) hI K h1 h2 h3⟩

section
variable {C : Ctx} (P : Prg C) {X : Store → Prop} {σ : Store}
include P
theorem s_ray_attacks {g : Nat} {G : GeoD} (hG : GeoIs σ g G) (d sq : Nat) (hd : d < 8) (l : List Int) (hl : G.rays[d]? = some l) (ray occ : Int) (hr : l[sq]? = some ray) (hsz : sq < 100) :
    SemCall C 3 "ray_attacks" [.ref g, .int d, .int sq, .int occ] σ (fun v σ' => v = .int (rayAtt d ray occ) ∧ σ' = σ) X := by
  refine P.call P.f_ray_attacks rfl ?_
  obtain ⟨dd, f, kk, kn, r, rs, h1, h2, h3, h4, h5, h6, h7, h8, h9, h10, h11, h12⟩ := hG.ex
  obtain ⟨a, h13, h14⟩ := h12 d l hl
  have e1 : (rs.map V.ref)[d]? = some (.ref a) := by rw [List.getElem?_map, h13]; rfl
  have e2 : (l.map V.int)[sq]? = some (.int ray) := by rw [List.getElem?_map, hr]; rfl
  have hgr : (C.glb "is_growing") = some (.fn "is_growing") := by rw [P.glb]; rfl
  rw [show b_ray_attacks = b_ray_attacks.take 4 ++ b_ray_attacks.drop 4 from rfl, wpSs_append]
  have tail : ∀ (m : Loc) (r s : Int), m "ray" = some (.int r) → m "stop" = some (.int s) → ∀ Q : Fl → Loc → Store → Prop, (∀ m', Q (.ret (.int (
    let b0 := s / 2
    let b1 := Builtin.bitOr b0 (b0 / 2)
    let b2 := Builtin.bitOr b1 (b1 / 4)
    let b3 := Builtin.bitOr b2 (b2 / 16)
    let b4 := Builtin.bitOr b3 (b3 / 256)
    let b5 := Builtin.bitOr b4 (b4 / 65536)
    let b6 := Builtin.bitOr b5 (b5 / 4294967296)
    Builtin.bitAnd r (Builtin.bitNot b6)))) m' σ) → wpSs C 2 X (b_ray_attacks.drop 4) m σ Q := by
    intro m r s hr hs Q hq
    show wpSs C 2 X (.assign (.name "behind") (.bin .RShift (.loc "stop") (.cint 1)) :: .aug "behind" .BitOr (.bin .RShift (.loc "behind") (.cint 1)) :: .aug "behind" .BitOr (.bin .RShift (.loc "behind") (.cint 2)) :: .aug "behind" .BitOr (.bin .RShift (.loc "behind") (.cint 4)) ::
      .aug "behind" .BitOr (.bin .RShift (.loc "behind") (.cint 8)) :: .aug "behind" .BitOr (.bin .RShift (.loc "behind") (.cint 16)) :: .aug "behind" .BitOr (.bin .RShift (.loc "behind") (.cint 32)) :: [.ret (.bin .BitAnd (.loc "ray") (.inv (.loc "behind")))]) m σ Q
    rw [wpSs, wpS, wpE, wpE]
    refine ⟨_, hs, ?_⟩
    rw [wpE]
    refine ⟨by decide, ?_⟩
    refine behind_step (b := s / 2) (by decide) upd_same (behind_step (by decide) upd_same (behind_step (by decide) upd_same (behind_step (by decide) upd_same (behind_step (by decide) upd_same (behind_step (by decide) upd_same ?_)))))
    rw [wpSs, wpS, wpE, wpE]
    refine ⟨.int r, by simp [upd, hr], ?_⟩
    rw [wpE, wpE]
    exact ⟨_, upd_same, _, rfl, hq _⟩
  show wpSs C 2 X [.assign (.name "ray") (.sub (.sub (.attr "geo" "rays") (.loc "d")) (.loc "square")), .assign (.name "stop") (.bin .BitAnd (.loc "ray") (.loc "occupied")),
    .ite (.cmp .Eq (.loc "stop") (.cint 0)) [.ret (.loc "ray")] [], .ite (.call (.glob "is_growing") [(.loc "d")]) [.ret (.bin .BitAnd (.loc "ray") (.bin .BitXor (.loc "stop") (.bin .Sub (.loc "stop") (.cint 1))))] []] _ σ _
  have hat : "rays" ∈ geoAttrs := by decide
  refine step fun K hK hR hC => ?_
  simp [wpS, wpE, wpEs, wpItem, wpAttr, h1, h2, h10, h11, h14, hr, h13, isFnV, wpAssign, upd, hat]
  refine ⟨by omega, by omega, hK _ _ ?_⟩
  refine step fun K hK hR hC => ?_
  simp [wpS, wpE, wpBin, wpAssign, upd]
  refine hK _ _ ?_
  refine step fun K hK hR hC => ?_
  by_cases hz : Builtin.bitAnd ray occ = 0
  · simp [wpS, wpT, wpE, cmpV, eqV, truthV, upd, hz]
    refine step fun K' hK' hR' hC' => ?_
    simp [wpS, wpE, upd]
    refine hR' _ _ _ (hR _ _ _ ?_)
    simp [rayAtt, hz]
  · simp [wpS, wpT, wpE, cmpV, eqV, truthV, upd, hz]
    refine done (hK _ _ ?_)
    refine step fun K hK hR hC => ?_
    simp [wpS, wpT, wpE, wpEs, hgr, -Bool.exists_bool]
    refine ⟨_, by simp [upd]; rfl, ?_⟩
    refine SemCall.mono (s_is_growing P d hd) (fun v σ' ⟨hv, hσ⟩ => ?_) fun _ h => h
    subst hv hσ
    refine ⟨_, rfl, ?_⟩
    by_cases hg : growing d = true
    · simp only [hg, if_true]
      refine step fun K' hK' hR' hC' => ?_
      simp [wpS, wpE, wpBin, upd]
      refine hR' _ _ _ (hR _ _ _ ?_)
      simp [rayAtt, hz, hg]
    · rw [if_neg hg]
      refine done (hK _ _ (done ?_))
      refine tail _ ray (Builtin.bitAnd ray occ) (by simp [upd]) (by simp [upd]) _ fun m' => ?_
      simp [rayAtt, hz, hg]
end
end Mine

end

section
open PySem
set_option linter.unusedVariables false
set_option linter.unusedSimpArgs false
set_option maxRecDepth 100000
namespace Mine

structure GeoD.Ok (G : GeoD) : Prop where
  rays : G.rays.length = 8
  ray : ∀ l ∈ G.rays, l.length = G.files * G.ranks
  king : G.king.length = G.files * G.ranks
  knight : G.knight.length = G.files * G.ranks
  size : G.files * G.ranks ≤ 12
  pos : 0 < G.files ∧ 0 < G.ranks

def rayOf (G : GeoD) (d sq : Nat) : Int := ((G.rays[d]?.getD [])[sq]?).getD 0
def slideTo (G : GeoD) (a n sq : Nat) (occ : Int) : Int := (List.range n).foldl (fun acc i => Builtin.bitOr acc (rayAtt (a + i) (rayOf G (a + i) sq) occ)) 0
theorem slideTo_succ (G : GeoD) (a n sq : Nat) (occ : Int) : slideTo G a (n + 1) sq occ = Builtin.bitOr (slideTo G a n sq occ) (rayAtt (a + n) (rayOf G (a + n) sq) occ) := by
  unfold slideTo
  rw [List.range_succ, List.foldl_append]; rfl

def kindAtt (G : GeoD) (kind sq : Nat) (occ : Int) : Int :=
  if kind = 2 then (G.knight[sq]?).getD 0
  else if kind = 3 then slideTo G 4 4 sq occ
  else if kind = 4 then slideTo G 0 4 sq occ
  else if kind = 5 then Builtin.bitOr (slideTo G 0 4 sq occ) (slideTo G 4 4 sq occ)
  else 0

theorem GeoD.Ok.rayAt {G : GeoD} (h : G.Ok) {d sq : Nat} (hd : d < 8) (hs : sq < G.files * G.ranks) : ∃ l, G.rays[d]? = some l ∧ l[sq]? = some (rayOf G d sq) := by
  have h1 : d < G.rays.length := by rw [h.rays]; exact hd
  have h2 : sq < (G.rays[d]).length := by rw [h.ray _ (List.getElem_mem h1)]; exact hs
  refine ⟨G.rays[d], List.getElem?_eq_getElem h1, ?_⟩
  unfold rayOf
  rw [List.getElem?_eq_getElem h1]
  simp [List.getElem?_eq_getElem h2]

section
variable {C : Ctx} (P : Prg C) {X : Store → Prop} {σ : Store}
include P

theorem s_ray {g : Nat} {G : GeoD} (hG : GeoIs σ g G) (ok : G.Ok) (d sq : Nat) (hd : d < 8) (occ : Int) (hs : sq < G.files * G.ranks) :
    SemCall C 3 "ray_attacks" [.ref g, .int d, .int sq, .int occ] σ (fun v σ' => v = .int (rayAtt d (rayOf G d sq) occ) ∧ σ' = σ) X := by
  obtain ⟨l, h1, h2⟩ := ok.rayAt hd hs
  exact s_ray_attacks P hG d sq hd l h1 _ occ h2 (by have := ok.size; omega)

theorem s_rook {g : Nat} {G : GeoD} (hG : GeoIs σ g G) (ok : G.Ok) (sq : Nat) (occ : Int) (hs : sq < G.files * G.ranks) :
    SemCall C 5 "rook_attacks" [.ref g, .int sq, .int occ] σ (fun v σ' => v = .int (slideTo G 0 4 sq occ) ∧ σ' = σ) X := by
  refine P.call P.f_rook_attacks rfl ?_
  have hc : (C.glb "ray_attacks") = some (.fn "ray_attacks") := by rw [P.glb]; rfl
  refine step fun K hK hR hC => ?_
  simp [wpS, wpE, wpAssign]
  refine hK _ _ (step fun K hK hR hC => ?_)
  simp [wpS, wpE, wpEs, wpB, -Bool.exists_bool]
  refine forW_rng (a := 0) (b := 4) (by decide) (fun i m σ' => σ' = σ ∧ m "geo" = some (.ref g) ∧ m "square" = some (.int sq) ∧ m "occupied" = some (.int occ) ∧ m "found" = some (.int (slideTo G 0 i sq occ))) ⟨rfl, by simp [upd], by simp [upd], by simp [upd], by simp [upd, slideTo]⟩ ?_ ?_
  · rintro i m σ' _ hi ⟨rfl, m1, m2, m3, m4⟩ K k1 k2 k3
    refine step fun K' hK' hR' hC' => ?_
    simp [wpS, wpE, wpEs, upd, m1, m2, m3, m4, hc]
    refine SemCall.mono (s_ray P hG ok i sq (by omega) occ hs) (fun v σ'' ⟨hv, hσ⟩ => ?_) fun _ h => h
    subst hv hσ
    exact hK' _ _ (done (k1 _ _ ⟨rfl, by simp [upd, m1], by simp [upd, m2], by simp [upd, m3], by simp [upd, slideTo_succ]⟩))
  · rintro m σ' ⟨rfl, m1, m2, m3, m4⟩
    refine hK _ _ (step fun K hK hR hC => ?_)
    simp [wpS, wpE, m4]
    exact hR _ _ _ (by simp)

theorem s_bishop {g : Nat} {G : GeoD} (hG : GeoIs σ g G) (ok : G.Ok) (sq : Nat) (occ : Int) (hs : sq < G.files * G.ranks) :
    SemCall C 5 "bishop_attacks" [.ref g, .int sq, .int occ] σ (fun v σ' => v = .int (slideTo G 4 4 sq occ) ∧ σ' = σ) X := by
  refine P.call P.f_bishop_attacks rfl ?_
  have hc : (C.glb "ray_attacks") = some (.fn "ray_attacks") := by rw [P.glb]; rfl
  refine step fun K hK hR hC => ?_
  simp [wpS, wpE, wpAssign]
  refine hK _ _ (step fun K hK hR hC => ?_)
  simp [wpS, wpE, wpEs, wpB, -Bool.exists_bool]
  refine forW_rng (a := 4) (b := 8) (by decide) (fun i m σ' => σ' = σ ∧ m "geo" = some (.ref g) ∧ m "square" = some (.int sq) ∧ m "occupied" = some (.int occ) ∧ m "found" = some (.int (slideTo G 4 (i - 4) sq occ))) ⟨rfl, by simp [upd], by simp [upd], by simp [upd], by simp [upd, slideTo]⟩ ?_ ?_
  · rintro i m σ' h4 hi ⟨rfl, m1, m2, m3, m4⟩ K k1 k2 k3
    refine step fun K' hK' hR' hC' => ?_
    simp [wpS, wpE, wpEs, upd, m1, m2, m3, m4, hc]
    refine SemCall.mono (s_ray P hG ok i sq (by omega) occ hs) (fun v σ'' ⟨hv, hσ⟩ => ?_) fun _ h => h
    subst hv hσ
    refine hK' _ _ (done (k1 _ _ ⟨rfl, by simp [upd, m1], by simp [upd, m2], by simp [upd, m3], ?_⟩))
    have e : i + 1 - 4 = (i - 4) + 1 := by omega
    have e2 : 4 + (i - 4) = i := by omega
    simp [upd, e, slideTo_succ, e2]
  · rintro m σ' ⟨rfl, m1, m2, m3, m4⟩
    refine hK _ _ (step fun K hK hR hC => ?_)
    simp [wpS, wpE, m4]
    exact hR _ _ _ (by simp)

end
end Mine

end

section
open PySem
set_option linter.unusedVariables false
set_option linter.unusedSimpArgs false
set_option maxRecDepth 100000
namespace Mine
section
variable {C : Ctx} (P : Prg C) {X : Store → Prop} {σ : Store}
include P

theorem s_queen {g : Nat} {G : GeoD} (hG : GeoIs σ g G) (ok : G.Ok) (sq : Nat) (occ : Int) (hs : sq < G.files * G.ranks) :
    SemCall C 7 "queen_attacks" [.ref g, .int sq, .int occ] σ (fun v σ' => v = .int (kindAtt G 5 sq occ) ∧ σ' = σ) X := by
  refine P.call P.f_queen_attacks rfl ?_
  have hr : (C.glb "rook_attacks") = some (.fn "rook_attacks") := by rw [P.glb]; rfl
  have hb : (C.glb "bishop_attacks") = some (.fn "bishop_attacks") := by rw [P.glb]; rfl
  refine step fun K hK hR hC => ?_
  simp [wpS, wpE, wpEs, hr, upd]
  refine SemCall.mono (s_rook P hG ok sq occ hs) (fun v σ'' ⟨hv, hσ⟩ => ?_) fun _ h => h
  subst hv hσ
  simp [wpE, wpEs, hb]
  refine SemCall.mono (s_bishop P hG ok sq occ hs) (fun v σ'' ⟨hv, hσ⟩ => ?_) fun _ h => h
  subst hv hσ
  simp [wpBin]
  exact hR _ _ _ (by simp [kindAtt])

theorem s_slider {g : Nat} {G : GeoD} (hG : GeoIs σ g G) (ok : G.Ok) (kind sq : Nat) (occ : Int) (hs : sq < G.files * G.ranks) (hk : 3 ≤ kind ∧ kind ≤ 5) :
    SemCall C 9 "slider_attacks" [.ref g, .int kind, .int sq, .int occ] σ (fun v σ' => v = .int (kindAtt G kind sq occ) ∧ σ' = σ) X := by
  refine P.call P.f_slider_attacks rfl ?_
  have hr : (C.glb "rook_attacks") = some (.fn "rook_attacks") := by rw [P.glb]; rfl
  have hb : (C.glb "bishop_attacks") = some (.fn "bishop_attacks") := by rw [P.glb]; rfl
  have hq : (C.glb "queen_attacks") = some (.fn "queen_attacks") := by rw [P.glb]; rfl
  have g3 : (C.glb "BISHOP") = some (.int 3) := by rw [P.glb]; rfl
  have g4 : (C.glb "ROOK") = some (.int 4) := by rw [P.glb]; rfl
  have g5 : (C.glb "QUEEN") = some (.int 5) := by rw [P.glb]; rfl
  have hk' : kind = 3 ∨ kind = 4 ∨ kind = 5 := by omega
  rcases hk' with rfl | rfl | rfl
  · refine step fun K hK hR hC => ?_
    simp [wpS, wpT, wpE, g3, cmpV, eqV, truthV, upd]
    refine step fun K' hK' hR' hC' => ?_
    simp [wpS, wpE, wpEs, hb, upd]
    refine SemCall.mono ((s_bishop P hG ok sq occ hs).up (b := 7) (by decide)) (fun v σ'' ⟨hv, hσ⟩ => ?_) fun _ h => h
    subst hv hσ
    exact hR' _ _ _ (hR _ _ _ (by simp [kindAtt]))
  · refine step fun K hK hR hC => ?_
    simp [wpS, wpT, wpE, g3, cmpV, eqV, truthV, upd]
    refine done (hK _ _ (step fun K hK hR hC => ?_))
    simp [wpS, wpT, wpE, g4, cmpV, eqV, truthV, upd]
    refine step fun K' hK' hR' hC' => ?_
    simp [wpS, wpE, wpEs, hr, upd]
    refine SemCall.mono ((s_rook P hG ok sq occ hs).up (b := 7) (by decide)) (fun v σ'' ⟨hv, hσ⟩ => ?_) fun _ h => h
    subst hv hσ
    exact hR' _ _ _ (hR _ _ _ (by simp [kindAtt]))
  · refine step fun K hK hR hC => ?_
    simp [wpS, wpT, wpE, g3, cmpV, eqV, truthV, upd]
    refine done (hK _ _ (step fun K hK hR hC => ?_))
    simp [wpS, wpT, wpE, g4, cmpV, eqV, truthV, upd]
    refine done (hK _ _ (step fun K hK hR hC => ?_))
    simp [wpS, wpT, wpE, g5, cmpV, eqV, truthV, upd]
    refine step fun K' hK' hR' hC' => ?_
    simp [wpS, wpE, wpEs, hq, upd]
    refine SemCall.mono (s_queen P hG ok sq occ hs) (fun v σ'' ⟨hv, hσ⟩ => ?_) fun _ h => h
    subst hv hσ
    exact hR' _ _ _ (hR _ _ _ (by simp))

theorem s_piece {g : Nat} {G : GeoD} (hG : GeoIs σ g G) (ok : G.Ok) (side : Int) (kind sq : Nat) (occ : Int) (hs : sq < G.files * G.ranks) (hk : 2 ≤ kind ∧ kind ≤ 5) :
    SemCall C 11 "piece_attacks" [.ref g, .int side, .int kind, .int sq, .int occ] σ (fun v σ' => v = .int (kindAtt G kind sq occ) ∧ σ' = σ) X := by
  refine P.call P.f_piece_attacks rfl ?_
  have hl : (C.glb "slider_attacks") = some (.fn "slider_attacks") := by rw [P.glb]; rfl
  have g1 : (C.glb "PAWN") = some (.int 1) := by rw [P.glb]; rfl
  have g2 : (C.glb "KNIGHT") = some (.int 2) := by rw [P.glb]; rfl
  have g6 : (C.glb "KING") = some (.int 6) := by rw [P.glb]; rfl
  have n1 : (kind : Int) ≠ 1 := by omega
  have n6 : (kind : Int) ≠ 6 := by omega
  refine step fun K hK hR hC => ?_
  simp [wpS, wpT, wpE, g1, cmpV, eqV, truthV, upd, n1]
  refine done (hK _ _ (step fun K hK hR hC => ?_))
  by_cases h2 : kind = 2
  · subst h2
    simp [wpS, wpT, wpE, g2, cmpV, eqV, truthV, upd]
    refine step fun K' hK' hR' hC' => ?_
    obtain ⟨dd, f, kk, kn, r, rs, h1, h2, h3, h4, h5, h6, h7, h8, h9, h10, h11, h12⟩ := hG.ex
    have hat : "knight" ∈ geoAttrs := by decide
    have hkn : G.knight[sq]? = some ((G.knight[sq]?).getD 0) := by
      have : sq < G.knight.length := by rw [ok.knight]; exact hs
      simp [List.getElem?_eq_getElem this]
    simp [wpS, wpE, wpItem, wpAttr, h1, h2, h8, h9, hat, isFnV, upd]
    refine ⟨by have := ok.size; omega, _, ⟨_, hkn, rfl⟩, hR' _ _ _ (hR _ _ _ ?_)⟩
    simp [kindAtt]
  · have n2 : (kind : Int) ≠ 2 := by omega
    simp [wpS, wpT, wpE, g2, cmpV, eqV, truthV, upd, n2]
    refine done (hK _ _ (step fun K hK hR hC => ?_))
    simp [wpS, wpT, wpE, g6, cmpV, eqV, truthV, upd, n6]
    refine done (hK _ _ (step fun K hK hR hC => ?_))
    simp [wpS, wpE, wpEs, hl, upd]
    refine SemCall.mono (s_slider P hG ok kind sq occ hs (by omega)) (fun v σ'' ⟨hv, hσ⟩ => ?_) fun _ h => h
    subst hv hσ
    exact hR _ _ _ (by simp)
end
end Mine

end

section
open PySem
set_option linter.unusedVariables false
set_option linter.unusedSimpArgs false
set_option maxRecDepth 100000
namespace Mine

def numAt (ns : List Int) (i : Nat) : Int := if i < ns.length then (ns[i]?).getD 0 else 5 * i * (i - 1)
def apart (f a b : Int) : Int × Int := ((a % f - b % f).natAbs, (a / f - b / f).natAbs)
def touch (f a b : Int) : Bool := decide (max (apart f a b).1 (apart f a b).2 = 1)

section
variable {C : Ctx} (P : Prg C) {X : Store → Prop} {σ : Store}
include P

theorem s_number (ns : List Int) (hl : ns.length ≤ 63) (i : Nat) (hi : i < 100) : SemCall C 1 "_law_number" [.script ns, .int i] σ (fun v σ' => v = .int (numAt ns i) ∧ σ' = σ) X := by
  refine P.call P.f__law_number rfl ?_
  refine step fun K hK hR hC => ?_
  by_cases h : i < ns.length
  · have h' : (i : Int) < (ns.length : Int) := by omega
    have hg : ns[i]? = some ((ns[i]?).getD 0) := by simp [List.getElem?_eq_getElem h]
    simp [wpS, wpT, wpE, wpEs, wpB, cmpV, truthV, upd, h, wpItem, -Bool.exists_bool]
    refine ⟨by omega, by omega, ?_⟩
    refine hR _ _ _ ?_
    simp [numAt, h]
  · simp [wpS, wpT, wpE, wpEs, wpB, cmpV, truthV, upd, h, wpBin, -Bool.exists_bool]
    refine ⟨by omega, .inl (by omega), ?_⟩
    refine hR _ _ _ ?_
    simp [numAt, h]

theorem s_apart (f a b : Int) (hf : 0 < f ∧ f < 100) : SemCall C 1 "_law_apart" [.int f, .int a, .int b] σ (fun v σ' => v = .tup [.int (apart f a b).1, .int (apart f a b).2] ∧ σ' = σ) X := by
  refine P.call P.f__law_apart rfl ?_
  refine step fun K hK hR hC => ?_
  simp [wpS, wpE, wpEs, wpB, wpBin, upd]
  refine ⟨by omega, hR _ _ _ (by simp [apart])⟩

theorem s_touch (f a b : Int) (hf : 0 < f ∧ f < 100) : SemCall C 3 "_law_touch" [.int f, .int a, .int b] σ (fun v σ' => v = .bool (touch f a b) ∧ σ' = σ) X := by
  refine P.call P.f__law_touch rfl ?_
  have hc : (C.glb "_law_apart") = some (.fn "_law_apart") := by rw [P.glb]; rfl
  refine step fun K hK hR hC => ?_
  simp [wpS, wpE, wpEs, hc, upd, -Bool.exists_bool]
  refine SemCall.mono (s_apart P f a b hf) (fun v σ'' ⟨hv, hσ⟩ => ?_) fun _ h => h
  subst hv hσ
  simp only [wpB]
  refine ⟨[(apart f a b).1, (apart f a b).2], by simp [intsOf], by simp, by simp, fun M hM hle => ?_⟩
  have hMx : max (apart f a b).1 (apart f a b).2 = M := by
    have h1 := hle _ (List.mem_cons_self ..)
    have h2 := hle _ (List.mem_cons_of_mem _ (List.mem_cons_self ..))
    simp at hM
    omega
  refine ⟨_, rfl, hR _ _ _ ⟨?_, rfl⟩⟩
  unfold touch; rw [hMx]
def placeOf (s n : Int) : Int × Int × Int × Int := (n / s ^ 3 % 2, n / s ^ 2 % s, n / s % s, n % s)
theorem s_place (s n : Int) (hs : 0 < s ∧ s ≤ 100) : SemCall C 1 "_law_place" [.int s, .int n] σ (fun v σ' => v = .tup [.int (placeOf s n).1, .int (placeOf s n).2.1, .int (placeOf s n).2.2.1, .int (placeOf s n).2.2.2] ∧ σ' = σ) X := by
  refine P.call P.f__law_place rfl ?_
  refine step fun K hK hR hC => ?_
  have h2 : s ^ 2 = s * s := by rw [show (2 : Nat) = 0 + 1 + 1 from rfl, Int.pow_succ, Int.pow_succ, Int.pow_zero, Int.one_mul]
  have h3 : s ^ 3 = s * s * s := by rw [show (3 : Nat) = 2 + 1 from rfl, Int.pow_succ, h2]
  have p1 : 0 < s * s := Int.mul_pos hs.1 hs.1
  have p2 : 0 < s * s * s := Int.mul_pos p1 hs.1
  have q1 : s * s ≤ 100 * 100 := Int.mul_le_mul hs.2 hs.2 (by omega) (by omega)
  have q2 : s * s * s ≤ 100 * 100 * 100 := Int.mul_le_mul q1 hs.2 (by omega) (by omega)
  have h3' : s ^ (3 : Int).toNat = s * s * s := h3
  have h2' : s ^ (2 : Int).toNat = s * s := h2
  simp [wpS, wpE, wpEs, wpBin, upd, h2, h3]

  refine ⟨by omega, by omega, by omega, by omega, by omega, ?_⟩
  exact hR _ _ _ (by simp [placeOf, h2, h3])
end
end Mine

end

section
open PySem
set_option linter.unusedVariables false
set_option linter.unusedSimpArgs false
set_option maxRecDepth 100000
namespace Mine

/-! a walk by computing: the store is p objects that are not looked at, and L -/
abbrev Env := List (String × V)
def lk : Env → String → Option V
  | [], _ => none
  | (y, v) :: r, x => if x = y then some v else lk r x
def put : Env → String → V → Env
  | [], x, v => [(x, v)]
  | (y, w) :: r, x, v => if x = y then (y, v) :: r else (y, w) :: put r x v
theorem lk_put (e : Env) (x : String) (v : V) : lk (put e x v) = upd (lk e) x v := by
  funext z
  induction e with
  | nil => simp [put, lk, upd]
  | cons a r ih =>
    obtain ⟨y, w⟩ := a
    simp only [put]
    split
    · rename_i h; subst h
      simp only [lk, upd]
      split <;> rfl
    · rename_i h
      simp only [lk, ih, upd]
      split
      · rename_i h'; subst h'; rw [if_neg (fun h'' => h h''.symm)]
      · rfl
def bindE : List String → List V → Env → Option Env
  | [], [], m => some m
  | x :: xs, v :: vs, m => bindE xs vs (put m x v)
  | _, _, _ => none
theorem bindE_ok : ∀ {ps vs m m'}, bindE ps vs m = some m' → bindL ps vs (lk m) = some (lk m')
  | [], [], _, _, h => by cases h; rfl
  | x :: xs, v :: vs, m, m', h => by
    rw [bindE] at h
    rw [bindL, ← lk_put]; exact bindE_ok h
  | [], _ :: _, _, _, h => by cases h
  | _ :: _, [], _, _, h => by cases h

section
variable (p : Nat)
def oget (L : Store) (a : Nat) : Option AObj := if a < p then none else L[a - p]?
variable {p}
theorem oget_ok {L σ₀ : Store} (hp : σ₀.length = p) {a : Nat} {o : AObj} (h : oget p L a = some o) : (σ₀ ++ L)[a]? = some o := by
  unfold oget at h
  split at h
  · cases h
  · rw [List.getElem?_append_right (by omega), hp]; exact h
theorem oget_set {L σ₀ : Store} (hp : σ₀.length = p) {a : Nat} {o o' : AObj} (h : oget p L a = some o) : (σ₀ ++ L).set a o' = σ₀ ++ L.set (a - p) o' := by
  unfold oget at h
  split at h
  · cases h
  · rw [List.set_append_right _ _ (by omega), hp]

variable (p)
def binV (op : Operator) (v w : V) (L : Store) : Option (V × Store) :=
  match op, v, w with
  | .Add, .int a, .int b => some (.int (a + b), L)
  | .Sub, .int a, .int b => some (.int (a - b), L)
  | .Mult, .int a, .int b => if a.natAbs < 2 ^ 64 then some (.int (a * b), L) else none
  | .FloorDiv, .int a, .int b => if 0 < b ∧ b < 1073741824 then some (.int (a / b), L) else none
  | .LShift, .int a, .int b => if 0 ≤ b ∧ b ≤ 1000000 ∧ a.natAbs < 2 ^ 64 then some (.int (a * 2 ^ b.toNat), L) else none
  | .RShift, .int a, .int b => if 0 ≤ b then some (.int (a / 2 ^ b.toNat), L) else none
  | .BitAnd, .int a, .int b => some (.int (Builtin.bitAnd a b), L)
  | .BitOr, .int a, .int b => some (.int (Builtin.bitOr a b), L)
  | .Mult, .ref i, .int n => (match oget p L i with
    | some (.list [x]) => if 0 ≤ n ∧ n ≤ 1000000 then some (.ref (p + L.length), L ++ [.list (List.replicate n.toNat x)]) else none
    | _ => none)
  | _, _, _ => none
variable {p}
theorem len_app {L σ₀ : Store} (hp : σ₀.length = p) : (σ₀ ++ L).length = p + L.length := by simp [hp]

theorem binV_ok {op : Operator} {v w : V} {L L' σ₀ : Store} {r : V} (hp : σ₀.length = p) (h : binV p op v w L = some (r, L')) {Q : V → Store → Prop} (hq : Q r (σ₀ ++ L')) : wpBin op v w (σ₀ ++ L) Q := by
  unfold binV at h
  split at h
  · cases h; exact hq
  · cases h; exact hq
  · split at h
    · rename_i hc; cases h; exact ⟨.inl hc, hq⟩
    · cases h
  · split at h
    · rename_i hc; cases h; exact ⟨hc, hq⟩
    · cases h
  · split at h
    · rename_i hc; cases h; exact ⟨hc, hq⟩
    · cases h
  · split at h
    · rename_i hc; cases h; exact ⟨hc, hq⟩
    · cases h
  · cases h; exact hq
  · cases h; exact hq
  · split at h
    · rename_i ho
      split at h
      · rename_i hc; cases h
        refine ⟨_, oget_ok hp ho, hc, ?_⟩
        rw [len_app hp, List.append_assoc]; exact hq
      · cases h
    · cases h
  · cases h

def cmpI (op : CmpOp) (v w : V) : Option Bool :=
  match op, v, w with
  | .Eq, .int a, .int b => some (decide (a = b))
  | .Lt, .int a, .int b => some (decide (a < b))
  | .Gt, .int a, .int b => some (decide (b < a))
  | .GtE, .int a, .int b => some (decide (b ≤ a))
  | _, _, _ => none
theorem cmpI_ok {op : CmpOp} {v w : V} {r : Bool} {σ : Store} (h : cmpI op v w = some r) : cmpV σ op v w = some r := by
  unfold cmpI at h
  split at h <;> first | (cases h; done) | (rw [← h]; rfl)

variable (p)
def itemV (v w : V) (L : Store) : Option V :=
  match v, w with
  | .tup xs, .int k => if k < 2 ^ 63 ∧ 0 ≤ k then xs[k.toNat]? else none
  | .ref i, .int k => (match oget p L i with
    | some (.list xs) => if k < 2 ^ 63 ∧ 0 ≤ k then xs[k.toNat]? else none
    | _ => none)
  | _, _ => none
variable {p}
theorem itemV_ok {v w x : V} {L σ₀ : Store} (hp : σ₀.length = p) (h : itemV p v w L = some x) {Q : V → Prop} (hq : Q x) : wpItem v w (σ₀ ++ L) Q := by
  unfold itemV at h
  split at h
  · split at h
    · rename_i hc; exact ⟨hc.1, hc.2, x, h, hq⟩
    · cases h
  · split at h
    · rename_i ho
      split at h
      · rename_i hc
        simp only [wpItem, oget_ok hp ho]
        exact ⟨hc.1, hc.2, x, h, hq⟩
      · cases h
    · cases h
  · cases h
variable (p)
def attrV (v : V) (n : String) (L : Store) : Option V :=
  match v with
  | .ref i => (match oget p L i with
    | some (.inst c d) => (match oget p L d with
      | some (.ns f) => if c = "Geometry" ∧ geoAttrs.contains n = true then (match f n with
        | some x => if isFnV x = false then some x else none
        | none => none) else none
      | _ => none)
    | _ => none)
  | _ => none
variable {p}
theorem attrV_ok {v x : V} {n : String} {L σ₀ : Store} (hp : σ₀.length = p) (h : attrV p v n L = some x) {Q : V → Prop} (hq : Q x) : wpAttr v n (σ₀ ++ L) Q := by
  unfold attrV at h
  split at h
  · split at h
    · rename_i ho
      split at h
      · rename_i hn
        split at h
        · rename_i hc
          split at h
          · rename_i hf
            split at h
            · rename_i hx
              cases h
              obtain ⟨rfl, hg⟩ := hc
              simp only [wpAttr, oget_ok hp ho, oget_ok hp hn]
              exact ⟨hg, _, hf, hx, hq⟩
            · cases h
          · cases h
        · cases h
      · cases h
    · cases h
  · cases h

variable (p)
def setItemE (va vi v : V) (L : Store) : Option Store := match va, vi with
  | .ref i, .int k => (match oget p L i with
    | some (.list xs) => if 0 ≤ k ∧ k < xs.length ∧ xs.length < 1000000 then some (L.set (i - p) (.list (xs.set k.toNat v))) else none
    | _ => none)
  | _, _ => none
def setAttrE (va : V) (a : String) (v : V) (L : Store) : Option Store := match va with
  | .ref i => (match oget p L i with
    | some (.inst c d) => (match oget p L d with
      | some (.ns f) => if c = "Geometry" ∧ geoAttrs.contains a = true then some (L.set (d - p) (.ns (fun y => if y = a then some v else f y))) else none
      | _ => none)
    | _ => none)
  | _ => none
def appendE (va v : V) (L : Store) : Option Store := match va with
  | .ref i => (match oget p L i with
    | some (.list xs) => if xs.length < 1000000 then some (L.set (i - p) (.list (xs ++ [v]))) else none
    | _ => none)
  | _ => none
def isListE (va : V) (L : Store) : Bool := match va with
  | .ref i => (match oget p L i with
    | some (.list xs) => true
    | _ => false)
  | _ => false
variable {p}
theorem setItemE_ok {va vi v : V} {L L' σ₀ : Store} (hp : σ₀.length = p) (h : setItemE p va vi v L = some L') : setItemV (σ₀ ++ L) va vi v = some (σ₀ ++ L') := by
  unfold setItemE at h
  split at h
  · split at h
    · rename_i ho
      split at h
      · rename_i hc
        cases h
        simp only [setItemV, oget_ok hp ho, hc]
        simp [oget_set hp ho]
      · cases h
    · cases h
  · cases h
theorem setAttrE_ok {va v : V} {a : String} {L L' σ₀ : Store} (hp : σ₀.length = p) (h : setAttrE p va a v L = some L') : setAttrV (σ₀ ++ L) va a v = some (σ₀ ++ L') := by
  unfold setAttrE at h
  split at h
  · split at h
    · rename_i ho
      split at h
      · rename_i hn
        split at h
        · rename_i hc
          cases h
          obtain ⟨rfl, hg⟩ := hc
          simp only [setAttrV, oget_ok hp ho, oget_ok hp hn, hg]
          simp [oget_set hp hn]
        · cases h
      · cases h
    · cases h
  · cases h
theorem appendE_ok {va v : V} {L L' σ₀ : Store} (hp : σ₀.length = p) (h : appendE p va v L = some L') : appendV (σ₀ ++ L) va v = some (σ₀ ++ L') := by
  unfold appendE at h
  split at h
  · split at h
    · rename_i ho
      split at h
      · rename_i hc
        cases h
        simp only [appendV, oget_ok hp ho, hc]
        simp [oget_set hp ho]
      · cases h
    · cases h
  · cases h
theorem isListE_ok {va : V} {L σ₀ : Store} (hp : σ₀.length = p) (h : isListE p va L = true) : isListV (σ₀ ++ L) va := by
  unfold isListE at h
  split at h
  · split at h
    · rename_i ho
      exact ⟨_, _, rfl, oget_ok hp ho⟩
    · cases h
  · cases h
end
end Mine

end

section
open PySem
set_option linter.unusedVariables false
set_option linter.unusedSimpArgs false
set_option maxRecDepth 100000
namespace Mine

def bodyOf (f : String) : Option (List String × List S) :=
  if f = "is_growing" then some (["d"], b_is_growing)
  else if f = "add_masks" then some (["geo"], b_add_masks)
  else if f = "inner_squares" then some (["geo", "d"], b_inner_squares)
  else if f = "add_rays" then some (["geo"], b_add_rays)
  else if f = "add_pawns" then some (["geo"], b_add_pawns)
  else if f = "add_knights" then some (["geo"], b_add_knights)
  else if f = "add_castles" then some (["geo"], b_add_castles)
  else if f = "make_geometry" then some (["files", "ranks", "has_double", "has_castling"], b_make_geometry)
  else none
theorem bodyOf_ok {C : Ctx} (P : Prg C) {f : String} {ps : List String} {b : List S} (h : bodyOf f = some (ps, b)) : FnOk C f ps b := by
  unfold bodyOf at h
  split at h
  · rename_i e; subst e; cases h; exact P.f_is_growing
  split at h
  · rename_i e; subst e; cases h; exact P.f_add_masks
  split at h
  · rename_i e; subst e; cases h; exact P.f_inner_squares
  split at h
  · rename_i e; subst e; cases h; exact P.f_add_rays
  split at h
  · rename_i e; subst e; cases h; exact P.f_add_pawns
  split at h
  · rename_i e; subst e; cases h; exact P.f_add_knights
  split at h
  · rename_i e; subst e; cases h; exact P.f_add_castles
  split at h
  · rename_i e; subst e; cases h; exact P.f_make_geometry
  cases h

mutual
def evE (p : Nat) : Nat → Nat → E → Env → Store → Option (V × Store)
  | 0, _, _, _, _ => none
  | k + 1, n, e, m, L => match e with
    | .cint i => some (.int i, L)
    | .cbool i => some (.bool i, L)
    | .cnone => some (.none, L)
    | .loc x => (match lk m x with
      | some v => some (v, L)
      | none => none)
    | .glob x => (match glbTab x with
      | some v => some (v, L)
      | none => none)
    | .bin op a b => (match evE p k n a m L with
      | some (va, L1) => (match evE p k n b m L1 with
        | some (vb, L2) => binV p op va vb L2
        | none => none)
      | none => none)
    | .neg a => (match evE p k n a m L with
      | some (.int i, L1) => some (.int (-i), L1)
      | _ => none)
    | .inv a => (match evE p k n a m L with
      | some (.int i, L1) => some (.int (Builtin.bitNot i), L1)
      | _ => none)
    | .cmp op a b => (match evE p k n a m L with
      | some (va, L1) => (match evE p k n b m L1 with
        | some (vb, L2) => (match cmpI op va vb with
          | some r => some (.bool r, L2)
          | none => none)
        | none => none)
      | none => none)
    | .all es => evAll p k n es m L
    | .any es => evAny p k n es m L
    | .call f as => (match evE p k n f m L with
      | some (.fn g, L1) => (match evEs p k n as m L1 with
        | some (vs, L2) => (match n with
          | n' + 1 => evC p k n' g vs L2
          | 0 => none)
        | none => none)
      | _ => none)
    | .bcall f as => (match evEs p k n as m L with
      | some ([.int b], L1) => if f = "range" ∧ b.natAbs < 2 ^ 40 then some (.rng 0 b 1, L1) else none
      | some ([.int a, .int b, .int c], L1) => if f = "range" ∧ a.natAbs < 2 ^ 40 ∧ b.natAbs < 2 ^ 40 ∧ c = -1 then some (.rng a b c, L1) else none
      | _ => none)
    | .attr x a => (match lk m x with
      | some v => (match attrV p v a L with
        | some y => some (y, L)
        | none => none)
      | none => none)
    | .sub a i => (match evE p k n a m L with
      | some (va, L1) => (match evE p k n i m L1 with
        | some (vi, L2) => (match itemV p va vi L2 with
          | some y => some (y, L2)
          | none => none)
        | none => none)
      | none => none)
    | .tup es => (match evEs p k n es m L with
      | some (vs, L1) => some (.tup vs, L1)
      | none => none)
    | .lst es => (match evEs p k n es m L with
      | some (vs, L1) => some (.ref (p + L1.length), L1 ++ [.list vs])
      | none => none)
    | _ => none
def evEs (p : Nat) : Nat → Nat → List E → Env → Store → Option (List V × Store)
  | 0, _, _, _, _ => none
  | k + 1, n, es, m, L => match es with
    | [] => some ([], L)
    | e :: r => (match evE p k n e m L with
      | some (v, L1) => (match evEs p k n r m L1 with
        | some (vs, L2) => some (v :: vs, L2)
        | none => none)
      | none => none)
def evAll (p : Nat) : Nat → Nat → List E → Env → Store → Option (V × Store)
  | 0, _, _, _, _ => none
  | k + 1, n, es, m, L => match es with
    | [] => none
    | [e] => evE p k n e m L
    | e :: r => (match evE p k n e m L with
      | some (v, L1) => (match truthV v with
        | some b => if b then evAll p k n r m L1 else some (v, L1)
        | none => none)
      | none => none)
def evAny (p : Nat) : Nat → Nat → List E → Env → Store → Option (V × Store)
  | 0, _, _, _, _ => none
  | k + 1, n, es, m, L => match es with
    | [] => none
    | [e] => evE p k n e m L
    | e :: r => (match evE p k n e m L with
      | some (v, L1) => (match truthV v with
        | some b => if b then some (v, L1) else evAny p k n r m L1
        | none => none)
      | none => none)
def evT (p : Nat) : Nat → Nat → E → Env → Store → Option (Bool × Store)
  | 0, _, _, _, _ => none
  | k + 1, n, e, m, L => match e with
    | .not _ => none
    | .all es => evTAll p k n es m L
    | .any es => evTAny p k n es m L
    | .ite .. => none
    | e => (match evE p k n e m L with
      | some (v, L1) => (match truthV v with
        | some b => some (b, L1)
        | none => none)
      | none => none)
def evTAll (p : Nat) : Nat → Nat → List E → Env → Store → Option (Bool × Store)
  | 0, _, _, _, _ => none
  | k + 1, n, es, m, L => match es with
    | [] => some (true, L)
    | e :: r => (match evT p k n e m L with
      | some (b, L1) => if b then evTAll p k n r m L1 else some (false, L1)
      | none => none)
def evTAny (p : Nat) : Nat → Nat → List E → Env → Store → Option (Bool × Store)
  | 0, _, _, _, _ => none
  | k + 1, n, es, m, L => match es with
    | [] => some (false, L)
    | e :: r => (match evT p k n e m L with
      | some (b, L1) => if b then some (true, L1) else evTAny p k n r m L1
      | none => none)
def evC (p : Nat) : Nat → Nat → String → List V → Store → Option (V × Store)
  | 0, _, _, _, _ => none
  | k + 1, n, f, vs, L =>
    if f = "Geometry" then (match n with
      | n' + 4 => (match bindE ["self", "files", "ranks", "has_double", "has_castling"] (.ref (p + L.length + 1) :: vs) [] with
        | some m => (match evSs p k n' b_Geometry_init m (L ++ [.ns fun _ => none] ++ [.inst "Geometry" (p + L.length)]) with
          | some (.next, _, L1) => some (.ref (p + L.length + 1), L1)
          | _ => none)
        | none => none)
      | _ => none)
    else (match n with
      | n' + 1 => (match bodyOf f with
        | some (ps, b) => (match bindE ps vs [] with
          | some m => (match evSs p k n' b m L with
            | some (.ret v, _, L1) => some (v, L1)
            | some (.next, _, L1) => some (.none, L1)
            | _ => none)
          | none => none)
        | none => none)
      | 0 => none)
def evS (p : Nat) : Nat → Nat → S → Env → Store → Option (Fl × Env × Store)
  | 0, _, _, _, _ => none
  | k + 1, n, s, m, L => match s with
    | .assign t e => (match evE p k n e m L with
      | some (v, L1) => (match t with
        | .name x => some (.next, put m x v, L1)
        | .tup _ => none
        | .sub a i => (match evE p k n a m L1 with
          | some (va, L2) => (match evE p k n i m L2 with
            | some (vi, L3) => (match setItemE p va vi v L3 with
              | some L4 => some (.next, m, L4)
              | none => none)
            | none => none)
          | none => none)
        | .attr x a => (match lk m x with
          | some va => (match setAttrE p va a v L1 with
            | some L2 => some (.next, m, L2)
            | none => none)
          | none => none))
      | none => none)
    | .aug x op e => (match op, lk m x with
      | .BitOr, some (.int a) => (match evE p k n e m L with
        | some (.int b, L1) => some (.next, put m x (.int (Builtin.bitOr a b)), L1)
        | _ => none)
      | _, _ => none)
    | .augsub a i op e => (match op with
      | .BitOr => (match evE p k n a m L with
        | some (va, L1) => (match evE p k n i m L1 with
          | some (vi, L2) => (match itemV p va vi L2 with
            | some (.int old) => (match evE p k n e m L2 with
              | some (.int b, L3) => (match setItemE p va vi (.int (Builtin.bitOr old b)) L3 with
                | some L4 => some (.next, m, L4)
                | none => none)
              | _ => none)
            | _ => none)
          | none => none)
        | none => none)
      | _ => none)
    | .expr e => (match evE p k n e m L with
      | some (_, L1) => some (.next, m, L1)
      | none => none)
    | .append a e => (match evE p k n a m L with
      | some (va, L1) => if isListE p va L1 then (match evE p k n e m L1 with
        | some (v, L2) => (match appendE p va v L2 with
          | some L3 => some (.next, m, L3)
          | none => none)
        | none => none) else none
      | none => none)
    | .ite t b o => (match evT p k n t m L with
      | some (c, L1) => if c then evSs p k n b m L1 else evSs p k n o m L1
      | none => none)
    | .for t src body => (match t with
      | .name x => (match evE p k n src m L with
        | some (.rng a b c, L1) => evFor p k n x body ((rngList a b c).map .int) m L1
        | _ => none)
      | _ => none)
    | .ret e => (match evE p k n e m L with
      | some (v, L1) => some (.ret v, m, L1)
      | none => none)
    | .pass => some (.next, m, L)
    | _ => none
def evSs (p : Nat) : Nat → Nat → List S → Env → Store → Option (Fl × Env × Store)
  | 0, _, _, _, _ => none
  | k + 1, n, ss, m, L => match ss with
    | [] => some (.next, m, L)
    | s :: r => (match evS p k n s m L with
      | some (.next, m1, L1) => evSs p k n r m1 L1
      | some (fl, m1, L1) => some (fl, m1, L1)
      | none => none)
def evFor (p : Nat) : Nat → Nat → String → List S → List V → Env → Store → Option (Fl × Env × Store)
  | 0, _, _, _, _, _, _ => none
  | k + 1, n, x, body, items, m, L => match items with
    | [] => some (.next, m, L)
    | v :: r => (match evSs p k n body (put m x v) L with
      | some (.ret v, m1, L1) => some (.ret v, m1, L1)
      | some (_, m1, L1) => evFor p k n x body r m1 L1
      | none => none)
end

end Mine

end

section
open PySem
set_option linter.unusedVariables false
set_option linter.unusedSimpArgs false
set_option maxRecDepth 100000
namespace Mine

section
variable (C : Ctx) (p k : Nat) (σ₀ : Store) (X : Store → Prop)
def SndE := ∀ n e m L v L', evE p k n e m L = some (v, L') → ∀ Q : V → Store → Prop, Q v (σ₀ ++ L') → wpE C n X e (lk m) (σ₀ ++ L) Q
def SndEs := ∀ n e m L v L', evEs p k n e m L = some (v, L') → ∀ Q : List V → Store → Prop, Q v (σ₀ ++ L') → wpEs C n X e (lk m) (σ₀ ++ L) Q
def SndAll := ∀ n e m L v L', evAll p k n e m L = some (v, L') → ∀ Q : V → Store → Prop, Q v (σ₀ ++ L') → wpAll C n X e (lk m) (σ₀ ++ L) Q
def SndAny := ∀ n e m L v L', evAny p k n e m L = some (v, L') → ∀ Q : V → Store → Prop, Q v (σ₀ ++ L') → wpAnyL C n X e (lk m) (σ₀ ++ L) Q
def SndT := ∀ n e m L v L', evT p k n e m L = some (v, L') → ∀ Q : Bool → Store → Prop, Q v (σ₀ ++ L') → wpT C n X e (lk m) (σ₀ ++ L) Q
def SndTAll := ∀ n e m L v L', evTAll p k n e m L = some (v, L') → ∀ Q : Bool → Store → Prop, Q v (σ₀ ++ L') → wpTAll C n X e (lk m) (σ₀ ++ L) Q
def SndTAny := ∀ n e m L v L', evTAny p k n e m L = some (v, L') → ∀ Q : Bool → Store → Prop, Q v (σ₀ ++ L') → wpTAny C n X e (lk m) (σ₀ ++ L) Q
def SndC := ∀ n f vs L v L', evC p k n f vs L = some (v, L') → ∀ Q : V → Store → Prop, Q v (σ₀ ++ L') → SemCall C n f vs (σ₀ ++ L) Q X
def SndS := ∀ n s m L fl m' L', evS p k n s m L = some (fl, m', L') → ∀ Q : Fl → Loc → Store → Prop, Q fl (lk m') (σ₀ ++ L') → wpS C n X s (lk m) (σ₀ ++ L) Q
def SndSs := ∀ n s m L fl m' L', evSs p k n s m L = some (fl, m', L') → ∀ Q : Fl → Loc → Store → Prop, Q fl (lk m') (σ₀ ++ L') → wpSs C n X s (lk m) (σ₀ ++ L) Q
def SndFor := ∀ n x b r m L fl m' L', evFor p k n x b r m L = some (fl, m', L') → ∀ (src : V) (items : List V), (∀ σ, srcItems σ src = some items) → ∀ Q : Fl → Loc → Store → Prop, Q fl (lk m') (σ₀ ++ L') →
  forW src items (bndT (.name x)) (fun m σ Q => wpSs C n X b m σ Q) r (lk m) (σ₀ ++ L) Q
structure Snd : Prop where
  e : SndE C p k σ₀ X
  es : SndEs C p k σ₀ X
  all : SndAll C p k σ₀ X
  any : SndAny C p k σ₀ X
  t : SndT C p k σ₀ X
  tall : SndTAll C p k σ₀ X
  tany : SndTAny C p k σ₀ X
  c : SndC C p k σ₀ X
  s : SndS C p k σ₀ X
  ss : SndSs C p k σ₀ X
  f : SndFor C p k σ₀ X
end

section
variable {C : Ctx} (P : Prg C) {p k : Nat} {σ₀ : Store} {X : Store → Prop} (hp : σ₀.length = p) (ih : Snd C p k σ₀ X)
include ih
theorem snd_es : SndEs C p (k + 1) σ₀ X := by
  intro n es m L v L' h Q hQ
  cases es with
  | nil => rw [evEs] at h; cases h; rw [wpEs]; exact hQ
  | cons e r =>
    rw [evEs] at h
    split at h
    · rename_i h1
      split at h
      · rename_i h2
        cases h
        rw [wpEs]
        exact ih.e _ _ _ _ _ _ h1 _ (ih.es _ _ _ _ _ _ h2 _ hQ)
      · cases h
    · cases h
theorem snd_all : SndAll C p (k + 1) σ₀ X := by
  intro n es m L v L' h Q hQ
  match es, h with
  | [], h => rw [evAll] at h; cases h
  | [e], h => rw [evAll] at h; rw [wpAll]; exact ih.e _ _ _ _ _ _ h _ hQ
  | e :: e' :: r, h =>
    rw [evAll] at h
    · split at h
      · rename_i h1
        split at h
        · rename_i hb
          rw [wpAll]
          refine ih.e _ _ _ _ _ _ h1 _ ⟨_, hb, ?_⟩
          split at h
          · rename_i hc; rw [if_pos hc]; exact ih.all _ _ _ _ _ _ h _ hQ
          · rename_i hc; cases h; rw [if_neg hc]; exact hQ
          simp
        · cases h
      · cases h
    · simp
theorem snd_any : SndAny C p (k + 1) σ₀ X := by
  intro n es m L v L' h Q hQ
  match es, h with
  | [], h => rw [evAny] at h; cases h
  | [e], h => rw [evAny] at h; rw [wpAnyL]; exact ih.e _ _ _ _ _ _ h _ hQ
  | e :: e' :: r, h =>
    rw [evAny] at h
    · split at h
      · rename_i h1
        split at h
        · rename_i hb
          rw [wpAnyL]
          refine ih.e _ _ _ _ _ _ h1 _ ⟨_, hb, ?_⟩
          split at h
          · rename_i hc; cases h; rw [if_pos hc]; exact hQ
          · rename_i hc; rw [if_neg hc]; exact ih.any _ _ _ _ _ _ h _ hQ
          simp
        · cases h
      · cases h
    · simp
theorem snd_tall : SndTAll C p (k + 1) σ₀ X := by
  intro n es m L v L' h Q hQ
  cases es with
  | nil => rw [evTAll] at h; cases h; rw [wpTAll]; exact hQ
  | cons e r =>
    rw [evTAll] at h
    split at h
    · rename_i h1
      rw [wpTAll]
      refine ih.t _ _ _ _ _ _ h1 _ ?_
      split at h
      · rename_i hc; rw [if_pos hc]; exact ih.tall _ _ _ _ _ _ h _ hQ
      · rename_i hc; cases h; rw [if_neg hc]; exact hQ
    · cases h
theorem snd_tany : SndTAny C p (k + 1) σ₀ X := by
  intro n es m L v L' h Q hQ
  cases es with
  | nil => rw [evTAny] at h; cases h; rw [wpTAny]; exact hQ
  | cons e r =>
    rw [evTAny] at h
    split at h
    · rename_i h1
      rw [wpTAny]
      refine ih.t _ _ _ _ _ _ h1 _ ?_
      split at h
      · rename_i hc; cases h; rw [if_pos hc]; exact hQ
      · rename_i hc; rw [if_neg hc]; exact ih.tany _ _ _ _ _ _ h _ hQ
    · cases h
theorem snd_t : SndT C p (k + 1) σ₀ X := by
  intro n e m L v L' h Q hQ
  have fin : ∀ e, (match evE p k n e m L with
      | some (v, L1) => (match truthV v with
        | some b => some (b, L1)
        | none => none)
      | none => none) = some (v, L') → wpE C n X e (lk m) (σ₀ ++ L) fun v σ₁ => ∃ b, truthV v = some b ∧ Q b σ₁ := by
    intro e h
    split at h
    · rename_i h1
      split at h
      · rename_i hb
        cases h
        exact ih.e _ _ _ _ _ _ h1 _ ⟨_, hb, hQ⟩
      · cases h
    · cases h
  cases e <;> simp only [evT, reduceCtorEq] at h
  case all => rw [wpT]; exact ih.tall _ _ _ _ _ _ h _ hQ
  case any => rw [wpT]; exact ih.tany _ _ _ _ _ _ h _ hQ
  all_goals (simp only [wpT]; exact fin _ h)
include hp P
theorem snd_e : SndE C p (k + 1) σ₀ X := by
  intro n e m L v L' h Q hQ
  cases e <;> simp only [evE, reduceCtorEq] at h
  case cint => cases h; rw [wpE]; exact hQ
  case cbool => cases h; rw [wpE]; exact hQ
  case cnone => cases h; rw [wpE]; exact hQ
  case loc x =>
    split at h
    · rename_i hv; cases h; rw [wpE]; exact ⟨_, hv, hQ⟩
    · cases h
  case glob x =>
    split at h
    · rename_i hv; cases h; rw [wpE, P.glb]; exact ⟨_, hv, hQ⟩
    · cases h
  case bin op a b =>
    split at h
    · rename_i h1
      split at h
      · rename_i h2
        rw [wpE]
        exact ih.e _ _ _ _ _ _ h1 _ (ih.e _ _ _ _ _ _ h2 _ (binV_ok hp h hQ))
      · cases h
    · cases h
  case neg a =>
    split at h
    · rename_i h1
      cases h
      rw [wpE]
      exact ih.e _ _ _ _ _ _ h1 _ ⟨_, rfl, hQ⟩
    · cases h
  case inv a =>
    split at h
    · rename_i h1
      cases h
      rw [wpE]
      exact ih.e _ _ _ _ _ _ h1 _ ⟨_, rfl, hQ⟩
    · cases h
  case cmp op a b =>
    split at h
    · rename_i h1
      split at h
      · rename_i h2
        split at h
        · rename_i h3
          cases h
          rw [wpE]
          exact ih.e _ _ _ _ _ _ h1 _ (ih.e _ _ _ _ _ _ h2 _ ⟨_, cmpI_ok h3, hQ⟩)
        · cases h
      · cases h
    · cases h
  case all es => rw [wpE]; exact ih.all _ _ _ _ _ _ h _ hQ
  case any es => rw [wpE]; exact ih.any _ _ _ _ _ _ h _ hQ
  case call f as =>
    split at h
    · rename_i h1
      split at h
      · rename_i h2
        split at h
        · rename_i n'
          rw [wpE]
          exact ih.e _ _ _ _ _ _ h1 _ (ih.es _ _ _ _ _ _ h2 _ ⟨_, n', rfl, rfl, ih.c _ _ _ _ _ _ h _ hQ⟩)
        · cases h
      · cases h
    · cases h
  case bcall f as =>
    rw [wpE]
    split at h
    · rename_i h1
      split at h
      · rename_i hc
        cases h
        obtain ⟨rfl, hb⟩ := hc
        exact ih.es _ _ _ _ _ _ h1 _ ⟨hb, hQ⟩
      · cases h
    · rename_i h1
      split at h
      · rename_i hc
        cases h
        obtain ⟨rfl, hb⟩ := hc
        exact ih.es _ _ _ _ _ _ h1 _ ⟨hb, hQ⟩
      · cases h
    · cases h
  case attr x a =>
    split at h
    · rename_i h1
      split at h
      · rename_i h2
        cases h
        rw [wpE]
        exact ⟨_, h1, attrV_ok hp h2 hQ⟩
      · cases h
    · cases h
  case sub a i =>
    split at h
    · rename_i h1
      split at h
      · rename_i h2
        split at h
        · rename_i h3
          cases h
          rw [wpE]
          exact ih.e _ _ _ _ _ _ h1 _ (ih.e _ _ _ _ _ _ h2 _ (itemV_ok hp h3 hQ))
        · cases h
      · cases h
    · cases h
  case tup es =>
    split at h
    · rename_i h1
      cases h
      rw [wpE]
      exact ih.es _ _ _ _ _ _ h1 _ hQ
    · cases h
  case lst es =>
    split at h
    · rename_i h1
      cases h
      rw [wpE]
      refine ih.es _ _ _ _ _ _ h1 _ ?_
      rw [len_app hp, List.append_assoc]; exact hQ
    · cases h

omit hp P in
theorem snd_ss : SndSs C p (k + 1) σ₀ X := by
  intro n ss m L fl m' L' h Q hQ
  cases ss with
  | nil => rw [evSs] at h; cases h; rw [wpSs]; exact hQ
  | cons s r =>
    rw [evSs] at h
    rw [wpSs]
    split at h
    · rename_i h1
      exact ih.s _ _ _ _ _ _ _ h1 _ (ih.ss _ _ _ _ _ _ _ h _ hQ)
    · rename_i hn h1
      cases h
      refine ih.s _ _ _ _ _ _ _ h1 _ ?_
      cases fl
      · exact (hn rfl).elim
      · exact hQ
      · exact hQ
    · cases h

omit hp P in
theorem snd_f : SndFor C p (k + 1) σ₀ X := by
  intro n x b r m L fl m' L' h src items hs Q hQ
  cases r with
  | nil => rw [evFor] at h; cases h; exact ⟨hs _, hQ⟩
  | cons v r =>
    rw [evFor] at h
    refine ⟨hs _, _, rfl, ?_⟩
    rw [← lk_put]
    split at h
    · rename_i h1
      cases h
      exact ih.ss _ _ _ _ _ _ _ h1 _ hQ
    · rename_i fl1 m1 L1 hn h1
      refine ih.ss _ _ _ _ _ _ _ h1 _ ?_
      cases fl1
      · exact ih.f _ _ _ _ _ _ _ _ _ h src items hs Q hQ
      · exact ih.f _ _ _ _ _ _ _ _ _ h src items hs Q hQ
      · exact absurd rfl (hn _)
    · cases h

theorem snd_c : SndC C p (k + 1) σ₀ X := by
  intro n f vs L v L' h Q hQ
  rw [evC.eq_def] at h
  simp only at h
  split at h
  · rename_i hf
    subst hf
    split at h
    · rename_i n'
      split at h
      · rename_i hb
        split at h
        · rename_i h1
          cases h
          rw [← len_app hp] at hb h1 hQ
          refine P.geo n' vs _ Q X _ (bindE_ok hb) ?_
          rw [List.append_assoc, List.append_assoc, ← List.append_assoc L]
          exact ih.ss _ _ _ _ _ _ _ h1 _ ⟨rfl, hQ⟩
        · cases h
      · cases h
    · cases h
  · split at h
    · rename_i n'
      split at h
      · rename_i hbd
        split at h
        · rename_i hb
          refine P.call (bodyOf_ok P hbd) (bindE_ok hb) ?_
          split at h
          · rename_i h1; cases h; exact ih.ss _ _ _ _ _ _ _ h1 _ hQ
          · rename_i h1; cases h; exact ih.ss _ _ _ _ _ _ _ h1 _ hQ
          · cases h
        · cases h
      · cases h
    · cases h
end
end Mine

end

section
open PySem
set_option linter.unusedVariables false
set_option linter.unusedSimpArgs false
set_option maxRecDepth 100000
namespace Mine
section
variable {C : Ctx} (P : Prg C) {p k : Nat} {σ₀ : Store} {X : Store → Prop} (hp : σ₀.length = p) (ih : Snd C p k σ₀ X)
include ih hp
theorem snd_s : SndS C p (k + 1) σ₀ X := by
  intro n s m L fl m' L' h Q hQ
  rw [evS.eq_def] at h
  cases s <;> simp only [reduceCtorEq] at h
  case assign t e =>
    split at h
    · rename_i h1
      rw [wpS]
      refine ih.e _ _ _ _ _ _ h1 _ ?_
      cases t <;> simp only [reduceCtorEq] at h
      case name x => cases h; rw [wpAssign, ← lk_put]; exact hQ
      case sub a i =>
        split at h
        · rename_i h2
          split at h
          · rename_i h3
            split at h
            · rename_i h4
              cases h
              rw [wpAssign]
              exact ih.e _ _ _ _ _ _ h2 _ (ih.e _ _ _ _ _ _ h3 _ ⟨_, setItemE_ok hp h4, hQ⟩)
            · cases h
          · cases h
        · cases h
      case attr x a =>
        split at h
        · rename_i h2
          split at h
          · rename_i h3
            cases h
            rw [wpAssign]
            exact ⟨_, h2, _, setAttrE_ok hp h3, hQ⟩
          · cases h
        · cases h
    · cases h
  case aug x op e =>
    split at h
    · rename_i h1
      split at h
      · rename_i h2
        cases h
        rw [wpS]
        refine ⟨_, h1, ih.e _ _ _ _ _ _ h2 _ ?_⟩
        rw [wpAug, ← lk_put]; exact hQ
      · cases h
    · cases h
  case augsub a i op e =>
    split at h
    · split at h
      · rename_i h1
        split at h
        · rename_i h2
          split at h
          · rename_i h3
            split at h
            · rename_i h4
              split at h
              · rename_i h5
                cases h
                rw [wpS]
                refine ih.e _ _ _ _ _ _ h1 _ (ih.e _ _ _ _ _ _ h2 _ (itemV_ok hp h3 (ih.e _ _ _ _ _ _ h4 _ ?_)))
                rw [wpAug]
                exact ⟨_, setItemE_ok hp h5, hQ⟩
              · cases h
            · cases h
          · cases h
        · cases h
      · cases h
    · cases h
  case expr e =>
    split at h
    · rename_i h1; cases h; rw [wpS]; exact ih.e _ _ _ _ _ _ h1 _ hQ
    · cases h
  case append a e =>
    split at h
    · rename_i h1
      split at h
      · rename_i hl
        split at h
        · rename_i h2
          split at h
          · rename_i h3
            cases h
            rw [wpS]
            exact ih.e _ _ _ _ _ _ h1 _ ⟨isListE_ok hp hl, ih.e _ _ _ _ _ _ h2 _ ⟨_, appendE_ok hp h3, hQ⟩⟩
          · cases h
        · cases h
      · cases h
    · cases h
  case ite t b o =>
    split at h
    · rename_i h1
      rw [wpS]
      refine ih.t _ _ _ _ _ _ h1 _ ?_
      split at h
      · rename_i hc; rw [if_pos hc]; exact ih.ss _ _ _ _ _ _ _ h _ hQ
      · rename_i hc; rw [if_neg hc]; exact ih.ss _ _ _ _ _ _ _ h _ hQ
    · cases h
  case «for» t src body =>
    cases t <;> simp only [reduceCtorEq] at h
    case name x =>
      split at h
      · rename_i h1
        rw [wpS]
        exact ih.e _ _ _ _ _ _ h1 _ ⟨_, rfl, ih.f _ _ _ _ _ _ _ _ _ h _ _ (fun _ => rfl) Q hQ⟩
      · cases h
  case ret e =>
    split at h
    · rename_i h1; cases h; rw [wpS]; exact ih.e _ _ _ _ _ _ h1 _ hQ
    · cases h
  case pass => cases h; rw [wpS]; exact hQ
end

theorem snd {C : Ctx} (P : Prg C) {p : Nat} {σ₀ : Store} {X : Store → Prop} (hp : σ₀.length = p) : ∀ k, Snd C p k σ₀ X
  | 0 => ⟨fun _ _ _ _ _ _ h => by simp only [evE, reduceCtorEq] at h, fun _ _ _ _ _ _ h => by simp only [evEs, reduceCtorEq] at h, fun _ _ _ _ _ _ h => by simp only [evAll, reduceCtorEq] at h, fun _ _ _ _ _ _ h => by simp only [evAny, reduceCtorEq] at h,
    fun _ _ _ _ _ _ h => by simp only [evT, reduceCtorEq] at h, fun _ _ _ _ _ _ h => by simp only [evTAll, reduceCtorEq] at h, fun _ _ _ _ _ _ h => by simp only [evTAny, reduceCtorEq] at h, fun _ _ _ _ _ _ h => by simp only [evC, reduceCtorEq] at h,
    fun _ _ _ _ _ _ _ h => by simp only [evS, reduceCtorEq] at h, fun _ _ _ _ _ _ _ h => by simp only [evSs, reduceCtorEq] at h, fun _ _ _ _ _ _ _ _ _ h => by simp only [evFor, reduceCtorEq] at h⟩
  | k + 1 =>
    have ih := snd P hp k
    ⟨snd_e P hp ih, snd_es ih, snd_all ih, snd_any ih, snd_t ih, snd_tall ih, snd_tany ih, snd_c P hp ih, snd_s hp ih, snd_ss ih, snd_f ih⟩

end Mine

end

section
open PySem
set_option linter.unusedVariables false
set_option linter.unusedSimpArgs false
set_option maxRecDepth 100000
namespace Mine

def g23 : GeoD := ⟨2, 3, 63, [14, 13, 59, 55, 44, 28], [32, 16, 0, 0, 2, 1],
  [[20, 40, 16, 32, 0, 0], [2, 0, 8, 0, 32, 0], [0, 0, 1, 2, 5, 10], [0, 1, 0, 4, 0, 16], [8, 0, 32, 0, 0, 0], [0, 0, 2, 0, 8, 0], [0, 0, 0, 1, 0, 4], [0, 4, 0, 16, 0, 0]]⟩
def g33 : GeoD := ⟨3, 3, 511, [26, 61, 50, 211, 495, 406, 152, 376, 176], [160, 320, 136, 260, 0, 65, 34, 5, 10],
  [[72, 144, 288, 64, 128, 256, 0, 0, 0], [6, 4, 0, 48, 32, 0, 384, 256, 0], [0, 0, 0, 1, 2, 4, 9, 18, 36], [0, 1, 3, 0, 8, 24, 0, 64, 192], [272, 32, 0, 128, 256, 0, 0, 0, 0], [0, 0, 0, 2, 4, 0, 20, 32, 0],
    [0, 0, 0, 0, 1, 2, 0, 8, 17], [0, 8, 80, 0, 64, 128, 0, 0, 0]]⟩
def g24 : GeoD := ⟨2, 4, 255, [14, 13, 59, 55, 236, 220, 176, 112], [32, 16, 128, 64, 2, 1, 8, 4],
  [[84, 168, 80, 160, 64, 128, 0, 0], [2, 0, 8, 0, 32, 0, 128, 0], [0, 0, 1, 2, 5, 10, 21, 42], [0, 1, 0, 4, 0, 16, 0, 64], [8, 0, 32, 0, 128, 0, 0, 0], [0, 0, 2, 0, 8, 0, 32, 0], [0, 0, 0, 1, 0, 4, 0, 16], [0, 4, 0, 16, 0, 64, 0, 0]]⟩
def g34 : GeoD := ⟨3, 4, 4095, [26, 61, 50, 211, 495, 406, 1688, 3960, 3248, 1216, 3008, 1408], [160, 320, 136, 1284, 2560, 1089, 2082, 5, 522, 272, 40, 80],
  [[584, 1168, 2336, 576, 1152, 2304, 512, 1024, 2048, 0, 0, 0], [6, 4, 0, 48, 32, 0, 384, 256, 0, 3072, 2048, 0], [0, 0, 0, 1, 2, 4, 9, 18, 36, 73, 146, 292], [0, 1, 3, 0, 8, 24, 0, 64, 192, 0, 512, 1536],
    [272, 32, 0, 2176, 256, 0, 1024, 2048, 0, 0, 0, 0], [0, 0, 0, 2, 4, 0, 20, 32, 0, 160, 256, 0], [0, 0, 0, 0, 1, 2, 0, 8, 17, 0, 64, 136], [0, 8, 80, 0, 64, 640, 0, 512, 1024, 0, 0, 0]]⟩

def refOf : Option V → Option Nat
  | some (.ref a) => some a
  | _ => none
def isI (v : Option V) (i : Int) : Bool := match v with
  | some (.int x) => x == i
  | _ => false
def isL (p : Nat) (L : Store) (a : Nat) (l : List Int) : Bool := match oget p L a with
  | some (.list xs) => (match intsOf xs with
    | some l' => l' == l
    | none => false)
  | _ => false
def refsOf : List V → Option (List Nat)
  | [] => some []
  | .ref a :: r => (match refsOf r with
    | some l => some (a :: l)
    | none => none)
  | _ => none
theorem refsOf_eq : ∀ {xs : List V} {l : List Nat}, refsOf xs = some l → xs = l.map V.ref
  | [], _, h => by cases h; rfl
  | .ref a :: r, l, h => by
    rw [refsOf] at h
    split at h
    · rename_i h'; cases h; rw [List.map_cons, ← refsOf_eq h']
    · cases h
  | .none :: _, _, h => by cases h
  | .bool _ :: _, _, h => by cases h
  | .int _ :: _, _, h => by cases h
  | .str _ :: _, _, h => by cases h
  | .tup _ :: _, _, h => by cases h
  | .rng _ _ _ :: _, _, h => by cases h
  | .fn _ :: _, _, h => by cases h
  | .script _ :: _, _, h => by cases h
def isRays (p : Nat) (L : Store) : List Nat → List (List Int) → Bool
  | [], [] => true
  | a :: as, l :: ls => isL p L a l && isRays p L as ls
  | _, _ => false
def chkGeo (p : Nat) (L : Store) (g : Nat) (G : GeoD) : Bool := match oget p L g with
  | some (.inst c d) => c == "Geometry" && (match oget p L d with
    | some (.ns f) => isI (f "files") G.files && isI (f "size") (G.files * G.ranks : Nat) && isI (f "full") G.full &&
      (match refOf (f "king"), refOf (f "knight"), refOf (f "rays") with
      | some kk, some kn, some r => isL p L kk G.king && isL p L kn G.knight && (match oget p L r with
        | some (.list xs) => (match refsOf xs with
          | some rs => isRays p L rs G.rays
          | none => false)
        | _ => false)
      | _, _, _ => false)
    | _ => false)
  | _ => false
def chk (p : Nat) (G : GeoD) : Bool := match evC p 400 38 "make_geometry" [.int G.files, .int G.ranks, .bool false, .bool false] [] with
  | some (.ref g, L) => chkGeo p L g G
  | _ => false

theorem isI_ok {v : Option V} {i : Int} (h : isI v i = true) : v = some (.int i) := by
  unfold isI at h
  split at h
  · rw [beq_iff_eq] at h; rw [h]
  · cases h
theorem refOf_ok {v : Option V} {a : Nat} (h : refOf v = some a) : v = some (.ref a) := by
  unfold refOf at h
  split at h
  · cases h; rfl
  · cases h
theorem isL_ok {p : Nat} {L σ₀ : Store} (hp : σ₀.length = p) {a : Nat} {l : List Int} (h : isL p L a l = true) : (σ₀ ++ L)[a]? = some (.list (l.map V.int)) := by
  unfold isL at h
  split at h
  · rename_i ho
    split at h
    · rename_i hi
      rw [beq_iff_eq] at h; subst h
      rw [oget_ok hp ho, intsOf_eq hi]
    · cases h
  · cases h
theorem isRays_ok {p : Nat} {L σ₀ : Store} (hp : σ₀.length = p) : ∀ {rs : List Nat} {ls : List (List Int)}, isRays p L rs ls = true → ∀ (d : Nat) (l : List Int), ls[d]? = some l → ∃ a, rs[d]? = some a ∧ (σ₀ ++ L)[a]? = some (AObj.list (l.map V.int))
  | [], [], _, d, l, h => by simp at h
  | a :: as, l :: ls, hh, d, l', h => by
    rw [isRays, Bool.and_eq_true] at hh
    cases d with
    | zero => simp at h; subst h; exact ⟨a, rfl, isL_ok hp hh.1⟩
    | succ d => simpa using isRays_ok hp hh.2 d l' (by simpa using h)
  | [], _ :: _, hh, _, _, _ => by cases hh
  | _ :: _, [], hh, _, _, _ => by cases hh
theorem chkGeo_ok {p : Nat} {L σ₀ : Store} (hp : σ₀.length = p) {g : Nat} {G : GeoD} (h : chkGeo p L g G = true) : GeoIs (σ₀ ++ L) g G := by
  unfold chkGeo at h
  split at h
  · rename_i c d ho
    rw [Bool.and_eq_true, beq_iff_eq] at h
    obtain ⟨hc, h⟩ := h
    subst hc
    split at h
    · rename_i f hn
      simp only [Bool.and_eq_true] at h
      obtain ⟨⟨⟨h1, h2⟩, h3⟩, h⟩ := h
      split at h
      · rename_i kk kn r e1 e2 e3
        simp only [Bool.and_eq_true] at h
        obtain ⟨⟨h4, h5⟩, h⟩ := h
        split at h
        · rename_i xs hr
          split at h
          · rename_i rs hrs
            refine ⟨d, f, kk, kn, r, rs, oget_ok hp ho, oget_ok hp hn, isI_ok h1, isI_ok h2, isI_ok h3, refOf_ok e1, isL_ok hp h4, refOf_ok e2, isL_ok hp h5, refOf_ok e3, ?_, isRays_ok hp h⟩
            rw [oget_ok hp hr, refsOf_eq hrs]
          · cases h
        · cases h
      · cases h
    · cases h
  · cases h

theorem s_make {C : Ctx} (P : Prg C) {X : Store → Prop} {σ : Store} {p : Nat} (hp : σ.length = p) {G : GeoD} (h : chk p G = true) :
    SemCall C 38 "make_geometry" [.int G.files, .int G.ranks, .bool false, .bool false] σ (fun v σ' => ∃ g, v = .ref g ∧ GeoIs σ' g G ∧ Keep σ σ') X := by
  unfold chk at h
  split at h
  · rename_i g L he
    have := (snd P hp 400 (X := X)).c _ _ _ _ _ _ he (fun v σ' => ∃ g, v = .ref g ∧ GeoIs σ' g G ∧ Keep σ σ') ⟨g, rfl, chkGeo_ok hp h, fun i o hi => by rw [List.getElem?_append_left (List.getElem?_eq_some_iff.mp hi).1]; exact hi⟩
    simpa using this
  · cases h
set_option maxHeartbeats 4000000
theorem chk23 : chk 4 g23 = true := by decide +kernel
theorem chk33 : chk 3 g33 = true := by decide +kernel
theorem chk24 : chk 3 g24 = true := by decide +kernel
theorem chk34 : chk 4 g34 = true := by decide +kernel
theorem ok23 : g23.Ok := ⟨by decide, by decide, by decide, by decide, by decide, by decide⟩
theorem ok33 : g33.Ok := ⟨by decide, by decide, by decide, by decide, by decide, by decide⟩
theorem ok24 : g24.Ok := ⟨by decide, by decide, by decide, by decide, by decide, by decide⟩
theorem ok34 : g34.Ok := ⟨by decide, by decide, by decide, by decide, by decide, by decide⟩
end Mine

end

section
open PySem
set_option linter.unusedVariables false
set_option linter.unusedSimpArgs false
set_option maxRecDepth 100000
namespace Mine

section
variable {C : Ctx} (P : Prg C)
include P
theorem gl_is_growing : C.glb "is_growing" = some (.fn "is_growing") := by rw [P.glb]; rfl
theorem gl_make_geometry : C.glb "make_geometry" = some (.fn "make_geometry") := by rw [P.glb]; rfl
theorem gl_piece_attacks : C.glb "piece_attacks" = some (.fn "piece_attacks") := by rw [P.glb]; rfl
theorem gl_solve : C.glb "solve" = some (.fn "solve") := by rw [P.glb]; rfl
theorem gl_index_of : C.glb "index_of" = some (.fn "index_of") := by rw [P.glb]; rfl
theorem gl_parts_of : C.glb "parts_of" = some (.fn "parts_of") := by rw [P.glb]; rfl
theorem gl_mark_places : C.glb "mark_places" = some (.fn "mark_places") := by rw [P.glb]; rfl
theorem gl_weak_moves : C.glb "weak_moves" = some (.fn "weak_moves") := by rw [P.glb]; rfl
theorem gl_strong_moves : C.glb "strong_moves" = some (.fn "strong_moves") := by rw [P.glb]; rfl
theorem gl_moves_at : C.glb "moves_at" = some (.fn "moves_at") := by rw [P.glb]; rfl
theorem gl_build_zone : C.glb "build_zone" = some (.fn "build_zone") := by rw [P.glb]; rfl
theorem gl_probe : C.glb "probe" = some (.fn "probe") := by rw [P.glb]; rfl
theorem gl_best_move : C.glb "best_move" = some (.fn "best_move") := by rw [P.glb]; rfl
theorem gl_mate_line : C.glb "mate_line" = some (.fn "mate_line") := by rw [P.glb]; rfl
theorem gl_law_number : C.glb "_law_number" = some (.fn "_law_number") := by rw [P.glb]; rfl
theorem gl_law_apart : C.glb "_law_apart" = some (.fn "_law_apart") := by rw [P.glb]; rfl
theorem gl_law_touch : C.glb "_law_touch" = some (.fn "_law_touch") := by rw [P.glb]; rfl
theorem gl_law_strikes : C.glb "_law_strikes" = some (.fn "_law_strikes") := by rw [P.glb]; rfl
theorem gl_law_stands : C.glb "_law_stands" = some (.fn "_law_stands") := by rw [P.glb]; rfl
theorem gl_law_ways : C.glb "_law_ways" = some (.fn "_law_ways") := by rw [P.glb]; rfl
theorem gl_law_word : C.glb "_law_word" = some (.fn "_law_word") := by rw [P.glb]; rfl
theorem gl_law_due : C.glb "_law_due" = some (.fn "_law_due") := by rw [P.glb]; rfl
theorem gl_law_right : C.glb "_law_right" = some (.fn "_law_right") := by rw [P.glb]; rfl
theorem gl_law_line_right : C.glb "_law_line_right" = some (.fn "_law_line_right") := by rw [P.glb]; rfl
theorem gl_law_place : C.glb "_law_place" = some (.fn "_law_place") := by rw [P.glb]; rfl
theorem gl_law_refused : C.glb "_law_refused" = some (.fn "_law_refused") := by rw [P.glb]; rfl
theorem gl_WHITE : C.glb "WHITE" = some (.int (0)) := by rw [P.glb]; rfl
theorem gl_KNIGHT : C.glb "KNIGHT" = some (.int (2)) := by rw [P.glb]; rfl
theorem gl_QUEEN : C.glb "QUEEN" = some (.int (5)) := by rw [P.glb]; rfl
theorem gl_NOT_A_PLACE : C.glb "NOT_A_PLACE" = some (.int (-2)) := by rw [P.glb]; rfl
theorem gl_NO_MATE : C.glb "NO_MATE" = some (.int (-1)) := by rw [P.glb]; rfl
theorem gl_OUTSIDE : C.glb "OUTSIDE" = some (.int (-1)) := by rw [P.glb]; rfl
theorem gl_STRONG_MOVES : C.glb "STRONG_MOVES" = some (.int (0)) := by rw [P.glb]; rfl
theorem gl_WEAK_MOVES : C.glb "WEAK_MOVES" = some (.int (1)) := by rw [P.glb]; rfl
end

theorem GeoIs.a_size {σ : Store} {g : Nat} {G : GeoD} (h : GeoIs σ g G) (Q : V → Prop) : wpAttr (.ref g) "size" σ Q = Q (.int (G.files * G.ranks : Nat)) := by
  obtain ⟨d, f, kk, kn, r, rs, h1, h2, h3, h4, h5, h6, h7, h8, h9, h10, h11, h12⟩ := h.ex
  have hat : geoAttrs.contains "size" = true := by decide
  simp [wpAttr, h1, h2, h4, isFnV]
  intro _; decide
theorem GeoIs.a_full {σ : Store} {g : Nat} {G : GeoD} (h : GeoIs σ g G) (Q : V → Prop) : wpAttr (.ref g) "full" σ Q = Q (.int G.full) := by
  obtain ⟨d, f, kk, kn, r, rs, h1, h2, h3, h4, h5, h6, h7, h8, h9, h10, h11, h12⟩ := h.ex
  simp [wpAttr, h1, h2, h5, isFnV]
  intro _; decide
theorem item_ints {σ : Store} {a : Nat} {l : List Int} (h : σ[a]? = some (.list (l.map V.int))) {k : Nat} (hk : k < l.length) (hl : l.length < 1000000) (Q : V → Prop) : wpItem (.ref a) (.int k) σ Q = Q (.int ((l[k]?).getD 0)) := by
  simp [wpItem, h, List.getElem?_eq_getElem hk]
  intro _; omega
theorem GeoIs.a_king {σ : Store} {g : Nat} {G : GeoD} (h : GeoIs σ g G) (ok : G.Ok) : ∃ kk, (∀ Q : V → Prop, wpAttr (.ref g) "king" σ Q = Q (.ref kk)) ∧ ∀ (k : Nat) (Q : V → Prop), k < G.files * G.ranks → wpItem (.ref kk) (.int k) σ Q = Q (.int ((G.king[k]?).getD 0)) := by
  obtain ⟨d, f, kk, kn, r, rs, h1, h2, h3, h4, h5, h6, h7, h8, h9, h10, h11, h12⟩ := h.ex
  refine ⟨kk, fun Q => ?_, fun k Q hk => item_ints h7 (by rw [ok.king]; exact hk) (by rw [ok.king]; have := ok.size; omega) Q⟩
  simp [wpAttr, h1, h2, h6, isFnV]
  intro _; decide

/-- a comprehension's turns, by a fact that stays -/
theorem compW_inv {src : V} {items : List V} {x : String} {conds : Loc → Store → (Bool → Store → Prop) → Prop} {elt : Loc → Store → (V → Store → Prop) → Prop} {Q : List V → Store → Prop} {m₀ : Loc} (I : Nat → List V → Store → Prop)
    (hsrc : ∀ i acc σ, I i acc σ → srcItems σ src = some items)
    (hstep : ∀ i v acc m σ, items[i]? = some v → I i acc σ → (∀ y, y ≠ x → m y = m₀ y) → m x = some v → ∀ K : List V → Store → Prop, (∀ acc' σ', I (i + 1) acc' σ' → K acc' σ') →
      conds m σ fun b σ₁ => if b then elt m σ₁ fun y σ₂ => K (acc ++ [y]) σ₂ else K acc σ₁)
    (hend : ∀ acc σ, I items.length acc σ → Q acc σ) :
    ∀ (rest : List V) (i : Nat) (acc : List V) (m : Loc) (σ : Store), items.drop i = rest → i ≤ items.length → (∀ y, y ≠ x → m y = m₀ y) → I i acc σ → compW src items x conds elt rest acc m σ Q := by
  intro rest
  induction rest with
  | nil =>
    intro i acc m σ hd hi hm hI
    have hlen : items.length = i := by
      have := congrArg List.length hd
      simp at this; omega
    exact ⟨hsrc _ _ _ hI, hend _ _ (hlen ▸ hI)⟩
  | cons v r ih =>
    intro i acc m σ hd hi hm hI
    have hv : items[i]? = some v := by
      have := congrArg (fun l => l[0]?) hd
      simpa using this
    have hlt : i < items.length := (List.getElem?_eq_some_iff.mp hv).1
    have hd' : items.drop (i + 1) = r := by rw [← List.drop_drop, hd]; rfl
    have hm' : ∀ y, y ≠ x → upd m x v y = m₀ y := fun y hy => by rw [upd_ne hy]; exact hm y hy
    exact ⟨hsrc _ _ _ hI, hstep i v acc (upd m x v) σ hv hI hm' upd_same (fun acc' σ' => compW src items x conds elt r acc' (upd m x v) σ' Q) fun acc' σ' h => ih (i + 1) acc' _ σ' hd' hlt hm' h⟩

theorem wpE_comp {C : Ctx} {n : Nat} {X : Store → Prop} {elt : E} {x : String} {src : E} {conds : List E} {m : Loc} {σ : Store} {Q : V → Store → Prop}
    (I : Nat → List V → Store → Prop) (sv : V) (items : List V) (hsv : ∀ Q' : V → Store → Prop, Q' sv σ → wpE C n X src m σ Q') (hit : srcItems σ sv = some items) (hlen : items.length < 1000000)
    (h0 : I 0 [] σ)
    (hsrc : ∀ i acc σ, I i acc σ → srcItems σ sv = some items)
    (hstep : ∀ i v acc m' σ, items[i]? = some v → I i acc σ → (∀ y, y ≠ x → y ≠ ".0" → m' y = m y) → m' x = some v → ∀ K : List V → Store → Prop, (∀ acc' σ', I (i + 1) acc' σ' → K acc' σ') →
      wpCs C n (fun _ => False) conds m' σ fun b σ₁ => if b then wpE C n (fun _ => False) elt m' σ₁ fun y σ₂ => K (acc ++ [y]) σ₂ else K acc σ₁)
    (hend : ∀ acc σ, I items.length acc σ → Q (.ref σ.length) (σ ++ [.list acc])) : wpE C n X (.comp elt x src conds) m σ Q := by
  rw [wpE]
  refine hsv _ ⟨items, hit, hlen, ?_⟩
  refine compW_inv (m₀ := clr (clr m x) ".0") I hsrc (fun i v acc m' σ' hv hI hm hx K hK => hstep i v acc m' σ' hv hI (fun y h1 h2 => ?_) hx K hK) hend _ 0 [] _ σ rfl (Nat.zero_le _) (fun y _ => rfl) h0
  rw [hm y h1]; simp [clr, h1, h2]

def bit (x : Int) (k : Nat) : Int := Builtin.bitAnd (x / 2 ^ k) 1
structure Pl where
  side : Nat
  king : Nat
  man : Nat
  bare : Nat

def Pl.v (p : Pl) : V := .tup [.int p.side, .int p.king, .int p.man, .int p.bare]
def idx (s : Nat) (p : Pl) : Nat := ((p.side * s + p.king) * s + p.man) * s + p.bare
structure Pl.In (s : Nat) (p : Pl) : Prop where
  side : p.side < 2
  king : p.king < s
  man : p.man < s
  bare : p.bare < s
theorem idx_lt {s : Nat} {p : Pl} (h : p.In s) : idx s p < 2 * s * s * s := by
  have h1 : p.side * s + p.king < 2 * s := by have := h.side; have := h.king; have : p.side * s ≤ 1 * s := Nat.mul_le_mul_right _ (by omega); omega
  have h2 : (p.side * s + p.king) * s + p.man < 2 * s * s := by
    have := h.man
    have : (p.side * s + p.king + 1) * s ≤ 2 * s * s := Nat.mul_le_mul_right _ (by omega)
    rw [Nat.add_mul] at this; omega
  have : ((p.side * s + p.king) * s + p.man + 1) * s ≤ 2 * s * s * s := Nat.mul_le_mul_right _ (by omega)
  rw [Nat.add_mul] at this
  have := h.bare
  unfold idx; omega
theorem mul_add_inj {s a b c d : Nat} (hb : b < s) (hd : d < s) (h : a * s + b = c * s + d) : a = c ∧ b = d := by
  have hs : 0 < s := by omega
  have h1 : (a * s + b) / s = a := by rw [Nat.mul_comm, Nat.mul_add_div hs, Nat.div_eq_of_lt hb]; omega
  have h2 : (c * s + d) / s = c := by rw [Nat.mul_comm, Nat.mul_add_div hs, Nat.div_eq_of_lt hd]; omega
  have : a = c := by rw [← h1, ← h2, h]
  subst this; omega
theorem idx_inj {s : Nat} {p q : Pl} (hp : p.In s) (hq : q.In s) (h : idx s p = idx s q) : p = q := by
  unfold idx at h
  obtain ⟨h1, h2⟩ := mul_add_inj hp.bare hq.bare h
  obtain ⟨h3, h4⟩ := mul_add_inj hp.man hq.man h1
  obtain ⟨h5, h6⟩ := mul_add_inj hp.king hq.king h3
  cases p; cases q; simp_all

/-- the parts of a number -/
def plOf (s n : Nat) : Pl := ⟨n / (s * s * s), n / (s * s) % s, n / s % s, n % s⟩
theorem plOf_in {s n : Nat} (hs : 0 < s) (h : n < 2 * s * s * s) : (plOf s n).In s := by
  have h1 : 0 < s * s * s := by simp [hs]
  refine ⟨?_, Nat.mod_lt _ hs, Nat.mod_lt _ hs, Nat.mod_lt _ hs⟩
  show n / (s * s * s) < 2
  rw [Nat.div_lt_iff_lt_mul h1]
  have : 2 * s * s * s = 2 * (s * s * s) := by simp [Nat.mul_assoc]
  omega
theorem idx_plOf {s n : Nat} : idx s (plOf s n) = n := by
  unfold idx plOf
  simp only
  have h1 : n / (s * s * s) = n / s / s / s := by rw [Nat.div_div_eq_div_mul, Nat.div_div_eq_div_mul, Nat.mul_assoc]
  have h2 : n / (s * s) = n / s / s := by rw [Nat.div_div_eq_div_mul]
  rw [h1, h2]
  have a1 := Nat.div_add_mod (n / s / s) s
  have a2 := Nat.div_add_mod (n / s) s
  have a3 := Nat.div_add_mod n s
  rw [Nat.mul_comm] at a1 a2 a3
  rw [a1, a2, a3]
theorem plOf_idx {s : Nat} {p : Pl} (h : p.In s) : plOf s (idx s p) = p := by
  have hs : 0 < s := by have := h.king; omega
  exact idx_inj (plOf_in hs (idx_lt h)) h idx_plOf

section
variable {C : Ctx} (P : Prg C) {X : Store → Prop} {σ : Store}
include P
theorem s_idx (s : Nat) (hs : s ≤ 12) (a b c d : Nat) : SemCall C 1 "index_of" [.int s, .int a, .int b, .int c, .int d] σ (fun v σ' => v = .int (idx s ⟨a, b, c, d⟩ : Nat) ∧ σ' = σ) X := by
  refine SemCall.mono (s_index_of P s a b c d (by omega)) (fun v σ' ⟨h1, h2⟩ => ⟨?_, h2⟩) fun _ h => h
  subst h1; simp [idx]
theorem s_parts (s : Nat) (hs : 0 < s ∧ s ≤ 12) (n : Nat) : SemCall C 1 "parts_of" [.int s, .int n] σ (fun v σ' => v = (plOf s n).v ∧ σ' = σ) X := by
  refine SemCall.mono (s_parts_of P s n (by omega)) (fun v σ' ⟨h1, h2⟩ => ⟨?_, h2⟩) fun _ h => h
  subst h1; simp [plOf, Pl.v]
end
end Mine

end

section
open PySem
set_option linter.unusedVariables false
set_option linter.unusedSimpArgs false
set_option maxRecDepth 100000
namespace Mine

/-- does the man strike; A, U: how far apart -/
def strikesC (A U : Int) (f kind o g : Int) (wall : List Int) : Bool :=
  if kind = 2 then decide (A = 1 ∧ U = 2 ∨ A = 2 ∧ U = 1)
  else if ((decide (A = 0) != decide (U = 0)) && decide (kind = 4 ∨ kind = 5)) || ((decide (A = U) && decide (0 < A)) && decide (kind = 3 ∨ kind = 5)) then
    (List.range' 1 ((max A U).toNat - 1)).all fun (far : Nat) =>
      !decide ((o / f + (g / f - o / f) * far / max A U) * f + (o % f + (g % f - o % f) * far / max A U) ∈ wall)
  else false
def strikes (f kind o g : Int) (wall : List Int) : Bool := strikesC (apart f o g).1 (apart f o g).2 f kind o g wall

structure Bd where
  G : GeoD
  kind : Nat
  zone : List Nat
abbrev Bd.s (b : Bd) : Nat := b.G.files * b.G.ranks
abbrev Bd.tch (b : Bd) (a c : Nat) : Bool := touch b.G.files a c
abbrev Bd.str (b : Bd) (o g : Nat) (wall : List Int) : Bool := strikes b.G.files b.kind o g wall
abbrev Bd.kingOf (b : Bd) (a : Nat) : Int := (b.G.king[a]?).getD 0
def Bd.freeOf (b : Bd) (a m : Nat) : Int := Builtin.bitAnd b.G.full (Builtin.bitNot (Builtin.bitOr (Builtin.bitOr (b.kingOf a) (2 ^ a)) (2 ^ m)))

structure Bd.Ok (b : Bd) : Prop where
  geo : b.G.Ok
  kind : 2 ≤ b.kind ∧ b.kind ≤ 5
  zone : b.zone.length ≤ 12
  king : ∀ a c, a < b.s → c < b.s → bit (b.kingOf a) c = if b.tch a c = true then 1 else 0
  free : ∀ a m c, a < b.s → m < b.s → c < b.s → bit (b.freeOf a m) c = if b.tch a c = false ∧ c ≠ a ∧ c ≠ m then 1 else 0
  chk : ∀ a m c, a < b.s → m < b.s → c < b.s → bit (kindAtt b.G b.kind m (2 ^ a)) c = if b.str m c [(a : Int)] = true then 1 else 0
  slide : ∀ a m c g, a < b.s → m < b.s → c < b.s → g < b.s → bit (kindAtt b.G b.kind m (Builtin.bitOr (2 ^ a) (2 ^ c))) g = if b.str m g [(a : Int), (c : Int)] = true then 1 else 0
theorem Bd.Ok.fpos {b : Bd} (o : b.Ok) : 0 < b.G.files ∧ b.G.files ≤ 12 := by
  have h1 := o.geo.pos
  have h2 := o.geo.size
  have : b.G.files * 1 ≤ b.G.files * b.G.ranks := Nat.mul_le_mul_left _ h1.2
  omega
theorem Bd.Ok.s12 {b : Bd} (o : b.Ok) : b.s ≤ 12 := o.geo.size
theorem Bd.Ok.spos {b : Bd} (o : b.Ok) : 0 < b.s := Nat.mul_pos o.geo.pos.1 o.geo.pos.2
theorem Bd.Ok.cube {b : Bd} (o : b.Ok) : 2 * b.s * b.s * b.s ≤ 3456 := by
  have h := o.s12
  have h1 : 2 * b.s * b.s ≤ 24 * 12 := Nat.mul_le_mul (by omega) h
  exact Nat.mul_le_mul h1 h

def stands (b : Bd) (p : Pl) : Bool :=
  decide (p.king ∈ b.zone) && !decide (p.man = p.king) && !decide (p.man = p.bare) && !decide (p.king = p.bare) && !b.tch p.king p.bare && (decide (p.side = 1) || !b.str p.man p.bare [(p.king : Int)])

abbrev Way := Nat × Nat × Option Pl
def wayW (b : Bd) (p : Pl) (g : Nat) : List Way :=
  if b.tch p.bare g then (if g = p.man then (if b.tch p.king p.man then [] else [(p.bare, g, none)]) else if stands b ⟨0, p.king, p.man, g⟩ then [(p.bare, g, some ⟨0, p.king, p.man, g⟩)] else []) else []
def wayK (b : Bd) (p : Pl) (g : Nat) : List Way := if b.tch p.king g && stands b ⟨1, g, p.man, p.bare⟩ then [(p.king, g, some ⟨1, g, p.man, p.bare⟩)] else []
def wayM (b : Bd) (p : Pl) (g : Nat) : List Way := if b.str p.man g [(p.king : Int), (p.bare : Int)] && stands b ⟨1, p.king, g, p.bare⟩ then [(p.man, g, some ⟨1, p.king, g, p.bare⟩)] else []
def ways (b : Bd) (p : Pl) : List Way := (List.range b.s).flatMap fun g => if p.side = 1 then wayW b p g else wayK b p g ++ wayM b p g
def moves (b : Bd) (p : Pl) : List Way := if p.side = 1 then (List.range b.s).flatMap (wayW b p) else (List.range b.s).flatMap (wayK b p) ++ (List.range b.s).flatMap (wayM b p)
def ixOf (s : Nat) : Option Pl → Int
  | none => -1
  | some q => idx s q
def mvV (s : Nat) (w : Way) : V := .tup [.int w.1, .int w.2.1, .int (ixOf s w.2.2)]
def plV : Option Pl → V
  | none => .none
  | some q => q.v
def wyV (w : Way) : V := .tup [.int w.1, .int w.2.1, plV w.2.2]

/-- the table's entry -/
def at_ (tbl : List Int) (n : Nat) : Int := (tbl[n]?).getD 0
structure Tab (b : Bd) (σ : Store) (t : Nat) (tbl : List Int) : Prop where
  here : σ[t]? = some (.list (tbl.map V.int))
  len : tbl.length = 2 * b.s * b.s * b.s
theorem Tab.keep {b : Bd} {σ σ' : Store} {t : Nat} {tbl : List Int} (h : Tab b σ t tbl) (k : Keep σ σ') : Tab b σ' t tbl := ⟨k _ _ h.here, h.len⟩
theorem Tab.item {b : Bd} {σ : Store} {t : Nat} {tbl : List Int} (h : Tab b σ t tbl) (o : b.Ok) {p : Pl} (hp : p.In b.s) (Q : V → Prop) : wpItem (.ref t) (.int (idx b.s p : Nat)) σ Q = Q (.int (at_ tbl (idx b.s p))) :=
  item_ints h.here (by rw [h.len]; exact idx_lt hp) (by rw [h.len]; have := o.cube; omega) Q
def Marks (b : Bd) (tbl : List Int) : Prop := ∀ p : Pl, p.In b.s → (at_ tbl (idx b.s p) = -2 ↔ stands b p = false)

theorem append_here (σ : Store) (xs : List V) : (σ ++ [AObj.list xs])[σ.length]? = some (.list xs) := by simp
theorem set_here (σ : Store) (o o' : AObj) : (σ ++ [o]).set σ.length o' = σ ++ [o'] := by simp
theorem appendV_here {σ : Store} {xs : List V} {v : V} (h : xs.length < 1000000) : appendV (σ ++ [.list xs]) (.ref σ.length) v = some (σ ++ [.list (xs ++ [v])]) := by
  simp [appendV, h]
theorem isListV_here {σ : Store} {xs : List V} : isListV (σ ++ [.list xs]) (.ref σ.length) := ⟨_, _, rfl, append_here _ _⟩

theorem wayW_len (b : Bd) (p : Pl) (g : Nat) : (wayW b p g).length ≤ 1 := by unfold wayW; split <;> (try split) <;> (try split) <;> simp
theorem wayK_len (b : Bd) (p : Pl) (g : Nat) : (wayK b p g).length ≤ 1 := by unfold wayK; split <;> simp
theorem wayM_len (b : Bd) (p : Pl) (g : Nat) : (wayM b p g).length ≤ 1 := by unfold wayM; split <;> simp
theorem flat_succ (f : Nat → List Way) (n : Nat) : (List.range (n + 1)).flatMap f = (List.range n).flatMap f ++ f n := by
  rw [List.range_succ, List.flatMap_append]; simp

theorem flat_len {f : Nat → List Way} (h : ∀ g, (f g).length ≤ 1) : ∀ n, ((List.range n).flatMap f).length ≤ n
  | 0 => by simp
  | n + 1 => by
    rw [flat_succ, List.length_append]
    have h1 := flat_len h n
    have h2 := h n
    omega

section
variable {C : Ctx} (P : Prg C) {X : Store → Prop} {σ : Store}
include P

theorem s_weak {g t : Nat} {b : Bd} (o : b.Ok) (hG : GeoIs σ g b.G) {tbl : List Int} (hT : Tab b σ t tbl) (mk : Marks b tbl) (p : Pl) (hp : p.In b.s) (h1 : p.side = 1) :
    SemCall C 3 "weak_moves" [.ref g, .ref t, .int p.king, .int p.man, .int p.bare] σ (fun v σ' => v = .ref σ.length ∧ σ' = σ ++ [.list ((moves b p).map (mvV b.s))]) X := by
  refine P.call P.f_weak_moves rfl ?_
  have hs : b.G.files * b.G.ranks ≤ 12 := o.s12
  have hs2 : b.s ≤ 12 := hs
  have hs' : (b.G.files : Int) * b.G.ranks ≤ 12 := by exact_mod_cast hs
  refine step fun K hK hR hC => ?_
  simp [wpS, wpE, wpEs, wpAssign]
  refine hK _ _ (step fun K hK hR hC => ?_)
  have ks : Keep σ (σ ++ [.list []]) := Keep.snoc _ _
  obtain ⟨kk, ak, ik⟩ := (hG.keep ks).a_king o.geo
  simp [wpS, wpE, wpAssign, upd, ak, ik _ _ hp.bare]
  refine hK _ _ (step fun K hK hR hC => ?_)
  simp [wpS, wpE, wpEs, wpB, upd, (hG.keep ks).a_size, -Bool.exists_bool, -Int.natCast_mul]
  refine ⟨by omega, ?_⟩
  refine forW_rng (a := 0) (b := b.s) (Nat.zero_le _) (fun i m σ' => σ' = σ ++ [.list (((List.range i).flatMap (wayW b p)).map (mvV b.s))] ∧ m "geo" = some (.ref g) ∧ m "table" = some (.ref t) ∧ m "strong" = some (.int p.king) ∧ m "piece" = some (.int p.man) ∧ m "weak" = some (.int p.bare) ∧
    m "out" = some (.ref σ.length) ∧ m "steps" = some (.int (b.kingOf p.bare))) ⟨by simp, by simp [upd, bindL], by simp [upd, bindL], by simp [upd, bindL], by simp [upd, bindL], by simp [upd, bindL], by simp [upd, bindL], by simp [upd]⟩ ?_ ?_
  · rintro i m σ' _ hi ⟨hσ, m1, m2, m3, m4, m5, m6, m7⟩ K k1 k2 k3
    have ks' : Keep σ σ' := by rw [hσ]; exact Keep.snoc _ _
    have hlen : (((List.range i).flatMap (wayW b p)).map (mvV b.s)).length < 1000000 := by
      have := flat_len (wayW_len b p) i; simp only [List.length_map]; omega
    have next : ∀ (m' : Loc), (∀ x, x ≠ "goal" → x ≠ "place" → m' x = m x) → ∀ σ'', σ'' = σ ++ [.list (((List.range i).flatMap (wayW b p)).map (mvV b.s) ++ (wayW b p i).map (mvV b.s))] → K .next m' σ'' := by
      intro m' hm σ'' hσ''
      refine k1 _ _ ⟨by rw [hσ'', flat_succ, List.map_append], ?_⟩
      refine ⟨?_, ?_, ?_, ?_, ?_, ?_, ?_⟩ <;> (rw [hm _ (by decide) (by decide)]; assumption)
    refine step fun K' hK' hR' hC' => ?_
    have kb := o.king p.bare i hp.bare hi
    unfold bit at kb
    simp [wpS, wpT, wpE, wpBin, cmpV, eqV, truthV, upd, m7, kb]
    by_cases ht : b.tch p.bare i = true
    · simp only [ht]
      simp
      refine done (hK' _ _ (step fun K' hK' hR' hC' => ?_))
      simp [wpS, wpT, wpE, cmpV, eqV, truthV, upd, m4]
      by_cases hm : i = p.man
      · simp [hm]
        refine step fun K'' hK'' hR'' hC'' => ?_
        obtain ⟨kk, ak, ik⟩ := (hG.keep ks').a_king o.geo
        have kb2 := o.king p.king p.man hp.king hp.man
        unfold bit at kb2
        simp [wpS, wpT, wpE, wpBin, cmpV, eqV, truthV, upd, m1, m3, m4, ak, ik _ _ hp.king, kb2]
        by_cases ht2 : b.tch p.king p.man = true
        · simp [ht2]
          refine done (hK'' _ _ (done (hK' _ _ (done (next _ ?_ _ ?_)))))
          · intro x h1 h2; simp [upd, h1, h2]
          · rw [hσ]; unfold wayW; simp [hm, ht2]
        · simp at ht2
          simp [ht2]
          refine step fun K3 hK3 hR3 hC3 => ?_
          simp [wpS, wpE, wpEs, upd, m5, m6, gl_OUTSIDE P]
          refine ⟨by rw [hσ]; exact isListV_here, _, by rw [hσ]; exact appendV_here hlen, ?_⟩
          refine hK3 _ _ (done (hK'' _ _ (done (hK' _ _ (done (next _ ?_ _ ?_))))))
          · intro x h1 h2; simp [upd, h1, h2]
          · unfold wayW; rw [hm] at ht; simp [hm, ht2, ht, mvV, ixOf]
      · have hm' : ((i : Int) = p.man) = False := by simp only [eq_iff_iff, iff_false]; omega
        simp [hm']
        refine step fun K'' hK'' hR'' hC'' => ?_
        simp [wpS, wpE, wpEs, upd, m1, m3, m4, (hG.keep ks').a_size, gl_STRONG_MOVES P, gl_index_of P, wpAssign, -Int.natCast_mul]
        refine SemCall.mono (s_idx P b.s hs 0 p.king p.man i) (fun v σ'' ⟨hv, hσ2⟩ => ?_) fun _ h => h
        subst hv hσ2
        have hin : (⟨0, p.king, p.man, i⟩ : Pl).In b.s := ⟨by simp, hp.king, hp.man, hi⟩
        refine hK'' _ _ (step fun K'' hK'' hR'' hC'' => ?_)
        simp only [wpS, wpT, wpE]
        refine ⟨_, by simp [upd]; exact m2, ⟨_, by simp [upd]; rfl, ?_⟩⟩
        rw [(hT.keep ks').item o hin]
        simp [gl_NOT_A_PLACE P, cmpV, neV, truthV, mk _ hin]
        by_cases hst : stands b ⟨0, p.king, p.man, i⟩ = true
        · simp [hst]
          refine step fun K3 hK3 hR3 hC3 => ?_
          simp [wpS, wpE, wpEs, upd, m5, m6]
          refine ⟨by rw [hσ]; exact isListV_here, _, by rw [hσ]; exact appendV_here hlen, ?_⟩
          refine hK3 _ _ (done (hK'' _ _ (done (hK' _ _ (done (next _ ?_ _ ?_))))))
          · intro x h1 h2; simp [upd, h1, h2]
          · unfold wayW; simp [hm, hst, ht, mvV, ixOf]
        · simp at hst
          simp [hst]
          refine done (hK'' _ _ (done (hK' _ _ (done (next _ ?_ _ ?_)))))
          · intro x h1 h2; simp [upd, h1, h2]
          · rw [hσ]; unfold wayW; simp [hm, hst, ht]
    · simp at ht
      simp [ht]
      refine step fun K'' hK'' hR'' hC'' => ?_
      simp [wpS]
      refine hC'' _ _ (hC' _ _ (k2 _ _ ⟨?_, ?_⟩))
      · rw [hσ, flat_succ]; unfold wayW; simp [ht]
      · refine ⟨?_, ?_, ?_, ?_, ?_, ?_, ?_⟩ <;> simp [upd, m1, m2, m3, m4, m5, m6, m7]
  · rintro m σ' ⟨hσ, m1, m2, m3, m4, m5, m6, m7⟩
    refine hK _ _ (step fun K hK hR hC => ?_)
    simp [wpS, wpE, m6]
    refine hR _ _ _ ⟨rfl, ?_⟩
    rw [hσ]; simp [moves, h1]
end
end Mine

end

section
open PySem
set_option linter.unusedVariables false
set_option linter.unusedSimpArgs false
set_option maxRecDepth 100000
namespace Mine
section
variable {C : Ctx} (P : Prg C) {X : Store → Prop} {σ : Store}
include P

theorem s_strong {g t : Nat} {b : Bd} (o : b.Ok) (hG : GeoIs σ g b.G) {tbl : List Int} (hT : Tab b σ t tbl) (mk : Marks b tbl) (p : Pl) (hp : p.In b.s) (h1 : p.side ≠ 1) :
    SemCall C 13 "strong_moves" [.ref g, .ref t, .int b.kind, .int p.king, .int p.man, .int p.bare] σ (fun v σ' => v = .ref σ.length ∧ σ' = σ ++ [.list ((moves b p).map (mvV b.s))]) X := by
  refine P.call P.f_strong_moves rfl ?_
  have hs : b.G.files * b.G.ranks ≤ 12 := o.s12
  have hs2 : b.s ≤ 12 := hs
  have hs' : (b.G.files : Int) * b.G.ranks ≤ 12 := by exact_mod_cast hs
  refine step fun K hK hR hC => ?_
  simp [wpS, wpE, wpEs, wpAssign]
  refine hK _ _ (step fun K hK hR hC => ?_)
  have ks : Keep σ (σ ++ [.list []]) := Keep.snoc _ _
  obtain ⟨kk, ak, ik⟩ := (hG.keep ks).a_king o.geo
  simp [wpS, wpE, wpAssign, upd, ak, ik _ _ hp.king]
  refine hK _ _ (step fun K hK hR hC => ?_)
  have e1 : p.king < 1000000 := by have := hp.king; omega
  have e2 : p.bare < 1000000 := by have := hp.bare; omega
  simp [wpS, wpE, wpEs, wpB, wpBin, upd, gl_piece_attacks P, gl_WHITE P, wpAssign, -Int.natCast_mul]
  refine ⟨by omega, by omega, ?_⟩
  refine SemCall.mono (s_piece P (hG.keep ks) o.geo 0 b.kind p.man (Builtin.bitOr (2 ^ p.king) (2 ^ p.bare)) hp.man o.kind) (fun v σ'' ⟨hv, hσ2⟩ => ?_) fun _ h => h
  subst hv hσ2
  refine hK _ _ (step fun K hK hR hC => ?_)
  simp [wpS, wpE, wpEs, wpB, upd, (hG.keep ks).a_size, -Bool.exists_bool, -Int.natCast_mul]
  refine ⟨by omega, ?_⟩
  refine forW_rng (a := 0) (b := b.s) (Nat.zero_le _) (fun i m σ' => σ' = σ ++ [.list (((List.range i).flatMap (wayK b p)).map (mvV b.s))] ∧ m "geo" = some (.ref g) ∧ m "table" = some (.ref t) ∧ m "strong" = some (.int p.king) ∧ m "piece" = some (.int p.man) ∧ m "weak" = some (.int p.bare) ∧
    m "out" = some (.ref σ.length) ∧ m "steps" = some (.int (b.kingOf p.king)) ∧ m "slides" = some (.int (kindAtt b.G b.kind p.man (Builtin.bitOr (2 ^ p.king) (2 ^ p.bare))))) ⟨by simp, by simp [upd, bindL], by simp [upd, bindL], by simp [upd, bindL], by simp [upd, bindL], by simp [upd, bindL], by simp [upd, bindL], by simp [upd], by simp [upd]⟩ ?_ ?_
  · rintro i m σ' _ hi ⟨hσ, m1, m2, m3, m4, m5, m6, m7, m8⟩ K k1 k2 k3
    have ks' : Keep σ σ' := by rw [hσ]; exact Keep.snoc _ _
    have hlen : (((List.range i).flatMap (wayK b p)).map (mvV b.s)).length < 1000000 := by
      have := flat_len (wayK_len b p) i; simp only [List.length_map]; omega
    have next : ∀ (m' : Loc), (∀ x, x ≠ "goal" → x ≠ "place" → m' x = m x) → ∀ σ'', σ'' = σ ++ [.list (((List.range i).flatMap (wayK b p)).map (mvV b.s) ++ (wayK b p i).map (mvV b.s))] → K .next m' σ'' := by
      intro m' hm σ'' hσ''
      refine k1 _ _ ⟨by rw [hσ'', flat_succ, List.map_append], ?_⟩
      refine ⟨?_, ?_, ?_, ?_, ?_, ?_, ?_, ?_⟩ <;> (rw [hm _ (by decide) (by decide)]; assumption)
    refine step fun K' hK' hR' hC' => ?_
    have kb := o.king p.king i hp.king hi
    unfold bit at kb
    simp [wpS, wpT, wpE, wpBin, cmpV, eqV, truthV, upd, m7, kb]
    by_cases ht : b.tch p.king i = true
    · simp only [ht]
      simp
      refine step fun K'' hK'' hR'' hC'' => ?_
      simp [wpS, wpE, wpEs, upd, m1, m3, m4, m5, (hG.keep ks').a_size, gl_WEAK_MOVES P, gl_index_of P, wpAssign, -Int.natCast_mul]
      refine SemCall.mono ((s_idx P b.s hs 1 i p.man p.bare).up (b := 11) (by decide)) (fun v σ'' ⟨hv, hσ2⟩ => ?_) fun _ h => h
      subst hv hσ2
      have hin : (⟨1, i, p.man, p.bare⟩ : Pl).In b.s := ⟨by simp, hi, hp.man, hp.bare⟩
      refine hK'' _ _ (step fun K'' hK'' hR'' hC'' => ?_)
      simp only [wpS, wpT, wpE]
      refine ⟨_, by simp [upd]; exact m2, ⟨_, by simp [upd]; rfl, ?_⟩⟩
      rw [(hT.keep ks').item o hin]
      simp [gl_NOT_A_PLACE P, cmpV, neV, truthV, mk _ hin]
      by_cases hst : stands b ⟨1, i, p.man, p.bare⟩ = true
      · simp [hst]
        refine step fun K3 hK3 hR3 hC3 => ?_
        simp [wpS, wpE, wpEs, upd, m3, m6]
        refine ⟨by rw [hσ]; exact isListV_here, _, by rw [hσ]; exact appendV_here hlen, ?_⟩
        refine hK3 _ _ (done (hK'' _ _ (done (hK' _ _ (done (next _ ?_ _ ?_))))))
        · intro x h1 h2; simp [upd, h1, h2]
        · unfold wayK; simp [hst, ht, mvV, ixOf]
      · simp at hst
        simp [hst]
        refine done (hK'' _ _ (done (hK' _ _ (done (next _ ?_ _ ?_)))))
        · intro x h1 h2; simp [upd, h1, h2]
        · rw [hσ]; unfold wayK; simp [hst, ht]
    · simp at ht
      simp [ht]
      refine done (hK' _ _ (done (next _ ?_ _ ?_)))
      · intro x h1 h2; simp [upd, h1, h2]
      · rw [hσ]; unfold wayK; simp [ht]
  rintro m σ' ⟨hσ, m1, m2, m3, m4, m5, m6, m7, m8⟩
  refine hK _ _ (step fun K hK hR hC => ?_)
  have ks1 : Keep σ σ' := by rw [hσ]; exact Keep.snoc _ _
  simp [wpS, wpE, wpEs, wpB, upd, m1, (hG.keep ks1).a_size, -Bool.exists_bool, -Int.natCast_mul]
  refine ⟨by omega, ?_⟩
  refine forW_rng (a := 0) (b := b.s) (Nat.zero_le _) (fun i m σ' => σ' = σ ++ [.list (((List.range b.s).flatMap (wayK b p) ++ (List.range i).flatMap (wayM b p)).map (mvV b.s))] ∧ m "geo" = some (.ref g) ∧ m "table" = some (.ref t) ∧ m "strong" = some (.int p.king) ∧ m "piece" = some (.int p.man) ∧ m "weak" = some (.int p.bare) ∧
    m "out" = some (.ref σ.length) ∧ m "slides" = some (.int (kindAtt b.G b.kind p.man (Builtin.bitOr (2 ^ p.king) (2 ^ p.bare))))) ⟨by rw [hσ]; simp, m1, m2, m3, m4, m5, m6, m8⟩ ?_ ?_
  · clear hσ m1 m2 m3 m4 m5 m6 m7 m8 ks1
    rintro i m σ' _ hi ⟨hσ, m1, m2, m3, m4, m5, m6, m8⟩ K k1 k2 k3
    have ks' : Keep σ σ' := by rw [hσ]; exact Keep.snoc _ _
    have hlen : (((List.range b.s).flatMap (wayK b p) ++ (List.range i).flatMap (wayM b p)).map (mvV b.s)).length < 1000000 := by
      have h1 := flat_len (wayM_len b p) i; have h2 := flat_len (wayK_len b p) b.s
      simp only [List.length_map, List.length_append]; omega
    have next : ∀ (m' : Loc), (∀ x, x ≠ "goal" → x ≠ "place" → m' x = m x) → ∀ σ'', σ'' = σ ++ [.list (((List.range b.s).flatMap (wayK b p) ++ (List.range i).flatMap (wayM b p)).map (mvV b.s) ++ (wayM b p i).map (mvV b.s))] → K .next m' σ'' := by
      intro m' hm σ'' hσ''
      refine k1 _ _ ⟨by rw [hσ'', flat_succ, ← List.append_assoc, ← List.map_append], ?_⟩
      refine ⟨?_, ?_, ?_, ?_, ?_, ?_, ?_⟩ <;> (rw [hm _ (by decide) (by decide)]; assumption)
    refine step fun K' hK' hR' hC' => ?_
    have kb := o.slide p.king p.man p.bare i hp.king hp.man hp.bare hi
    unfold bit at kb
    simp [wpS, wpT, wpE, wpBin, cmpV, eqV, truthV, upd, m8, kb]
    by_cases ht : b.str p.man i [(p.king : Int), (p.bare : Int)] = true
    · simp only [ht]
      simp
      refine step fun K'' hK'' hR'' hC'' => ?_
      simp [wpS, wpE, wpEs, upd, m1, m3, m4, m5, (hG.keep ks').a_size, gl_WEAK_MOVES P, gl_index_of P, wpAssign, -Int.natCast_mul]
      refine SemCall.mono ((s_idx P b.s hs 1 p.king i p.bare).up (b := 11) (by decide)) (fun v σ'' ⟨hv, hσ2⟩ => ?_) fun _ h => h
      subst hv hσ2
      have hin : (⟨1, p.king, i, p.bare⟩ : Pl).In b.s := ⟨by simp, hp.king, hi, hp.bare⟩
      refine hK'' _ _ (step fun K'' hK'' hR'' hC'' => ?_)
      simp only [wpS, wpT, wpE]
      refine ⟨_, by simp [upd]; exact m2, ⟨_, by simp [upd]; rfl, ?_⟩⟩
      rw [(hT.keep ks').item o hin]
      simp [gl_NOT_A_PLACE P, cmpV, neV, truthV, mk _ hin]
      by_cases hst : stands b ⟨1, p.king, i, p.bare⟩ = true
      · simp [hst]
        refine step fun K3 hK3 hR3 hC3 => ?_
        simp [wpS, wpE, wpEs, upd, m4, m6]
        refine ⟨by rw [hσ]; exact isListV_here, _, by rw [hσ]; exact appendV_here hlen, ?_⟩
        refine hK3 _ _ (done (hK'' _ _ (done (hK' _ _ (done (next _ ?_ _ ?_))))))
        · intro x h1 h2; simp [upd, h1, h2]
        · unfold wayM; simp [hst, ht, mvV, ixOf]
      · simp at hst
        simp [hst]
        refine done (hK'' _ _ (done (hK' _ _ (done (next _ ?_ _ ?_)))))
        · intro x h1 h2; simp [upd, h1, h2]
        · rw [hσ]; unfold wayM; simp [hst, ht]
    · simp at ht
      simp [ht]
      refine done (hK' _ _ (done (next _ ?_ _ ?_)))
      · intro x h1 h2; simp [upd, h1, h2]
      · rw [hσ]; unfold wayM; simp [ht]
  · clear hσ m1 m2 m3 m4 m5 m6 m7 m8 ks1
    rintro m σ' ⟨hσ, m1, m2, m3, m4, m5, m6, m8⟩
    refine hK _ _ (step fun K hK hR hC => ?_)
    simp [wpS, wpE, m6]
    refine hR _ _ _ ⟨rfl, ?_⟩
    rw [hσ]; simp [moves, h1]

theorem s_moves {g t : Nat} {b : Bd} (o : b.Ok) (hG : GeoIs σ g b.G) {tbl : List Int} (hT : Tab b σ t tbl) (mk : Marks b tbl) (p : Pl) (hp : p.In b.s) :
    SemCall C 15 "moves_at" [.ref g, .ref t, .int b.kind, .int p.side, .int p.king, .int p.man, .int p.bare] σ (fun v σ' => v = .ref σ.length ∧ σ' = σ ++ [.list ((moves b p).map (mvV b.s))]) X := by
  refine P.call P.f_moves_at rfl ?_
  refine step fun K hK hR hC => ?_
  by_cases h1 : p.side = 1
  · simp [wpS, wpT, wpE, cmpV, eqV, truthV, upd, gl_WEAK_MOVES P, h1]
    refine step fun K' hK' hR' hC' => ?_
    simp [wpS, wpE, wpEs, upd, gl_weak_moves P]
    refine SemCall.mono ((s_weak P o hG hT mk p hp h1).up (b := 13) (by decide)) (fun v σ'' ⟨hv, hσ2⟩ => ?_) fun _ h => h
    subst hv hσ2
    exact hR' _ _ _ (hR _ _ _ ⟨rfl, rfl⟩)
  · have h1' : ((p.side : Int) = 1) = False := by simp only [eq_iff_iff, iff_false]; omega
    simp [wpS, wpT, wpE, cmpV, eqV, truthV, upd, gl_WEAK_MOVES P, h1']
    refine done (hK _ _ (step fun K hK hR hC => ?_))
    simp [wpS, wpE, wpEs, upd, gl_strong_moves P]
    refine SemCall.mono (s_strong P o hG hT mk p hp h1) (fun v σ'' ⟨hv, hσ2⟩ => ?_) fun _ h => h
    subst hv hσ2
    exact hR _ _ _ ⟨rfl, rfl⟩
end
end Mine

end

section
open PySem
set_option linter.unusedVariables false
set_option linter.unusedSimpArgs false
set_option maxRecDepth 100000
namespace Mine

structure Good (s : Nat) (len : Nat) (kind side a c d : Int) : Prop where
  kind : 2 ≤ kind ∧ kind ≤ 5
  len : len = 2 * s * s * s
  side : side = 0 ∨ side = 1
  a : 0 ≤ a ∧ a < s
  c : 0 ≤ c ∧ c < s
  d : 0 ≤ d ∧ d < s

section
variable {C : Ctx} (P : Prg C) {X : Store → Prop} {σ : Store}
include P

omit P in
theorem sq_step {n : Nat} {m : Loc} {s : Nat} {v : Int} {K : Fl → Loc → Store → Prop} (hs : m "size" = some (.int s)) (hv : m "square" = some (.int v)) (hn : 0 ≤ v ∧ v < s → K .next m σ) (hx : ¬ (0 ≤ v ∧ v < s) → X σ) :
    wpSs C n X [.ite (.any [(.cmp .Lt (.loc "square") (.cint 0)), (.cmp .GtE (.loc "square") (.loc "size"))]) [.raise "BadTable" "no such square"] []] m σ K := by
  by_cases c4 : ¬ (0 ≤ v ∧ v < s)
  · have hx := hx c4
    have c4' : v < 0 ∨ (¬ v < 0 ∧ (s : Int) ≤ v) := by omega
    rcases c4' with h | ⟨h1, h2⟩
    · simp [wpS, wpSs, wpT, wpTAny, wpE, wpEs, cmpV, truthV, h, hs, hv, hx]
    · simp [wpS, wpSs, wpT, wpTAny, wpE, wpEs, cmpV, truthV, h1, h2, hs, hv, hx]
  · rw [Classical.not_not] at c4
    have a1 : ¬ v < 0 := by omega
    have a2 : ¬ (s : Int) ≤ v := by omega
    simp [wpS, wpSs, wpT, wpTAny, wpE, wpEs, cmpV, truthV, a1, a2, hs, hv]
    exact hn c4

theorem s_probe_gen {g t : Nat} {G : GeoD} (ok : G.Ok) (hG : GeoIs σ g G) {tbl : List Int} (hT : σ[t]? = some (.list (tbl.map V.int))) (hl : tbl.length < 1000000) (kind side a c d : Int) {Q : V → Store → Prop}
    (hgood : Good (G.files * G.ranks) tbl.length kind side a c d → ∀ p : Pl, side = p.side → a = p.king → c = p.man → d = p.bare → p.In (G.files * G.ranks) → Q (.int (at_ tbl (idx (G.files * G.ranks) p))) σ)
    (hbad : ¬ Good (G.files * G.ranks) tbl.length kind side a c d → X σ) :
    SemCall C 3 "probe" [.ref g, .ref t, .int kind, .int side, .int a, .int c, .int d] σ Q X := by
  have asz := hG.a_size
  have hs12 := ok.size
  generalize hs : G.files * G.ranks = s at *
  refine P.call P.f_probe rfl ?_
  refine step fun K hK hR hC => ?_
  simp [wpS, wpE, wpEs, wpAssign, upd, asz]
  refine hK _ _ (step fun K hK hR hC => ?_)
  by_cases c1 : ¬ (2 ≤ kind ∧ kind ≤ 5)
  · have hx := hbad fun h => c1 h.kind
    have c1' : kind < 2 ∨ (¬ kind < 2 ∧ 5 < kind) := by omega
    rcases c1' with h | ⟨h1, h2⟩
    · simp [wpS, wpSs, wpT, wpTAny, wpE, upd, cmpV, truthV, gl_KNIGHT P, gl_QUEEN P, h, hx]
    · simp [wpS, wpSs, wpT, wpTAny, wpE, upd, cmpV, truthV, gl_KNIGHT P, gl_QUEEN P, h1, h2, hx]
  rw [Classical.not_not] at c1
  have n1 : ¬ kind < 2 := by omega
  have n2 : ¬ 5 < kind := by omega
  simp [wpS, wpT, wpTAny, wpE, upd, cmpV, truthV, gl_KNIGHT P, gl_QUEEN P, n1, n2]
  refine done (hK _ _ (step fun K hK hR hC => ?_))
  have hm : ∀ x : Int, (s : Int).natAbs < 2 ^ 64 := fun _ => by omega
  by_cases c2 : ¬ (tbl.length = 2 * s * s * s)
  · have hx := hbad fun h => c2 h.len
    have c2' : ((tbl.length : Int) = 2 * s * s * s) = False := by simp only [eq_iff_iff, iff_false]; intro h; exact c2 (by exact_mod_cast h)
    simp [wpS, wpSs, wpT, wpE, wpEs, wpB, wpBin, upd, bindL, hT, hl, cmpV, neV, truthV, c2', hx]
    omega
  rw [Classical.not_not] at c2
  have c2' : (tbl.length : Int) = 2 * s * s * s := by exact_mod_cast c2
  simp [wpS, wpT, wpE, wpEs, wpB, wpBin, upd, bindL, hT, hl, cmpV, neV, truthV, c2']
  refine ⟨by omega, by omega, done (hK _ _ (step fun K hK hR hC => ?_))⟩
  by_cases c3 : ¬ (side = 0 ∨ side = 1)
  · have hx := hbad fun h => c3 h.side
    have c31 : (side = 0) = False := by simp only [eq_iff_iff, iff_false]; omega
    have c32 : (side = 1) = False := by simp only [eq_iff_iff, iff_false]; omega
    simp [wpS, wpSs, wpT, wpTAll, wpE, upd, cmpV, neV, truthV, gl_STRONG_MOVES P, gl_WEAK_MOVES P, c31, c32, hx]
  rw [Classical.not_not] at c3
  have stage : K .next (upd (upd (upd (upd (upd (upd (upd (upd (fun _ => none) "geo" (.ref g)) "table" (.ref t)) "kind" (.int kind)) "side" (.int side)) "strong" (.int a)) "piece" (.int c)) "weak" (.int d)) "size" (.int s)) σ := by
    refine hK _ _ (step fun K hK hR hC => ?_)
    simp [wpS, wpE, wpEs, upd, srcItems]
    rw [forW]
    refine ⟨rfl, _, rfl, sq_step (by simp [upd]) upd_same (fun c4 => ?_) fun h => hbad fun h' => h h'.a⟩
    simp only
    rw [forW]
    refine ⟨rfl, _, rfl, sq_step (by simp [upd]) upd_same (fun c5 => ?_) fun h => hbad fun h' => h h'.c⟩
    simp only
    rw [forW]
    refine ⟨rfl, _, rfl, sq_step (by simp [upd]) upd_same (fun c6 => ?_) fun h => hbad fun h' => h h'.d⟩
    simp only
    rw [forW]
    refine ⟨rfl, ?_⟩
    refine hK _ _ (step fun K hK hR hC => ?_)
    obtain ⟨a', rfl⟩ := Int.eq_ofNat_of_zero_le c4.1
    obtain ⟨c', rfl⟩ := Int.eq_ofNat_of_zero_le c5.1
    obtain ⟨d', rfl⟩ := Int.eq_ofNat_of_zero_le c6.1
    obtain ⟨e', rfl, he⟩ : ∃ e' : Nat, side = e' ∧ e' < 2 := by
      rcases c3 with rfl | rfl
      · exact ⟨0, rfl, by decide⟩
      · exact ⟨1, rfl, by decide⟩
    have hin : (⟨e', a', c', d'⟩ : Pl).In s := ⟨he, by have := c4.2; simp only; omega, by have := c5.2; simp only; omega, by have := c6.2; simp only; omega⟩
    simp [wpS, wpE, wpEs, upd, gl_index_of P]
    refine SemCall.mono (s_idx P s hs12 e' a' c' d') (fun v σ'' ⟨hv, hσ2⟩ => ?_) fun _ h => h
    subst hv hσ2
    rw [item_ints hT (by rw [c2]; exact idx_lt hin) hl]
    refine hR _ _ _ ?_
    exact hgood ⟨c1, c2, c3, c4, c5, c6⟩ _ rfl rfl rfl rfl hin
  rcases c3 with rfl | rfl <;>
  · simp [wpS, wpT, wpTAll, wpE, upd, cmpV, neV, truthV, gl_STRONG_MOVES P, gl_WEAK_MOVES P]
    exact done stage
end
end Mine

end

section
open PySem
set_option linter.unusedVariables false
set_option linter.unusedSimpArgs false
set_option maxRecDepth 100000
namespace Mine

def wordOf (s : Nat) (tbl : List Int) : Option Pl → Int
  | none => -1
  | some q => at_ tbl (idx s q)
structure BrdIs (σ : Store) (z : Nat) (b : Bd) : Prop where
  zone : σ[z]? = some (.list ((b.zone.map fun (n : Nat) => (n : Int)).map V.int))
def brdV (b : Bd) (z : Nat) : V := .tup [.int b.G.files, .int b.s, .int b.kind, .ref z]
theorem BrdIs.keep {σ σ' : Store} {z : Nat} {b : Bd} (h : BrdIs σ z b) (k : Keep σ σ') : BrdIs σ' z b := ⟨k _ _ h.zone⟩

section
variable {C : Ctx} (P : Prg C) {X : Store → Prop} {σ : Store}
include P

theorem s_probe {g t : Nat} {b : Bd} (o : b.Ok) (hG : GeoIs σ g b.G) {tbl : List Int} (hT : Tab b σ t tbl) (p : Pl) (hp : p.In b.s) :
    SemCall C 3 "probe" [.ref g, .ref t, .int b.kind, .int p.side, .int p.king, .int p.man, .int p.bare] σ (fun v σ' => v = .int (at_ tbl (idx b.s p)) ∧ σ' = σ) X := by
  refine s_probe_gen P o.geo hG hT.here (by rw [hT.len]; have := o.cube; omega) _ _ _ _ _ (fun _ q h1 h2 h3 h4 _ => ?_) fun h => (h ?_).elim
  · have : q = p := by
      cases p; cases q
      simp only at h1 h2 h3 h4
      simp only [Pl.mk.injEq]; omega
    subst this; exact ⟨rfl, rfl⟩
  · have h1 := hp.side; have h2 := hp.king; have h3 := hp.man; have h4 := hp.bare; have h5 := o.kind
    refine ⟨by omega, hT.len, by omega, ⟨by omega, ?_⟩, ⟨by omega, ?_⟩, by omega, ?_⟩ <;> exact_mod_cast ‹_›

theorem s_word {g t z : Nat} {b : Bd} (o : b.Ok) (hG : GeoIs σ g b.G) {tbl : List Int} (hT : Tab b σ t tbl) (p : Option Pl) (hp : ∀ q, p = some q → q.In b.s) :
    SemCall C 5 "_law_word" [.ref g, brdV b z, .ref t, plV p] σ (fun v σ' => v = .int (wordOf b.s tbl p) ∧ σ' = σ) X := by
  refine P.call P.f__law_word rfl ?_
  refine step fun K hK hR hC => ?_
  cases p with
  | none =>
    simp [wpS, wpT, wpE, cmpV, isNoneV, truthV, upd, bindL, plV]
    refine step fun K' hK' hR' hC' => ?_
    simp [wpS, wpE]
    exact hR' _ _ _ (hR _ _ _ ⟨rfl, rfl⟩)
  | some q =>
    simp [wpS, wpT, wpE, cmpV, isNoneV, truthV, upd, bindL, plV, Pl.v]
    refine done (hK _ _ (step fun K hK hR hC => ?_))
    simp [wpS, wpE, wpEs, upd, gl_probe P, brdV, wpItem]
    refine SemCall.mono (s_probe P o hG hT q (hp _ rfl)) (fun v σ'' ⟨hv, hσ2⟩ => ?_) fun _ h => h
    subst hv hσ2
    exact hR _ _ _ ⟨rfl, rfl⟩

omit P in
theorem apart_bd (f o g : Nat) (hf : 0 < f ∧ f ≤ 12) (ho : o < 200) (hg : g < 200) : (0 ≤ (apart f o g).1 ∧ (apart f o g).1 < 200) ∧ (0 ≤ (apart f o g).2 ∧ (apart f o g).2 < 200) := by
  unfold apart
  have h1 : o % f < f := Nat.mod_lt _ hf.1
  have h2 : g % f < f := Nat.mod_lt _ hf.1
  have h3 : o / f ≤ o := Nat.div_le_self _ _
  have h4 : g / f ≤ g := Nat.div_le_self _ _
  have e1 : (o : Int) % f = (o % f : Nat) := by simp
  have e2 : (g : Int) % f = (g % f : Nat) := by simp
  have e3 : (o : Int) / f = (o / f : Nat) := by simp
  have e4 : (g : Int) / f = (g / f : Nat) := by simp
  rw [e1, e2, e3, e4]
  generalize o % f = x1 at *
  generalize g % f = x2 at *
  generalize o / f = x3 at *
  generalize g / f = x4 at *
  clear e1 e2 e3 e4
  simp only
  omega

theorem two_all {n : Nat} {x : String} {c d kind : Int} {bx : Bool} {m : Loc} {Q : Bool → Store → Prop} (h1 : m x = some (.bool bx)) (h2 : m "kind" = some (.int kind)) (h : Q (bx && decide (kind = c ∨ kind = d)) σ) :
    wpT C n X (.all [.loc x, .cmp .In (.loc "kind") (.tup [.cint c, .cint d])]) m σ Q := by
  rw [wpT, wpTAll, wpT, wpE]
  · refine ⟨_, h1, _, rfl, ?_⟩
    cases bx
    · simpa using h
    · simp only [if_true]
      rw [wpTAll, wpT, wpE, wpE]
      · refine ⟨_, h2, ?_⟩
        simp only [wpE, wpEs]
        refine ⟨decide (kind ∈ [c, d]), rfl, _, rfl, ?_⟩
        have e : decide (kind ∈ [c, d]) = decide (kind = c ∨ kind = d) := by apply decide_eq_decide.mpr; simp
        rw [← e] at h
        cases hd : decide (kind ∈ [c, d])
        · rw [hd] at h; exact h
        · rw [hd] at h
          simp only [if_true]
          rw [wpTAll]; exact h
      all_goals (intros; simp_all)
  all_goals (intros; simp_all)

theorem s_strikes (f kind : Nat) (hkind : 2 ≤ kind ∧ kind ≤ 5) (hf : 0 < f ∧ f ≤ 12) (o g : Nat) (ho : o < 200) (hg : g < 200) (w : Nat) (wall : List Int) (hw : σ[w]? = some (.list (wall.map V.int))) :
    SemCall C 3 "_law_strikes" [.int f, .int kind, .int o, .int g, .ref w] σ (fun v σ' => v = .bool (strikes f kind o g wall) ∧ Keep σ σ') X := by
  refine P.call P.f__law_strikes rfl ?_
  obtain ⟨bA, bU⟩ := apart_bd f o g hf ho hg
  unfold strikes
  generalize hA : (apart f o g).1 = A at *
  generalize hU : (apart f o g).2 = U at *
  refine step fun K hK hR hC => ?_
  simp [wpS, wpE, wpEs, upd, gl_law_apart P]
  refine SemCall.mono (s_apart P f o g (by omega)) (fun v σ'' ⟨hv, hσ2⟩ => ?_) fun _ h => h
  subst hv hσ2
  rw [hA, hU]
  simp [wpAssign, bndT, bindL]
  refine hK _ _ (step fun K hK hR hC => ?_)
  by_cases k2 : kind = 2
  · subst k2
    simp [wpS, wpT, wpE, cmpV, eqV, truthV, upd]
    refine step fun K' hK' hR' hC' => ?_
    simp [wpS, wpE, wpEs, wpB, cmpV, eqV, truthV, upd, List.getElem?_append, -Bool.exists_bool]
    refine ⟨A, U, ⟨rfl, rfl⟩, decide (A = 1 ∧ U = 2 ∨ A = 2 ∧ U = 1), ?_, hR' _ _ _ (hR _ _ _ ⟨by simp [strikesC], ?_⟩)⟩
    · by_cases hUA : U < A
      · simp only [hUA, if_true, intsOf]; congr 1; apply decide_eq_decide.mpr; simp; omega
      · simp only [hUA, if_false, intsOf]; congr 1; apply decide_eq_decide.mpr; simp; omega
    · exact fun i o h => by rw [List.getElem?_append_left (List.getElem?_eq_some_iff.mp h).1]; exact h
  · have k2' : ((kind : Int) = 2) = False := by simp only [eq_iff_iff, iff_false]; omega
    simp [wpS, wpT, wpE, cmpV, eqV, truthV, upd, k2']
    refine done (hK _ _ (step fun K hK hR hC => ?_))
    simp [wpS, wpE, wpAssign, cmpV, eqV, neV, truthV, upd, -Bool.exists_bool]
    refine ⟨decide (A = 0) != decide (U = 0), by cases decide (A = 0) <;> cases decide (U = 0) <;> rfl, hK _ _ (step fun K hK hR hC => ?_)⟩
    have hall : ∀ (m : Loc) (Q : V → Store → Prop), m "across" = some (.int A) → m "up" = some (.int U) → Q (.bool (decide (A = U) && decide (0 < A))) σ'' →
        wpE C 2 X (.all [(.cmp .Eq (.loc "across") (.loc "up")), (.cmp .Gt (.loc "across") (.cint 0))]) m σ'' Q := by
      intro m Q h1 h2 h3
      by_cases e : A = U
      · subst e; simp [wpE, wpAll, h1, h2, cmpV, eqV, truthV, -Bool.exists_bool]; simpa using h3
      · simp [wpE, wpAll, h1, h2, cmpV, eqV, truthV, e, -Bool.exists_bool]; simpa [e] using h3
    rw [wpS]
    refine hall _ _ (by simp [upd]) (by simp [upd]) ?_
    simp only [wpAssign]
    refine hK _ _ (step fun K hK hR hC => ?_)
    have hres : strikesC A U f kind o g wall = (if ((decide (A = 0) != decide (U = 0)) && decide (kind = 4 ∨ kind = 5)) || ((decide (A = U) && decide (0 < A)) && decide (kind = 3 ∨ kind = 5)) then
        (List.range' 1 ((max A U).toNat - 1)).all fun (far : Nat) =>
          !decide (((o : Int) / f + ((g : Int) / f - (o : Int) / f) * far / max A U) * f + ((o : Int) % f + ((g : Int) % f - (o : Int) % f) * far / max A U) ∈ wall) else false) := by
      have i45 : decide ((kind : Int) = 4 ∨ (kind : Int) = 5) = decide (kind = 4 ∨ kind = 5) := by apply decide_eq_decide.mpr; omega
      have i35 : decide ((kind : Int) = 3 ∨ (kind : Int) = 5) = decide (kind = 3 ∨ kind = 5) := by apply decide_eq_decide.mpr; omega
      unfold strikesC
      simp only [k2', if_false, i45, i35]
    generalize (decide (A = 0) != decide (U = 0)) = st at hres ⊢
    generalize (decide (A = U) && decide (0 < A)) = asl at hres ⊢
    generalize hk45 : decide (kind = 4 ∨ kind = 5) = k45 at hres
    generalize hk35 : decide (kind = 3 ∨ kind = 5) = k35 at hres
    have hw1 : ∀ (m : Loc) (Q : Bool → Store → Prop), m "is_straight" = some (.bool st) → m "is_aslant" = some (.bool asl) → m "kind" = some (.int kind) → Q (!(st && k45 || asl && k35)) σ'' →
        wpT C 2 X (.not (.any [(.all [(.loc "is_straight"), (.cmp .In (.loc "kind") (.tup [(.cint 4), (.cint 5)]))]), (.all [(.loc "is_aslant"), (.cmp .In (.loc "kind") (.tup [(.cint 3), (.cint 5)]))])])) m σ'' Q := by
      intro m Q h1 h2 h3 h4
      have hk4 : decide ((kind : Int) = 4 ∨ (kind : Int) = 5) = k45 := by rw [← hk45]; apply decide_eq_decide.mpr; omega
      have hk3 : decide ((kind : Int) = 3 ∨ (kind : Int) = 5) = k35 := by rw [← hk35]; apply decide_eq_decide.mpr; omega
      rw [wpT, wpT, wpTAny]
      refine two_all P h1 h3 ?_
      rw [hk4]
      cases hb : (st && k45)
      · simp only [Bool.false_eq_true, if_false]
        rw [wpTAny]
        refine two_all P h2 h3 ?_
        rw [hk3]
        rw [hb, Bool.false_or] at h4
        cases hb2 : (asl && k35)
        · simp only [Bool.false_eq_true, if_false]
          rw [wpTAny]; rw [hb2] at h4; exact h4
        · simp only [if_true]; rw [hb2] at h4; exact h4
      · simp only [if_true]
        rw [hb, Bool.true_or] at h4; exact h4
    rw [wpS]
    refine hw1 _ _ (by simp [upd]) (by simp [upd]) (by simp [upd]) ?_
    by_cases hc : ¬ (st && k45 || asl && k35) = true
    · rw [Bool.not_eq_true] at hc
      rw [hc] at hres ⊢
      simp only [Bool.not_false, if_true]
      refine step fun K' hK' hR' hC' => ?_
      simp only [wpS, wpE]
      refine hR' _ _ _ (hR _ _ _ ⟨by rw [hres]; rfl, Keep.refl _⟩)
    rw [Classical.not_not] at hc
    rw [hc] at hres ⊢
    simp only [Bool.not_true, Bool.false_eq_true, if_false]
    refine done (hK _ _ (step fun K hK hR hC => ?_))
    obtain ⟨len, hlen⟩ := Int.eq_ofNat_of_zero_le (a := max A U) (by omega)
    have hl200 : len < 200 := by omega
    simp [wpS, wpE, wpEs, wpB, wpAssign, upd, hlen]
    refine hK _ _ (step fun K hK hR hC => ?_)
    simp only [hlen, Int.toNat_natCast, if_true] at hres
    simp [wpS, wpE, wpEs, wpB, upd]
    refine ⟨by omega, ?_⟩
    by_cases hl0 : len < 1
    · have : len = 0 := by omega
      subst this
      refine ⟨[], rfl, rfl, ?_⟩
      refine hK _ _ (step fun K hK hR hC => ?_)
      simp [wpS, wpE]
      exact hR _ _ _ ⟨by rw [hres]; simp, Keep.refl _⟩
    generalize hpred : (fun (far : Nat) => !decide (((o : Int) / f + ((g : Int) / f - (o : Int) / f) * far / (len : Int)) * f + ((o : Int) % f + ((g : Int) % f - (o : Int) % f) * far / (len : Int)) ∈ wall)) = pred at hres
    refine forW_rng (a := 1) (b := len) (by omega) (fun i m σ' => σ' = σ'' ∧ m "files" = some (.int f) ∧ m "origin" = some (.int o) ∧ m "goal" = some (.int g) ∧ m "wall" = some (.ref w) ∧ m "length" = some (.int len) ∧ (List.range' 1 (i - 1)).all pred = true)
      ⟨rfl, by simp [upd, bindL], by simp [upd, bindL], by simp [upd, bindL], by simp [upd, bindL], by simp [upd, bindL], by simp⟩ ?_ ?_
    · rintro i m σ' h1 hi ⟨rfl, m1, m2, m3, m4, m5, hall⟩ K k1 k2 k3
      have hp : pred i = !decide (((o : Int) / f + ((g : Int) / f - (o : Int) / f) * i / (len : Int)) * f + ((o : Int) % f + ((g : Int) % f - (o : Int) % f) * i / (len : Int)) ∈ wall) := by rw [← hpred]
      refine step fun K' hK' hR' hC' => ?_
      simp only [wpS, wpE]
      refine ⟨_, by simp [upd]; exact m2, _, by simp [upd]; exact m1, ?_⟩
      refine ⟨⟨by omega, by omega⟩, _, by simp [upd]; exact m3, _, by simp [upd]; exact m1, ?_⟩
      refine ⟨⟨by omega, by omega⟩, _, by simp [upd]; exact m2, _, by simp [upd]; exact m1, ?_⟩
      refine ⟨⟨by omega, by omega⟩, ?_⟩
      refine ⟨_, by simp [upd]; rfl, ?_⟩
      refine ⟨.inr (by omega), _, by simp [upd]; exact m5, ?_⟩
      refine ⟨⟨by omega, by omega⟩, ?_⟩
      simp only [wpBin, wpAssign]
      generalize ((o : Int) % f + ((g : Int) % f - (o : Int) % f) * i / (len : Int)) = xv at hp ⊢
      refine hK' _ _ (step fun K' hK' hR' hC' => ?_)
      simp only [wpS, wpE]
      refine ⟨_, by simp [upd]; exact m2, _, by simp [upd]; exact m1, ?_⟩
      refine ⟨⟨by omega, by omega⟩, _, by simp [upd]; exact m3, _, by simp [upd]; exact m1, ?_⟩
      refine ⟨⟨by omega, by omega⟩, _, by simp [upd]; exact m2, _, by simp [upd]; exact m1, ?_⟩
      refine ⟨⟨by omega, by omega⟩, ?_⟩
      refine ⟨_, by simp [upd]; rfl, ?_⟩
      refine ⟨.inr (by omega), _, by simp [upd]; exact m5, ?_⟩
      refine ⟨⟨by omega, by omega⟩, ?_⟩
      simp only [wpBin, wpAssign]
      generalize ((o : Int) / f + ((g : Int) / f - (o : Int) / f) * i / (len : Int)) = yv at hp ⊢
      refine hK' _ _ (step fun K' hK' hR' hC' => ?_)
      rw [wpS, wpT, wpE, wpE, wpE, wpE]
      · refine ⟨_, by simp [upd]; rfl, ?_⟩
        rw [wpE]
        refine ⟨_, by simp [upd]; exact m1, ?_⟩
        refine ⟨.inr (by omega), ?_⟩
        simp only [wpE]
        refine ⟨_, by simp [upd]; rfl, ?_⟩
        simp only [wpBin]
        refine ⟨_, by simp [upd]; exact m4, decide ((yv * f + xv) ∈ wall), by simp [cmpV, memV, hw, intsOf_map], _, rfl, ?_⟩
        cases hd : decide ((yv * f + xv) ∈ wall)
        · simp only [Bool.false_eq_true, if_false]
          refine done (hK' _ _ (done (k1 _ _ ⟨rfl, by simp [upd]; exact m1, by simp [upd]; exact m2, by simp [upd]; exact m3, by simp [upd]; exact m4, by simp [upd]; exact m5, ?_⟩)))
          rw [show i + 1 - 1 = (i - 1) + 1 by omega, List.range'_concat]
          simp only [List.all_append, hall, List.all_cons, List.all_nil, Nat.one_mul, show 1 + (i - 1) = i by omega, hp, hd]; rfl
        · simp only [if_true]
          refine step fun K'' hK'' hR'' hC'' => ?_
          simp only [wpS, wpE]
          refine hR'' _ _ _ (hR' _ _ _ (k3 _ _ _ (hR _ _ _ ⟨?_, Keep.refl _⟩)))
          rw [hres]
          congr 1
          symm
          rw [List.all_eq_false]
          exact ⟨i, by simp; omega, by rw [hp, hd]; simp⟩
      all_goals (intros; simp_all)
    · rintro m σ' ⟨rfl, m1, m2, m3, m4, m5, hall⟩
      refine hK _ _ (step fun K hK hR hC => ?_)
      simp [wpS, wpE]
      exact hR _ _ _ ⟨by rw [hres, hall], Keep.refl _⟩
end
end Mine

end

section
open PySem
set_option linter.unusedVariables false
set_option linter.unusedSimpArgs false
set_option maxRecDepth 100000
namespace Mine

theorem appendV_at {σ : Store} {a : Nat} {xs : List V} {v : V} (h : σ[a]? = some (.list xs)) (hl : xs.length < 1000000) : appendV σ (.ref a) v = some (σ.set a (.list (xs ++ [v]))) := by
  simp [appendV, h, hl]
theorem isListV_at {σ : Store} {a : Nat} {xs : List V} (h : σ[a]? = some (.list xs)) : isListV σ (.ref a) := ⟨_, _, rfl, h⟩
theorem set_at {σ : Store} {a : Nat} {o o' : AObj} (h : σ[a]? = some o) : (σ.set a o')[a]? = some o' := by
  have := (List.getElem?_eq_some_iff.mp h).1
  simp [this]
theorem set_ne {σ : Store} {a c : Nat} {o' : AObj} (h : a ≠ c) : (σ.set a o')[c]? = σ[c]? := List.getElem?_set_ne h

section
variable {C : Ctx} (P : Prg C) {X : Store → Prop} {σ : Store}
include P

theorem s_tch {b : Bd} (o : b.Ok) (a c : Nat) : SemCall C 3 "_law_touch" [.int b.G.files, .int a, .int c] σ (fun v σ' => v = .bool (b.tch a c) ∧ σ' = σ) X :=
  s_touch P b.G.files a c (by have := o.fpos; omega)
theorem s_str {b : Bd} (o : b.Ok) (a c : Nat) (ha : a < b.s) (hc : c < b.s) (w : Nat) (wall : List Int) (hw : σ[w]? = some (.list (wall.map V.int))) :
    SemCall C 3 "_law_strikes" [.int b.G.files, .int b.kind, .int a, .int c, .ref w] σ (fun v σ' => v = .bool (b.str a c wall) ∧ Keep σ σ') X :=
  s_strikes P b.G.files b.kind o.kind o.fpos a c (by have : b.s ≤ 12 := o.s12; omega) (by have : b.s ≤ 12 := o.s12; omega) w wall hw

theorem s_stands {z : Nat} {b : Bd} (o : b.Ok) (hB : BrdIs σ z b) (p : Pl) (hp : p.In b.s) : SemCall C 5 "_law_stands" [brdV b z, p.v] σ (fun v σ' => v = .bool (stands b p) ∧ Keep σ σ') X := by
  refine P.call P.f__law_stands rfl ?_
  refine step fun K hK hR hC => ?_
  simp [wpS, wpE, wpAssign, upd, brdV, bndT, bindL, -Int.natCast_mul]
  refine hK _ _ (step fun K hK hR hC => ?_)
  simp [wpS, wpE, wpAssign, upd, Pl.v, bndT, bindL, -Int.natCast_mul]
  refine hK _ _ (step fun K hK hR hC => ?_)
  have zm : ∀ k : Nat, ((k : Int) ∈ b.zone.map fun (n : Nat) => (n : Int)) = (k ∈ b.zone) := by
    intro k; simp only [List.mem_map, eq_iff_iff]
    exact ⟨fun ⟨a, h, e⟩ => by have : a = k := by omega
                               subst this; exact h, fun h => ⟨k, h, rfl⟩⟩
  have fin : ∀ (r : Bool) (K' : Fl → Loc → Store → Prop) (m : Loc), (∀ v m₁ σ₁, K (.ret v) m₁ σ₁ → K' (.ret v) m₁ σ₁) → stands b p = false → K' (.ret (.bool false)) m σ :=
    fun r K' m h hs => h _ _ _ (hR _ _ _ ⟨by rw [hs], Keep.refl _⟩)
  have iz := intsOf_map (b.zone.map fun (n : Nat) => (n : Int))
  rw [wpS, wpT, wpTAny, wpT, wpE, wpE]
  · refine ⟨_, by simp [upd]; rfl, ?_⟩
    rw [wpE]
    refine ⟨_, by simp [upd]; rfl, !decide (p.king ∈ b.zone), by simp only [cmpV, memV, hB.zone, iz, zm], _, rfl, ?_⟩
    by_cases c1 : p.king ∈ b.zone
    · simp only [c1, decide_true, Bool.not_true, Bool.false_eq_true, if_false]
      rw [wpTAny, wpT, wpE, wpE]
      · refine ⟨_, by simp [upd]; rfl, ?_⟩
        simp only [wpE, wpEs]
        refine ⟨_, by simp [upd]; rfl, _, by simp [upd]; rfl, decide (p.man = p.king ∨ p.man = p.bare), ?_, _, rfl, ?_⟩
        · simp only [cmpV, memV, intsOf]; congr 1; apply decide_eq_decide.mpr; simp; omega
        by_cases c2 : p.man = p.king ∨ p.man = p.bare
        · simp only [c2, decide_true, if_true]
          refine step fun K' hK' hR' hC' => ?_
          simp only [wpS, wpE]
          refine fin false _ _ hR' ?_
          unfold stands; rcases c2 with h | h <;> simp [h]
        · simp only [c2, decide_false, Bool.false_eq_true, if_false]
          rw [wpTAny, wpT, wpE, wpE]
          · refine ⟨_, by simp [upd]; rfl, ?_⟩
            rw [wpE]
            refine ⟨_, by simp [upd]; rfl, decide (p.king = p.bare), ?_, _, rfl, ?_⟩
            · simp only [cmpV, eqV]; congr 1; apply decide_eq_decide.mpr; omega
            by_cases c3 : p.king = p.bare
            · simp only [c3, decide_true, if_true]
              refine step fun K' hK' hR' hC' => ?_
              simp only [wpS, wpE]
              refine fin false _ _ hR' ?_
              unfold stands; simp [c3]
            · simp only [c3, decide_false, Bool.false_eq_true, if_false]
              rw [wpTAny, wpT, wpE, wpE]
              · refine ⟨_, gl_law_touch P, ?_⟩
                simp only [wpE, wpEs]
                refine ⟨_, by simp [upd]; rfl, _, by simp [upd]; rfl, _, by simp [upd]; rfl, _, _, rfl, rfl, ?_⟩
                refine SemCall.mono (s_tch P o p.king p.bare) (fun v σ'' ⟨hv, hσ2⟩ => ?_) fun _ h => h
                subst hv hσ2
                refine ⟨_, rfl, ?_⟩
                by_cases c4 : b.tch p.king p.bare = true
                · simp only [c4, if_true]
                  refine step fun K' hK' hR' hC' => ?_
                  simp only [wpS, wpE]
                  refine fin false _ _ hR' ?_
                  unfold stands; simp [c4]
                · rw [Bool.not_eq_true] at c4
                  simp only [c4, Bool.false_eq_true, if_false]
                  rw [wpTAny]
                  simp only [Bool.false_eq_true, if_false]
                  refine done (hK _ _ (step fun K hK hR hC => ?_))
                  rw [wpS, wpE, wpAnyL, wpE, wpE]
                  · refine ⟨_, by simp [upd]; rfl, ?_⟩
                    rw [wpE]
                    have hst : stands b p = (decide (p.side = 1) || !b.str p.man p.bare [(p.king : Int)]) := by
                      have c21 : p.man ≠ p.king := fun h => c2 (.inl h)
                      have c22 : p.man ≠ p.bare := fun h => c2 (.inr h)
                      unfold stands; simp [c1, c21, c22, c3, c4]
                    refine ⟨decide (p.side = 1), ?_, _, rfl, ?_⟩
                    · simp only [cmpV, eqV]; congr 1; apply decide_eq_decide.mpr; omega
                    by_cases c5 : p.side = 1
                    · simp only [c5, decide_true, if_true]
                      refine hR _ _ _ ⟨?_, Keep.refl _⟩
                      rw [hst]; simp [c5]
                    · simp only [c5, decide_false, Bool.false_eq_true, if_false]
                      rw [wpAnyL, wpE, wpE, wpE]
                      refine ⟨_, gl_law_strikes P, ?_⟩
                      simp only [wpE, wpEs]
                      refine ⟨_, by simp [upd]; rfl, _, by simp [upd]; rfl, _, by simp [upd]; rfl, _, by simp [upd]; rfl, _, by simp [upd]; rfl, _, _, rfl, rfl, ?_⟩
                      refine SemCall.mono (s_str P o p.man p.bare hp.man hp.bare _ [(p.king : Int)] (append_here _ _)) (fun v σ3 ⟨hv, k⟩ => ?_) fun _ h => h
                      subst hv
                      refine ⟨_, rfl, hR _ _ _ ⟨?_, (Keep.snoc _ _).trans k⟩⟩
                      rw [hst]; simp [c5]
                  all_goals nofun
              all_goals nofun
          all_goals nofun
      all_goals nofun
    · simp only [c1, decide_false, Bool.not_false, if_true]
      refine step fun K' hK' hR' hC' => ?_
      simp only [wpS, wpE]
      refine fin false _ _ hR' ?_
      unfold stands; simp [c1]
  all_goals nofun
end
end Mine

end

section
open PySem
set_option linter.unusedVariables false
set_option linter.unusedSimpArgs false
set_option maxRecDepth 100000
namespace Mine

def wayAt (b : Bd) (p : Pl) (g : Nat) : List Way := if p.side = 1 then wayW b p g else wayK b p g ++ wayM b p g
theorem flat_len2 {f : Nat → List Way} (h : ∀ g, (f g).length ≤ 2) : ∀ n, ((List.range n).flatMap f).length ≤ 2 * n
  | 0 => by simp
  | n + 1 => by
    rw [flat_succ, List.length_append]
    have h1 := flat_len2 h n
    have h2 := h n
    omega
theorem wayAt_len (b : Bd) (p : Pl) (g : Nat) : (wayAt b p g).length ≤ 2 := by
  unfold wayAt
  split
  · have := wayW_len b p g; omega
  · have := wayK_len b p g; have := wayM_len b p g; rw [List.length_append]; omega

section
variable {C : Ctx} (P : Prg C) {X : Store → Prop} {σ : Store}
include P

theorem s_ways {z : Nat} {b : Bd} (o : b.Ok) (hB : BrdIs σ z b) (p : Pl) (hp : p.In b.s) :
    SemCall C 7 "_law_ways" [brdV b z, p.v] σ (fun v σ' => ∃ a, v = .ref a ∧ σ.length ≤ a ∧ σ'[a]? = some (.list ((ways b p).map wyV)) ∧ Keep σ σ') X := by
  refine P.call P.f__law_ways rfl ?_
  have hs : b.s ≤ 12 := o.s12
  have hsf : b.G.files * b.G.ranks ≤ 12 := o.s12
  refine step fun K hK hR hC => ?_
  simp [wpS, wpE, wpAssign, upd, brdV, bndT, bindL, -Int.natCast_mul]
  refine hK _ _ (step fun K hK hR hC => ?_)
  simp [wpS, wpE, wpAssign, upd, Pl.v, bndT, bindL, -Int.natCast_mul]
  refine hK _ _ (step fun K hK hR hC => ?_)
  simp [wpS, wpE, wpEs, wpAssign]
  refine hK _ _ (step fun K hK hR hC => ?_)
  simp [wpS, wpE, wpEs, wpB, upd, -Bool.exists_bool, -Int.natCast_mul]
  refine ⟨by omega, ?_⟩
  refine forW_rng (a := 0) (b := b.s) (Nat.zero_le _) (fun i m σ' => Keep σ σ' ∧ σ'[σ.length]? = some (.list (((List.range i).flatMap (wayAt b p)).map wyV)) ∧ m "board" = some (brdV b z) ∧ m "files" = some (.int b.G.files) ∧ m "kind" = some (.int b.kind) ∧
    m "side" = some (.int p.side) ∧ m "king" = some (.int p.king) ∧ m "man" = some (.int p.man) ∧ m "bare" = some (.int p.bare) ∧ m "found" = some (.ref σ.length)) ⟨Keep.snoc _ _, by simp, by simp [upd, bindL, brdV], by simp [upd, bindL], by simp [upd, bindL], by simp [upd, bindL], by simp [upd, bindL], by simp [upd, bindL], by simp [upd, bindL], by simp [upd]⟩ ?_ ?_
  · rintro i m σ' _ hi ⟨ks, hf, m1, m2, m3, m4, m5, m6, m7, m8⟩ K k1 k2 k3
    have hlen : ∀ l : List Way, l.length ≤ 2 → (((List.range i).flatMap (wayAt b p) ++ l).map wyV).length < 1000000 := by
      intro l hl
      have := flat_len2 (wayAt_len b p) i; simp only [List.length_map, List.length_append]; omega
    have inv : ∀ (σ'' : Store), Keep σ σ'' → σ''[σ.length]? = some (.list (((List.range i).flatMap (wayAt b p) ++ wayAt b p i).map wyV)) →
        Keep σ σ'' ∧ σ''[σ.length]? = some (.list (((List.range (i + 1)).flatMap (wayAt b p)).map wyV)) ∧ upd m "goal" (.int i) "board" = some (brdV b z) ∧ upd m "goal" (.int i) "files" = some (.int b.G.files) ∧ upd m "goal" (.int i) "kind" = some (.int b.kind) ∧
    upd m "goal" (.int i) "side" = some (.int p.side) ∧ upd m "goal" (.int i) "king" = some (.int p.king) ∧ upd m "goal" (.int i) "man" = some (.int p.man) ∧ upd m "goal" (.int i) "bare" = some (.int p.bare) ∧ upd m "goal" (.int i) "found" = some (.ref σ.length) := by
      intro σ'' h1 h2
      exact ⟨h1, by rw [flat_succ]; exact h2, by simp [upd, m1], by simp [upd, m2], by simp [upd, m3], by simp [upd, m4], by simp [upd, m5], by simp [upd, m6], by simp [upd, m7], by simp [upd, m8]⟩
    refine step fun K' hK' hR' hC' => ?_
    by_cases h1 : p.side = 1
    · simp [wpS, wpT, wpE, cmpV, eqV, truthV, upd, m4, h1]
      have wA : wayAt b p i = wayW b p i := by unfold wayAt; rw [if_pos h1]
      refine step fun K'' hK'' hR'' hC'' => ?_
      have fin : ∀ (σ'' : Store), Keep σ σ'' → σ''[σ.length]? = some (.list (((List.range i).flatMap (wayAt b p) ++ wayAt b p i).map wyV)) → K'' .next (upd m "goal" (.int i)) σ'' := by
        intro σ'' a1 a2
        refine hK'' _ _ (step fun K3 hK3 hR3 hC3 => ?_)
        simp only [wpS]
        exact hC3 _ _ (hC' _ _ (k2 _ _ (inv _ a1 a2)))
      rw [wpS, wpT, wpE, wpE]
      · refine ⟨_, gl_law_touch P, ?_⟩
        simp only [wpE, wpEs]
        refine ⟨_, by simp [upd]; exact m2, _, by simp [upd]; exact m7, _, by simp [upd]; rfl, _, _, rfl, rfl, ?_⟩
        refine SemCall.mono ((s_tch P o p.bare i).up (b := 5) (by decide)) (fun v σ'' ⟨hv, hσ2⟩ => ?_) fun _ h => h
        subst hv hσ2
        refine ⟨_, rfl, ?_⟩
        cases ht : b.tch p.bare i
        · simp only [Bool.false_eq_true, if_false]
          refine done (fin _ ks ?_)
          rw [wA]; unfold wayW; simp [ht]; simpa using hf
        · simp only [if_true]
          refine step fun K3 hK3 hR3 hC3 => ?_
          by_cases hm : i = p.man
          · have hmi : (i : Int) = p.man := by omega
            simp [wpS, wpT, wpE, cmpV, eqV, truthV, upd, m6, hmi]
            refine step fun K4 hK4 hR4 hC4 => ?_
            simp only [wpS, wpT, wpE, wpEs]
            refine ⟨_, gl_law_touch P, _, by simp [upd]; exact m2, _, by simp [upd]; exact m5, _, by simp [upd]; exact m6, _, _, rfl, rfl, ?_⟩
            refine SemCall.mono ((s_tch P o p.king p.man).up (b := 5) (by decide)) (fun v σ'' ⟨hv, hσ2⟩ => ?_) fun _ h => h
            subst hv hσ2
            refine ⟨_, rfl, ?_⟩
            cases ht2 : b.tch p.king p.man
            · simp only [Bool.not_false, if_true]
              refine step fun K5 hK5 hR5 hC5 => ?_
              simp only [wpS, wpE, wpEs]
              refine ⟨_, by simp [upd]; exact m8, isListV_at hf, _, by simp [upd]; exact m7, _, by simp [upd]; rfl, _, appendV_at hf (by simpa using hlen [] (by simp)), ?_⟩
              refine hK5 _ _ (done (hK4 _ _ (done (hK3 _ _ (done ?_)))))
              rw [show upd m "goal" (.int p.man) = upd m "goal" (.int i) by rw [hmi]]
              refine fin _ (ks.set (Nat.le_refl _) _) ?_
              rw [set_at hf, wA]
              unfold wayW; rw [hm] at ht; simp [hm, ht, ht2, wyV, plV]
            · simp only [Bool.not_true, Bool.false_eq_true, if_false]
              refine done (hK4 _ _ (done (hK3 _ _ (done ?_))))
              rw [show upd m "goal" (.int p.man) = upd m "goal" (.int i) by rw [hmi]]
              refine fin _ ks ?_
              rw [wA]; unfold wayW; simp [hm, ht2]; simpa [hm] using hf
          · have hmi : ((i : Int) = p.man) = False := by simp only [eq_iff_iff, iff_false]; omega
            simp [wpS, wpT, wpE, cmpV, eqV, truthV, upd, m6, hmi]
            refine step fun K4 hK4 hR4 hC4 => ?_
            simp only [wpS, wpT, wpE, wpEs]
            refine ⟨_, gl_law_stands P, _, by simp [upd]; exact m1, _, by simp [upd]; exact m5, _, by simp [upd]; exact m6, _, by simp [upd]; rfl, _, _, rfl, rfl, ?_⟩
            have hin : (⟨0, p.king, p.man, i⟩ : Pl).In b.s := ⟨by simp, hp.king, hp.man, hi⟩
            refine SemCall.mono (s_stands P o (hB.keep ks) ⟨0, p.king, p.man, i⟩ hin) (fun v σ'' ⟨hv, hk⟩ => ?_) fun _ h => h
            subst hv
            refine ⟨_, rfl, ?_⟩
            have hf2 := hk _ _ hf
            have ks2 := ks.trans hk
            cases hst : stands b ⟨0, p.king, p.man, i⟩
            · simp only [Bool.false_eq_true, if_false]
              refine done (hK4 _ _ (done (hK3 _ _ (done (fin _ ks2 ?_)))))
              rw [wA]; unfold wayW; simp [ht, hm, hst]; simpa using hf2
            · simp only [if_true]
              refine step fun K5 hK5 hR5 hC5 => ?_
              simp only [wpS, wpE, wpEs]
              refine ⟨_, by simp [upd]; exact m8, isListV_at hf2, _, by simp [upd]; exact m7, _, by simp [upd]; rfl, _, by simp [upd]; exact m5, _, by simp [upd]; exact m6, _, by simp [upd]; rfl, _, appendV_at hf2 (by simpa using hlen [] (by simp)), ?_⟩
              refine hK5 _ _ (done (hK4 _ _ (done (hK3 _ _ (done (fin _ (ks2.set (Nat.le_refl _) _) ?_))))))
              rw [set_at hf2, wA]
              unfold wayW; simp [hm, ht, hst, wyV, plV, Pl.v]
      all_goals nofun
    · have h1' : ((p.side : Int) = 1) = False := by simp only [eq_iff_iff, iff_false]; omega
      have wA : wayAt b p i = wayK b p i ++ wayM b p i := by unfold wayAt; rw [if_neg h1]
      simp [wpS, wpT, wpE, cmpV, eqV, truthV, upd, m4, h1']
      refine done (hK' _ _ (step fun K' hK' hR' hC' => ?_))
      have second : ∀ (σ'' : Store), Keep σ σ'' → σ''[σ.length]? = some (.list (((List.range i).flatMap (wayAt b p) ++ wayK b p i).map wyV)) → K' .next (upd m "goal" (.int i)) σ'' := by
        intro σ1 kk hf
        refine hK' _ _ (step fun K' hK' hR' hC' => ?_)
        have fin : ∀ (σ'' : Store), Keep σ σ'' → σ''[σ.length]? = some (.list (((List.range i).flatMap (wayAt b p) ++ wayAt b p i).map wyV)) → K' .next (upd m "goal" (.int i)) σ'' := by
          intro σ'' a1 a2
          exact hK' _ _ (done (k1 _ _ (inv _ a1 a2)))
        rw [wpS, wpT, wpTAll, wpT, wpE, wpE]
        · refine ⟨_, gl_law_strikes P, ?_⟩
          simp only [wpE, wpEs]
          refine ⟨_, by simp [upd]; exact m2, _, by simp [upd]; exact m3, _, by simp [upd]; exact m6, _, by simp [upd]; rfl, _, by simp [upd]; exact m5, _, by simp [upd]; exact m7, _, _, rfl, rfl, ?_⟩
          refine SemCall.mono ((s_str P o p.man i hp.man hi _ [(p.king : Int), (p.bare : Int)] (append_here _ _)).up (b := 5) (by decide)) (fun v σ2 ⟨hv, k⟩ => ?_) fun _ h => h
          subst hv
          refine ⟨_, rfl, ?_⟩
          have k2 : Keep σ1 σ2 := (Keep.snoc _ _).trans k
          have hf2 := k2 _ _ hf
          cases ht : b.str p.man i [(p.king : Int), (p.bare : Int)]
          · simp only [Bool.false_eq_true, if_false]
            refine done (fin _ (kk.trans k2) ?_)
            rw [wA]; unfold wayM; simp [ht]; simpa using hf2
          · simp only [if_true]
            rw [wpTAll, wpT, wpE, wpE]
            · refine ⟨_, gl_law_stands P, ?_⟩
              simp only [wpE, wpEs]
              refine ⟨_, by simp [upd]; exact m1, _, by simp [upd]; exact m5, _, by simp [upd]; rfl, _, by simp [upd]; exact m7, _, _, rfl, rfl, ?_⟩
              have hin : (⟨1, p.king, i, p.bare⟩ : Pl).In b.s := ⟨by simp, hp.king, hi, hp.bare⟩
              refine SemCall.mono (s_stands P o (hB.keep (kk.trans k2)) ⟨1, p.king, i, p.bare⟩ hin) (fun v σ3 ⟨hv, hk⟩ => ?_) fun _ h => h
              subst hv
              refine ⟨_, rfl, ?_⟩
              have hf3 := hk _ _ hf2
              have ks3 := (kk.trans k2).trans hk
              cases hst : stands b ⟨1, p.king, i, p.bare⟩
              · simp only [Bool.false_eq_true, if_false]
                refine done (fin _ ks3 ?_)
                rw [wA]; unfold wayM; simp [ht, hst]; simpa using hf3
              · simp only [if_true]
                rw [wpTAll]
                simp only [if_true]
                refine step fun K5 hK5 hR5 hC5 => ?_
                simp only [wpS, wpE, wpEs]
                refine ⟨_, by simp [upd]; exact m8, isListV_at hf3, _, by simp [upd]; exact m6, _, by simp [upd]; rfl, _, by simp [upd]; exact m5, _, by simp [upd]; rfl, _, by simp [upd]; exact m7, _, appendV_at hf3 (by simpa using hlen (wayK b p i) (by have := wayK_len b p i; omega)), ?_⟩
                refine hK5 _ _ (done (fin _ (ks3.set (Nat.le_refl _) _) ?_))
                rw [set_at hf3, wA]
                unfold wayM; simp [ht, hst, wyV, plV, Pl.v]
            all_goals nofun
        all_goals nofun
      rw [wpS, wpT, wpTAll, wpT, wpE, wpE]
      · refine ⟨_, gl_law_touch P, ?_⟩
        simp only [wpE, wpEs]
        refine ⟨_, by simp [upd]; exact m2, _, by simp [upd]; exact m5, _, by simp [upd]; rfl, _, _, rfl, rfl, ?_⟩
        refine SemCall.mono ((s_tch P o p.king i).up (b := 5) (by decide)) (fun v σ2 ⟨hv, hσ2⟩ => ?_) fun _ h => h
        subst hv hσ2
        refine ⟨_, rfl, ?_⟩
        cases ht : b.tch p.king i
        · simp only [Bool.false_eq_true, if_false]
          refine done (second _ ks ?_)
          unfold wayK; simp [ht]; simpa using hf
        · simp only [if_true]
          rw [wpTAll, wpT, wpE, wpE]
          · refine ⟨_, gl_law_stands P, ?_⟩
            simp only [wpE, wpEs]
            refine ⟨_, by simp [upd]; exact m1, _, by simp [upd]; rfl, _, by simp [upd]; exact m6, _, by simp [upd]; exact m7, _, _, rfl, rfl, ?_⟩
            have hin : (⟨1, i, p.man, p.bare⟩ : Pl).In b.s := ⟨by simp, hi, hp.man, hp.bare⟩
            refine SemCall.mono (s_stands P o (hB.keep ks) ⟨1, i, p.man, p.bare⟩ hin) (fun v σ3 ⟨hv, hk⟩ => ?_) fun _ h => h
            subst hv
            refine ⟨_, rfl, ?_⟩
            have hf3 := hk _ _ hf
            have ks3 := ks.trans hk
            cases hst : stands b ⟨1, i, p.man, p.bare⟩
            · simp only [Bool.false_eq_true, if_false]
              refine done (second _ ks3 ?_)
              unfold wayK; simp [ht, hst]; simpa using hf3
            · simp only [if_true]
              rw [wpTAll]
              simp only [if_true]
              refine step fun K5 hK5 hR5 hC5 => ?_
              simp only [wpS, wpE, wpEs]
              refine ⟨_, by simp [upd]; exact m8, isListV_at hf3, _, by simp [upd]; exact m5, _, by simp [upd]; rfl, _, by simp [upd]; rfl, _, by simp [upd]; exact m6, _, by simp [upd]; exact m7, _, appendV_at hf3 (by simpa using hlen [] (by simp)), ?_⟩
              refine hK5 _ _ (done (second _ (ks3.set (Nat.le_refl _) _) ?_))
              rw [set_at hf3]
              unfold wayK; simp [ht, hst, wyV, plV, Pl.v]
          all_goals nofun
      all_goals nofun
  · rintro m σ' ⟨ks, hf, m1, m2, m3, m4, m5, m6, m7, m8⟩
    refine hK _ _ (step fun K hK hR hC => ?_)
    simp [wpS, wpE, m8]
    exact hR _ _ _ ⟨_, rfl, Nat.le_refl _, hf, ks⟩
end
end Mine

end

section
open PySem
set_option linter.unusedVariables false
set_option linter.unusedSimpArgs false
set_option maxRecDepth 100000
namespace Mine

def IsDue (b : Bd) (p : Pl) (ws : List Int) (d : Int) : Prop :=
  if p.side = 0 then ((∀ a ∈ ws, a < 0) ∧ d = -1) ∨ (∃ M ∈ ws, 0 ≤ M ∧ (∀ a ∈ ws, 0 ≤ a → M ≤ a) ∧ d = 1 + M)
  else if ws = [] then d = if b.str p.man p.bare [(p.king : Int)] = true then 0 else -1
  else ((∀ a ∈ ws, 0 ≤ a) ∧ ∃ M ∈ ws, (∀ a ∈ ws, a ≤ M) ∧ d = 1 + M) ∨ ((∃ a ∈ ws, a < 0) ∧ d = -1)

theorem wpB_len {σ : Store} {a : Nat} {xs : List V} {Q : V → Store → Prop} (h : σ[a]? = some (.list xs)) (hl : xs.length < 1000000) (hq : Q (.int xs.length) σ) : wpB "len" [.ref a] σ Q := by simp [wpB, h, hl, hq]
theorem wpB_max {σ : Store} {a : Nat} {l : List Int} {Q : V → Store → Prop} (h : σ[a]? = some (.list (l.map V.int))) (hl : l ≠ []) (hq : ∀ M, M ∈ l → (∀ a ∈ l, a ≤ M) → Q (.int M) σ) : wpB "max" [.ref a] σ Q := by
  simp only [wpB, h]; exact ⟨l, intsOf_map l, hl, hq⟩
theorem wpB_min {σ : Store} {a : Nat} {l : List Int} {Q : V → Store → Prop} (h : σ[a]? = some (.list (l.map V.int))) (hl : l ≠ []) (hq : ∀ M, M ∈ l → (∀ a ∈ l, M ≤ a) → Q (.int M) σ) : wpB "min" [.ref a] σ Q := by
  simp only [wpB, h]; exact ⟨l, intsOf_map l, hl, hq⟩

section
variable {C : Ctx} (P : Prg C) {X : Store → Prop} {σ : Store}
include P

theorem s_due {w z : Nat} {b : Bd} (o : b.Ok) (p : Pl) (hp : p.In b.s) {ws : List Int} (hw : σ[w]? = some (.list (ws.map V.int))) (hl : ws.length < 1000000) {d : Int} (hd : IsDue b p ws d) :
    SemCall C 5 "_law_due" [brdV b z, p.v, .ref w] σ (fun v σ' => v = .int d ∧ Keep σ σ') X := by
  refine P.call P.f__law_due rfl ?_
  refine step fun K hK hR hC => ?_
  rw [wpS]
  refine wpE_comp (fun i acc σ' => σ' = σ ∧ acc = ((ws.take i).filter (fun a => decide (0 ≤ a))).map V.int) (.ref w) (ws.map V.int) (fun Q' h => by rw [wpE]; exact ⟨_, by simp [upd], h⟩) (by simp [srcItems, hw]) (by simpa using hl) ⟨rfl, by simp⟩ ?_ ?_ ?_
  · rintro i acc σ' ⟨rfl, _⟩; simp [srcItems, hw]
  · rintro i v acc m' σ' hv ⟨rfl, rfl⟩ hm hx K' hK'
    rw [List.getElem?_map] at hv
    cases ha : ws[i]? with
    | none => rw [ha] at hv; cases hv
    | some a =>
      rw [ha] at hv; cases hv
      have ht : ws.take (i + 1) = ws.take i ++ [a] := by rw [List.take_add_one, ha]; rfl
      rw [wpCs, wpT, wpE, wpE]
      · refine ⟨_, hx, ?_⟩
        simp only [wpE]
        refine ⟨decide (0 ≤ a), rfl, _, rfl, ?_⟩
        cases h0 : decide (0 ≤ a)
        · simp only [Bool.false_eq_true, if_false]
          exact hK' _ _ ⟨rfl, by rw [ht]; simp [List.filter_append, h0]⟩
        · simp only [if_true]
          refine ⟨_, hx, ?_⟩
          exact hK' _ _ ⟨rfl, by rw [ht]; simp [List.filter_append, h0]⟩
      all_goals nofun
  rintro acc σ' ⟨rfl, rfl⟩
  simp only [wpAssign]
  have hlen : (ws.map V.int).length = ws.length := by simp
  rw [hlen, List.take_length]
  generalize hwon : ws.filter (fun a => decide (0 ≤ a)) = won
  have mwon : ∀ a, a ∈ won ↔ a ∈ ws ∧ 0 ≤ a := by intro a; rw [← hwon]; simp
  refine hK _ _ (step fun K hK hR hC => ?_)
  have iw := intsOf_map won
  unfold IsDue at hd
  by_cases h0 : p.side = 0
  · rw [if_pos h0] at hd
    simp [wpS, wpT, wpE, wpItem, cmpV, eqV, truthV, upd, Pl.v, h0]
    refine step fun K' hK' hR' hC' => ?_
    have h2 : ((σ' ++ [AObj.list (won.map V.int)]) ++ [AObj.list []])[σ'.length]? = some (.list (won.map V.int)) := by simp
    have h3 : ((σ' ++ [AObj.list (won.map V.int)]) ++ [AObj.list []])[(σ' ++ [AObj.list (won.map V.int)]).length]? = some (.list []) := append_here _ _
    rw [wpS, wpE, wpT, wpE, wpE]
    · refine ⟨_, by simp [upd]; rfl, ?_⟩
      simp only [wpE, wpEs]
      refine ⟨!decide (won = []), by simp only [cmpV, neV, h2, h3, iw, intsOf], _, rfl, ?_⟩
      have fin : ∀ v m₁, v = V.int d → K' (.ret v) m₁ ((σ' ++ [AObj.list (won.map V.int)]) ++ [AObj.list []]) := by
        intro v m₁ hv
        exact hR' _ _ _ (hR _ _ _ ⟨hv, (Keep.snoc _ _).trans (Keep.snoc _ _)⟩)
      cases hwn : decide (won = [])
      · simp only [Bool.not_false, if_true]
        have hne : won ≠ [] := by simpa using hwn
        refine ⟨_, by simp [upd]; rfl, ?_⟩
        refine wpB_min h2 hne fun M hM hle => ?_
        simp only [wpBin]
        refine fin _ _ ?_
        rcases hd with ⟨hneg, _⟩ | ⟨M', hM', h0', hmin, rfl⟩
        · have := (mwon M).mp hM; have := hneg M this.1; omega
        · have a1 := hle M' ((mwon _).mpr ⟨hM', h0'⟩)
          have a2 := (mwon M).mp hM
          have a3 := hmin M a2.1 a2.2
          congr 1; omega
      · simp only [Bool.not_true, Bool.false_eq_true, if_false]
        have hne : won = [] := by simpa using hwn
        refine ⟨_, rfl, ?_⟩
        refine fin _ _ ?_
        rcases hd with ⟨_, rfl⟩ | ⟨M', hM', h0', hmin, rfl⟩
        · rfl
        · have := (mwon M').mpr ⟨hM', h0'⟩; rw [hne] at this; cases this
    all_goals nofun
  · rw [if_neg h0] at hd
    have h0' : ((p.side : Int) = 0) = False := by simp only [eq_iff_iff, iff_false]; omega
    simp [wpS, wpT, wpE, wpItem, cmpV, eqV, truthV, upd, Pl.v, h0', h0]
    refine done (hK _ _ (step fun K hK hR hC => ?_))
    have g1 : ((σ' ++ [AObj.list (won.map V.int)]) ++ [AObj.list []])[w]? = some (.list (ws.map V.int)) := ((Keep.snoc _ _).trans (Keep.snoc _ _)) _ _ hw
    have g2 : ((σ' ++ [AObj.list (won.map V.int)]) ++ [AObj.list []])[σ'.length]? = some (.list (won.map V.int)) := by simp
    have g3 : ((σ' ++ [AObj.list (won.map V.int)]) ++ [AObj.list []])[(σ' ++ [AObj.list (won.map V.int)]).length]? = some (.list []) := append_here _ _
    rw [wpS, wpT, wpE, wpE]
    · refine ⟨_, by simp [upd]; rfl, ?_⟩
      simp only [wpE, wpEs]
      refine ⟨decide (ws = []), by simp only [cmpV, eqV, g1, g3]; cases ws <;> rfl, _, rfl, ?_⟩
      by_cases hw0 : ws = []
      · rw [if_pos hw0] at hd
        simp only [hw0, decide_true, if_true]
        refine step fun K' hK' hR' hC' => ?_
        rw [wpS, wpE, wpT, wpE, wpE]
        · refine ⟨_, gl_law_strikes P, ?_⟩
          simp only [wpE, wpEs]
          refine ⟨_, by simp [upd]; rfl, ?_⟩
          refine ⟨by decide, by decide, _, rfl, _, by simp [upd]; rfl, ?_⟩
          refine ⟨by decide, by decide, _, rfl, _, by simp [upd]; rfl, ?_⟩
          refine ⟨by decide, by decide, _, rfl, _, by simp [upd]; rfl, ?_⟩
          refine ⟨by decide, by decide, _, rfl, _, by simp [upd]; rfl, ?_⟩
          refine ⟨by decide, by decide, _, rfl, _, _, rfl, rfl, ?_⟩
          refine SemCall.mono (s_str P o p.man p.bare hp.man hp.bare _ [(p.king : Int)] (append_here _ _)) (fun v σ3 ⟨hv, k⟩ => ?_) fun _ h => h
          subst hv
          refine ⟨_, rfl, ?_⟩
          have kk : Keep σ' σ3 := ((Keep.snoc _ _).trans (Keep.snoc _ _)).trans ((Keep.snoc _ _).trans k)
          cases hs : b.str p.man p.bare [(p.king : Int)]
          · simp only [Bool.false_eq_true, if_false]
            rw [hs] at hd
            exact ⟨_, rfl, hR' _ _ _ (hR _ _ _ ⟨by rw [hd]; rfl, kk⟩)⟩
          · simp only [if_true]
            rw [hs] at hd
            exact hR' _ _ _ (hR _ _ _ ⟨by rw [hd]; rfl, kk⟩)
        all_goals nofun
      · rw [if_neg hw0] at hd
        simp only [hw0, decide_false, Bool.false_eq_true, if_false]
        refine done (hK _ _ (step fun K hK hR hC => ?_))
        have lw : won.length ≤ ws.length := by rw [← hwon]; exact List.length_filter_le _ _
        rw [wpS, wpE, wpT, wpE, wpE, wpEs, wpE]
        · refine ⟨_, by simp [upd]; rfl, ?_⟩
          simp only [wpE, wpEs]
          refine wpB_len g2 (by simp; omega) ⟨_, by simp [upd]; rfl, ?_⟩
          refine wpB_len g1 (by simp; omega) ⟨decide (won.length = ws.length), ?_, _, rfl, ?_⟩
          · simp only [cmpV, eqV, List.length_map]; congr 1; apply decide_eq_decide.mpr; omega
          have kk : Keep σ' ((σ' ++ [AObj.list (won.map V.int)]) ++ [AObj.list []]) := (Keep.snoc _ _).trans (Keep.snoc _ _)
          cases hwl : decide (won.length = ws.length)
          · simp only [Bool.false_eq_true, if_false]
            refine ⟨_, rfl, hR _ _ _ ⟨?_, kk⟩⟩
            rcases hd with ⟨hall, _⟩ | ⟨_, rfl⟩
            · exfalso
              have : won = ws := by rw [← hwon, List.filter_eq_self]; intro a ha; simpa using hall a ha
              rw [this] at hwl; simp at hwl
            · rfl
          · simp only [if_true]
            have hwl' : won.length = ws.length := by simpa using hwl
            have hall : ∀ a ∈ ws, 0 ≤ a := by
              rw [← hwon] at hwl'
              have := List.length_filter_eq_length_iff.mp hwl'
              intro a ha; simpa using this a ha
            refine ⟨_, by simp [upd]; rfl, ?_⟩
            refine wpB_max g2 ?_ fun M hM hle => ?_
            · intro h; rw [h] at hwl'; simp at hwl'; exact hw0 (List.length_eq_zero_iff.mp hwl'.symm)
            simp only [wpBin]
            refine hR _ _ _ ⟨?_, kk⟩
            rcases hd with ⟨_, M', hM', hmax, rfl⟩ | ⟨⟨a, ha, hn⟩, _⟩
            · have a1 := hle M' ((mwon _).mpr ⟨hM', hall _ hM'⟩)
              have a2 := hmax M ((mwon M).mp hM).1
              congr 1; omega
            · have := hall a ha; omega
        all_goals nofun
    all_goals nofun
end
end Mine

end

section
open PySem
set_option linter.unusedVariables false
set_option linter.unusedSimpArgs false
set_option maxRecDepth 100000
namespace Mine

theorem mem_moves {b : Bd} {p : Pl} {w : Way} : w ∈ moves b p ↔ ∃ g, g < b.s ∧ w ∈ wayAt b p g := by
  unfold moves wayAt
  split
  · simp
  · simp only [List.mem_append, List.mem_flatMap, List.mem_range]
    constructor
    · rintro (⟨g, h1, h2⟩ | ⟨g, h1, h2⟩)
      · exact ⟨g, h1, .inl h2⟩
      · exact ⟨g, h1, .inr h2⟩
    · rintro ⟨g, h1, h2 | h2⟩
      · exact .inl ⟨g, h1, h2⟩
      · exact .inr ⟨g, h1, h2⟩
theorem mem_ways {b : Bd} {p : Pl} {w : Way} : w ∈ ways b p ↔ ∃ g, g < b.s ∧ w ∈ wayAt b p g := by
  unfold ways
  simp only [List.mem_flatMap, List.mem_range]
  rfl
theorem moves_ways {b : Bd} {p : Pl} {w : Way} : w ∈ moves b p ↔ w ∈ ways b p := mem_moves.trans mem_ways.symm

/-- a way: who goes where, and the place behind it -/
inductive WayIs (b : Bd) (p : Pl) : Way → Prop
  | take (g : Nat) : p.side = 1 → g < b.s → g = p.man → WayIs b p (p.bare, g, none)
  | weak (g : Nat) : p.side = 1 → g < b.s → stands b ⟨0, p.king, p.man, g⟩ = true → WayIs b p (p.bare, g, some ⟨0, p.king, p.man, g⟩)
  | king (g : Nat) : p.side ≠ 1 → g < b.s → stands b ⟨1, g, p.man, p.bare⟩ = true → WayIs b p (p.king, g, some ⟨1, g, p.man, p.bare⟩)
  | man (g : Nat) : p.side ≠ 1 → g < b.s → stands b ⟨1, p.king, g, p.bare⟩ = true → WayIs b p (p.man, g, some ⟨1, p.king, g, p.bare⟩)
theorem wayW_is {b : Bd} {p : Pl} {w : Way} {g : Nat} (h1 : p.side = 1) (hg : g < b.s) (hw : w ∈ wayW b p g) : w.2.1 = g ∧ WayIs b p w := by
  unfold wayW at hw
  split at hw
  · split at hw
    · split at hw
      · cases hw
      · rw [List.mem_singleton] at hw; subst hw; exact ⟨rfl, .take g h1 hg ‹_›⟩
    · split at hw
      · rw [List.mem_singleton] at hw; subst hw; exact ⟨rfl, .weak g h1 hg ‹_›⟩
      · cases hw
  · cases hw
theorem wayK_is {b : Bd} {p : Pl} {w : Way} {g : Nat} (h1 : p.side ≠ 1) (hg : g < b.s) (hw : w ∈ wayK b p g) : w.1 = p.king ∧ w.2.1 = g ∧ WayIs b p w := by
  unfold wayK at hw
  split at hw
  · rename_i h
    rw [Bool.and_eq_true] at h
    rw [List.mem_singleton] at hw; subst hw; exact ⟨rfl, rfl, .king g h1 hg h.2⟩
  · cases hw
theorem wayM_is {b : Bd} {p : Pl} {w : Way} {g : Nat} (h1 : p.side ≠ 1) (hg : g < b.s) (hw : w ∈ wayM b p g) : w.1 = p.man ∧ w.2.1 = g ∧ WayIs b p w := by
  unfold wayM at hw
  split at hw
  · rename_i h
    rw [Bool.and_eq_true] at h
    rw [List.mem_singleton] at hw; subst hw; exact ⟨rfl, rfl, .man g h1 hg h.2⟩
  · cases hw
theorem wayAt_is {b : Bd} {p : Pl} {w : Way} {g : Nat} (hg : g < b.s) (hw : w ∈ wayAt b p g) : w.2.1 = g ∧ WayIs b p w := by
  unfold wayAt at hw
  split at hw
  · exact wayW_is ‹_› hg hw
  · rcases List.mem_append.mp hw with h | h
    · exact (wayK_is ‹_› hg h).2
    · exact (wayM_is ‹_› hg h).2
theorem ways_is {b : Bd} {p : Pl} {w : Way} (hw : w ∈ ways b p) : WayIs b p w := by
  obtain ⟨g, hg, h⟩ := mem_ways.mp hw
  exact (wayAt_is hg h).2
theorem WayIs.in_ {b : Bd} {p : Pl} {w : Way} (hp : p.In b.s) (h : WayIs b p w) {q : Pl} (e : w.2.2 = some q) : q.In b.s ∧ stands b q = true ∧ q.side = 1 - p.side := by
  cases h with
  | take g _ _ _ => cases e
  | weak g h1 hg hs => cases e; exact ⟨⟨by simp, hp.king, hp.man, hg⟩, hs, by simp [h1]⟩
  | king g h1 hg hs => cases e; exact ⟨⟨by simp, hg, hp.man, hp.bare⟩, hs, by have := hp.side; simp only; omega⟩
  | man g h1 hg hs => cases e; exact ⟨⟨by simp, hp.king, hg, hp.bare⟩, hs, by have := hp.side; simp only; omega⟩

/-- what best_move holds a move for worth -/
def worthOf (b : Bd) (tbl : List Int) (side : Nat) (w : Way) : Int :=
  let x : Int := if wordOf b.s tbl w.2.2 = -1 then tbl.length else wordOf b.s tbl w.2.2
  if side = 0 then -x else x
def bm : V := .tup [.int (-1), .int (-1)]
def IsBest (b : Bd) (tbl : List Int) (p : Pl) (v : V) : Prop :=
  ((stands b p = false ∨ moves b p = []) ∧ v = bm) ∨ (stands b p = true ∧ ∃ w ∈ moves b p, v = .tup [.int w.1, .int w.2.1] ∧ ∀ w' ∈ moves b p, worthOf b tbl p.side w' ≤ worthOf b tbl p.side w)

theorem moves_len (b : Bd) (p : Pl) : (moves b p).length ≤ 2 * b.s := by
  unfold moves
  split
  · have := flat_len (wayW_len b p) b.s; omega
  · have h1 := flat_len (wayM_len b p) b.s; have h2 := flat_len (wayK_len b p) b.s
    rw [List.length_append]; omega

theorem wpT_cmp {C : Ctx} {n : Nat} {X : Store → Prop} {op : CmpOp} {a b : E} {m : Loc} {σ : Store} {Q : Bool → Store → Prop} : wpT C n X (.cmp op a b) m σ Q = wpE C n X (.cmp op a b) m σ (fun v σ₁ => ∃ b, truthV v = some b ∧ Q b σ₁) := by
  rw [wpT]
  all_goals nofun
theorem wpT_call {C : Ctx} {n : Nat} {X : Store → Prop} {f : E} {a : List E} {m : Loc} {σ : Store} {Q : Bool → Store → Prop} : wpT C n X (.call f a) m σ Q = wpE C n X (.call f a) m σ (fun v σ₁ => ∃ b, truthV v = some b ∧ Q b σ₁) := by
  rw [wpT]
  all_goals nofun
section
variable {C : Ctx} (P : Prg C) {X : Store → Prop} {σ : Store}
include P

theorem s_best {g t : Nat} {b : Bd} (o : b.Ok) (hG : GeoIs σ g b.G) {tbl : List Int} (hT : Tab b σ t tbl) (mk : Marks b tbl) (p : Pl) (hp : p.In b.s) :
    SemCall C 17 "best_move" [.ref g, .ref t, .int b.kind, .int p.side, .int p.king, .int p.man, .int p.bare] σ (fun v σ' => IsBest b tbl p v ∧ Keep σ σ') X := by
  refine P.call P.f_best_move rfl ?_
  refine step fun K hK hR hC => ?_
  simp [wpS, wpE, wpEs, wpAssign]
  refine hK _ _ (step fun K hK hR hC => ?_)
  rw [wpS, wpT_cmp, wpE, wpE, wpE]
  refine ⟨_, gl_probe P, ?_⟩
  simp only [wpE, wpEs]
  refine ⟨_, by simp [upd]; rfl, _, by simp [upd]; rfl, _, by simp [upd]; rfl, _, by simp [upd]; rfl, _, by simp [upd]; rfl, _, by simp [upd]; rfl, _, by simp [upd]; rfl, _, _, rfl, rfl, ?_⟩
  refine SemCall.mono ((s_probe P o hG hT p hp).up (b := 15) (by decide)) (fun v σ2 ⟨hv, hσ2⟩ => ?_) fun _ h => h
  subst hv hσ2
  refine ⟨_, gl_NOT_A_PLACE P, decide (at_ tbl (idx b.s p) = -2), rfl, _, rfl, ?_⟩
  cases hst : stands b p
  · rw [show decide (at_ tbl (idx b.s p) = -2) = true by simpa using (mk p hp).mpr hst]
    simp only [if_true]
    refine step fun K' hK' hR' hC' => ?_
    simp only [wpS, wpE]
    refine ⟨_, by simp [upd]; rfl, hR' _ _ _ (hR _ _ _ ⟨.inl ⟨.inl hst, rfl⟩, Keep.refl _⟩)⟩
  rw [show decide (at_ tbl (idx b.s p) = -2) = false by rw [decide_eq_false_iff_not, mk p hp, hst]; simp]
  simp only [Bool.false_eq_true, if_false]
  refine done (hK _ _ (step fun K hK hR hC => ?_))
  simp [wpS, wpE, wpEs, wpAssign]
  refine hK _ _ (step fun K hK hR hC => ?_)
  simp only [wpS, wpE, wpEs]
  refine ⟨_, gl_moves_at P, _, by simp [upd]; rfl, _, by simp [upd]; rfl, _, by simp [upd]; rfl, _, by simp [upd]; rfl, _, by simp [upd]; rfl, _, by simp [upd]; rfl, _, by simp [upd]; rfl, _, _, rfl, rfl, ?_⟩
  refine SemCall.mono (s_moves P o hG hT mk p hp) (fun v σ3 ⟨hv, hσ3⟩ => ?_) fun _ h => h
  subst hv
  have ks : Keep σ2 σ3 := by rw [hσ3]; exact Keep.snoc _ _
  have hml := moves_len b p
  have hs : b.s ≤ 12 := o.s12
  refine ⟨(moves b p).map (mvV b.s), by simp [srcItems, hσ3], ?_⟩
  refine forW_inv (fun i m σ' => σ' = σ3 ∧ m "table" = some (.ref t) ∧ m "side" = some (.int p.side) ∧ ∃ bv top, m "best" = some bv ∧ m "top" = some (.int top) ∧
      ((i = 0 ∧ bv = bm) ∨ (∃ w ∈ (moves b p).take i, bv = .tup [.int w.1, .int w.2.1] ∧ top = worthOf b tbl p.side w ∧ ∀ w' ∈ (moves b p).take i, worthOf b tbl p.side w' ≤ worthOf b tbl p.side w)))
    ?_ ?_ ?_ _ 0 _ _ rfl (Nat.zero_le _) ⟨rfl, by simp [upd, bindL], by simp [upd, bindL], _, _, by simp [upd]; rfl, by simp [upd]; rfl, .inl ⟨rfl, rfl⟩⟩
  · rintro i m σ' ⟨rfl, _⟩; simp [srcItems, hσ3]
  · rintro i v m σ' hv ⟨rfl, m1, m2, bv, top, m3, m4, hb⟩ K k1 k2 k3
    rw [List.getElem?_map] at hv
    cases hw : (moves b p)[i]? with
    | none => rw [hw] at hv; cases hv
    | some w =>
      rw [hw] at hv; cases hv
      have hwm : w ∈ moves b p := List.mem_of_getElem? hw
      have hwi := ways_is (moves_ways.mp hwm)
      have htk : (moves b p).take (i + 1) = (moves b p).take i ++ [w] := by rw [List.take_add_one, hw]; rfl
      refine ⟨_, by simp only [bndT, mvV, bindL]; rfl, ?_⟩
      have hT3 := hT.keep ks
      refine step fun K' hK' hR' hC' => ?_
      simp only [wpS, wpE, wpEs]
      refine ⟨_, by simp [upd]; exact m1, wpB_len hT3.here (by rw [List.length_map, hT3.len]; have := o.cube; omega) ?_⟩
      simp only [wpAssign, List.length_map]
      refine hK' _ _ (step fun K' hK' hR' hC' => ?_)
      -- the worth before the sign
      have nxt : ∀ (m' : Loc), (∀ y, y ≠ "worth" → m' y = upd (upd (upd m "origin" (.int w.1)) "goal" (.int w.2.1)) "place" (.int (ixOf b.s w.2.2)) y) →
          m' "worth" = some (.int (if wordOf b.s tbl w.2.2 = -1 then tbl.length else wordOf b.s tbl w.2.2)) → K' .next m' σ' := by
        intro m' hm hwo
        refine hK' _ _ (step fun K' hK' hR' hC' => ?_)
        have n1 : m' "side" = some (.int p.side) := by rw [hm _ (by decide)]; simp [upd, m2]
        have last : ∀ (m'' : Loc), (∀ y, y ≠ "worth" → m'' y = m' y) → m'' "worth" = some (.int (worthOf b tbl p.side w)) → K' .next m'' σ' := by
          intro m'' hm'' hwo''
          refine hK' _ _ (step fun K' hK' hR' hC' => ?_)
          have q1 : m'' "best" = some bv := by rw [hm'' _ (by decide), hm _ (by decide)]; simp [upd, m3]
          have q2 : m'' "top" = some (.int top) := by rw [hm'' _ (by decide), hm _ (by decide)]; simp [upd, m4]
          have q3 : m'' "origin" = some (.int w.1) := by rw [hm'' _ (by decide), hm _ (by decide)]; simp [upd]
          have q4 : m'' "goal" = some (.int w.2.1) := by rw [hm'' _ (by decide), hm _ (by decide)]; simp [upd]
          have q5 : m'' "table" = some (.ref t) := by rw [hm'' _ (by decide), hm _ (by decide)]; simp [upd, m1]
          have q6 : m'' "side" = some (.int p.side) := by rw [hm'' _ (by decide), n1]
          have isb : ∃ e : Bool, cmpV σ' .Eq bv bm = some e ∧ (e = true ↔ i = 0) := by
            rcases hb with ⟨h0, rfl⟩ | ⟨w0, hw0, rfl, _⟩
            · exact ⟨true, by simp [cmpV, eqV, intsOf, bm], by simp [h0]⟩
            · refine ⟨false, ?_, ?_⟩
              · simp [cmpV, eqV, intsOf, bm]
              · constructor
                · intro h; cases h
                · intro h; subst h; simp at hw0
          obtain ⟨e, he, hei⟩ := isb
          have take : ∀ K0 : Fl → Loc → Store → Prop, (∀ m₁, K' .next m₁ σ' → K0 .next m₁ σ') → (e = true ∨ top < worthOf b tbl p.side w) → wpSs C 16 X [.assign (.name "best") (.tup [(.loc "origin"), (.loc "goal")]), .assign (.name "top") (.loc "worth")] m'' σ' fun fl m₁ σ₁ => K' fl m₁ σ₁ := by
            intro K0 _ hor
            refine step fun K6 hK6 hR6 hC6 => ?_
            simp only [wpS, wpE, wpEs]
            refine ⟨_, q3, _, q4, ?_⟩
            simp only [wpAssign]
            refine hK6 _ _ (step fun K7 hK7 hR7 hC7 => ?_)
            simp only [wpS, wpE, wpEs]
            refine ⟨_, by simp [upd]; exact hwo'', ?_⟩
            simp only [wpAssign]
            refine hK7 _ _ (done (hK' _ _ (done (k1 _ _ ⟨rfl, by simp [upd, q5], by simp [upd, q6], _, _, by simp [upd], by simp [upd], .inr ⟨w, by rw [htk]; simp, rfl, rfl, ?_⟩⟩))))
            intro w' hw'
            rw [htk] at hw'
            rcases List.mem_append.mp hw' with h | h
            · rcases hb with ⟨h0, _⟩ | ⟨w0, hw0, _, htop, hmax⟩
              · subst h0; simp at h
              · have := hmax w' h
                rcases hor with he' | hlt
                · have := hei.mp he'; subst this; simp at h
                · omega
            · rw [List.mem_singleton] at h; subst h; exact Int.le_refl _
          rw [wpS, wpT, wpTAny, wpT, wpE, wpE]
          · refine ⟨_, q1, ?_⟩
            simp only [wpE, wpEs]
            refine ⟨_, rfl, _, rfl, e, he, _, rfl, ?_⟩
            cases hce : e
            · simp only [Bool.false_eq_true, if_false]
              rw [wpTAny, wpT, wpE, wpE]
              · refine ⟨_, hwo'', ?_⟩
                simp only [wpE, wpEs]
                refine ⟨_, q2, decide (top < worthOf b tbl p.side w), rfl, _, rfl, ?_⟩
                cases hlt : decide (top < worthOf b tbl p.side w)
                · simp only [Bool.false_eq_true, if_false]
                  rw [wpTAny]
                  simp only [Bool.false_eq_true, if_false]
                  have hlt' : ¬ top < worthOf b tbl p.side w := by simpa using hlt
                  refine done (hK' _ _ (done (k1 _ _ ⟨rfl, q5, q6, _, _, q1, q2, ?_⟩)))
                  rcases hb with ⟨h0, _⟩ | ⟨w0, hw0, hbv, htop, hmax⟩
                  · have := hei.mpr h0; rw [hce] at this; cases this
                  · refine .inr ⟨w0, by rw [htk]; exact List.mem_append_left _ hw0, hbv, htop, ?_⟩
                    intro w' hw'
                    rw [htk] at hw'
                    rcases List.mem_append.mp hw' with h | h
                    · exact hmax w' h
                    · rw [List.mem_singleton] at h; subst h; omega
                · simp only [if_true]
                  exact take K' (fun _ h => h) (.inr (by simpa using hlt))
              all_goals nofun
            · simp only [if_true]
              exact take K' (fun _ h => h) (.inl hce)
          all_goals nofun
        rw [wpS, wpT, wpE, wpE]
        · refine ⟨_, n1, ?_⟩
          simp only [wpE]
          refine ⟨_, gl_STRONG_MOVES P, decide (p.side = 0), ?_, _, rfl, ?_⟩
          · simp only [cmpV, eqV]; congr 1; apply decide_eq_decide.mpr; omega
          cases hs0 : decide (p.side = 0)
          · simp only [Bool.false_eq_true, if_false]
            have hs0' : ¬ p.side = 0 := by simpa using hs0
            refine done (last _ (fun _ _ => rfl) ?_)
            rw [hwo]; simp [worthOf, hs0']
          · simp only [if_true]
            have hs0' : p.side = 0 := by simpa using hs0
            refine step fun K5 hK5 hR5 hC5 => ?_
            simp only [wpS, wpE]
            refine ⟨_, hwo, _, rfl, ?_⟩
            simp only [wpAssign]
            refine hK5 _ _ (done (last _ (fun y hy => by simp [upd, hy]) ?_))
            simp [upd, worthOf, hs0']
        all_goals nofun
      rw [wpS, wpT, wpTAll, wpT, wpE, wpE]
      · refine ⟨_, by simp [upd]; rfl, ?_⟩
        simp only [wpE]
        refine ⟨_, gl_OUTSIDE P, !decide (ixOf b.s w.2.2 = -1), rfl, _, rfl, ?_⟩
        cases hq : w.2.2 with
        | none =>
          simp only [ixOf, decide_true, Bool.not_true, Bool.false_eq_true, if_false]
          refine done (nxt _ (fun y hy => by simp [upd, hy]; rw [hq]; rfl) ?_)
          simp [upd, hq, wordOf]
        | some q =>
          have hin := (hwi.in_ hp hq).1
          have hne : ¬ ixOf b.s (some q) = -1 := by simp only [ixOf]; omega
          rw [decide_eq_false hne]
          simp only [ixOf, Bool.not_false, if_true]
          rw [wpTAll, wpT, wpE, wpE]
          · rw [wpE]
            refine ⟨_, by simp [upd]; exact m1, ?_⟩
            simp only [wpE]
            refine ⟨_, by simp [upd]; rfl, ?_⟩
            rw [hT3.item o hin]
            refine ⟨_, gl_NO_MATE P, !decide (at_ tbl (idx b.s q) = -1), rfl, _, rfl, ?_⟩
            cases hv : decide (at_ tbl (idx b.s q) = -1)
            · simp only [Bool.not_false, if_true]
              rw [wpTAll]
              simp only [if_true]
              refine step fun K5 hK5 hR5 hC5 => ?_
              simp only [wpS, wpE]
              refine ⟨_, by simp [upd]; exact m1, _, by simp [upd]; rfl, ?_⟩
              rw [hT3.item o hin]
              simp only [wpAssign]
              refine hK5 _ _ (done (nxt _ (fun y hy => by simp [upd, hy]; rw [hq]; rfl) ?_))
              have hv' : ¬ at_ tbl (idx b.s q) = -1 := by simpa using hv
              simp [upd, hq, wordOf, hv']
            · simp only [Bool.not_true, Bool.false_eq_true, if_false]
              have hv' : at_ tbl (idx b.s q) = -1 := by simpa using hv
              refine done (nxt _ (fun y hy => by simp [upd, hy]; rw [hq]; rfl) ?_)
              simp [upd, hq, wordOf, hv']
          all_goals nofun
      all_goals nofun
  · rintro m σ' ⟨rfl, m1, m2, bv, top, m3, m4, hb⟩
    refine hK _ _ (step fun K hK hR hC => ?_)
    simp only [wpS, wpE]
    refine ⟨_, m3, hR _ _ _ ⟨?_, ks⟩⟩
    have htk : (moves b p).take ((moves b p).map (mvV b.s)).length = moves b p := by rw [List.length_map, List.take_length]
    rw [htk] at hb
    rcases hb with ⟨h0, rfl⟩ | ⟨w, hw, rfl, _, hmax⟩
    · refine .inl ⟨.inr ?_, rfl⟩
      simpa using h0
    · exact .inr ⟨hst, w, hw, rfl, hmax⟩
end
end Mine

end

section
open PySem
set_option linter.unusedVariables false
set_option linter.unusedSimpArgs false
set_option maxRecDepth 100000
namespace Mine

structure TblOk (b : Bd) (tbl : List Int) : Prop where
  marks : Marks b tbl
  due : ∀ p : Pl, p.In b.s → stands b p = true → IsDue b p ((ways b p).map fun w => wordOf b.s tbl w.2.2) (at_ tbl (idx b.s p))
  low : ∀ p : Pl, p.In b.s → stands b p = true → -1 ≤ at_ tbl (idx b.s p)
  high : ∀ p : Pl, p.In b.s → at_ tbl (idx b.s p) < tbl.length

theorem TblOk.stand {b : Bd} {tbl : List Int} (T : TblOk b tbl) {p : Pl} (hp : p.In b.s) (h : -1 ≤ at_ tbl (idx b.s p)) : stands b p = true := by
  cases hs : stands b p
  · have := (T.marks p hp).mpr hs; omega
  · rfl
theorem TblOk.word {b : Bd} {tbl : List Int} (T : TblOk b tbl) {p : Pl} (hp : p.In b.s) {w : Way} (hw : w ∈ ways b p) : -1 ≤ wordOf b.s tbl w.2.2 ∧ wordOf b.s tbl w.2.2 < tbl.length ∧ (∀ q, w.2.2 = some q → q.In b.s ∧ stands b q = true ∧ q.side = 1 - p.side) := by
  have hi := ways_is hw
  have hin := fun q e => hi.in_ hp (q := q) e
  cases hq : w.2.2 with
  | none => simp only [wordOf]; exact ⟨by omega, by omega, fun q e => by cases e⟩
  | some q =>
    obtain ⟨h1, h2, h3⟩ := hin q hq
    simp only [wordOf]
    exact ⟨T.low q h1 h2, T.high q h1, fun q' e => by cases e; exact ⟨h1, h2, h3⟩⟩

theorem moves_nil {b : Bd} {p : Pl} : moves b p = [] ↔ ways b p = [] := by
  constructor <;> intro h <;> rw [List.eq_nil_iff_forall_not_mem] at h ⊢ <;> intro w hw
  · exact h w (moves_ways.mpr hw)
  · exact h w (moves_ways.mp hw)

/-- the best move at a place that stands and has ways -/
theorem best_way {b : Bd} {tbl : List Int} (T : TblOk b tbl) {p : Pl} (hp : p.In b.s) (hs : stands b p = true) (hne : ways b p ≠ []) {v : V} (hv : IsBest b tbl p v) :
    ∃ w ∈ ways b p, v = .tup [.int w.1, .int w.2.1] ∧ (0 < at_ tbl (idx b.s p) → wordOf b.s tbl w.2.2 = at_ tbl (idx b.s p) - 1) ∧ (at_ tbl (idx b.s p) ≤ 0 → p.side = 0 ∨ wordOf b.s tbl w.2.2 = -1) := by
  rcases hv with ⟨h | h, _⟩ | ⟨_, w, hw, hvw, hmax⟩
  · rw [hs] at h; cases h
  · exact absurd (moves_nil.mp h) hne
  rw [moves_ways] at hw
  refine ⟨w, hw, hvw, ?_⟩
  have hd := T.due p hp hs
  obtain ⟨l1, l2, _⟩ := T.word hp hw
  have hmax' : ∀ w' ∈ ways b p, worthOf b tbl p.side w' ≤ worthOf b tbl p.side w := fun w' h => hmax w' (moves_ways.mpr h)
  unfold IsDue at hd
  have hwds : (ways b p).map (fun w => wordOf b.s tbl w.2.2) ≠ [] := by simpa using hne
  by_cases h0 : p.side = 0
  · rw [if_pos h0] at hd
    rcases hd with ⟨_, e⟩ | ⟨M, hM, hM0, hmin, e⟩
    · exact ⟨fun h => by omega, fun _ => .inl h0⟩
    · refine ⟨fun _ => ?_, fun _ => .inl h0⟩
      obtain ⟨w0, hw0, rfl⟩ := List.mem_map.mp hM
      obtain ⟨_, k2, _⟩ := T.word hp hw0
      have a := hmax' w0 hw0
      unfold worthOf at a
      simp only [h0, if_true] at a
      rw [if_neg (by omega)] at a
      have c := hmin _ (List.mem_map.mpr ⟨w, hw, rfl⟩)
      split at a
      · omega
      · have := c (by omega); omega
  · rw [if_neg h0, if_neg hwds] at hd
    rcases hd with ⟨hall, M, hM, hmx, e⟩ | ⟨⟨a0, ha0, hneg⟩, e⟩
    · have hwn := hall _ (List.mem_map.mpr ⟨w, hw, rfl⟩)
      have hMn := hall _ hM
      refine ⟨fun _ => ?_, fun h => by omega⟩
      obtain ⟨w0, hw0, rfl⟩ := List.mem_map.mp hM
      have a := hmax' w0 hw0
      unfold worthOf at a
      simp only [h0, if_false] at a
      rw [if_neg (by omega), if_neg (by omega)] at a
      have c := hmx _ (List.mem_map.mpr ⟨w, hw, rfl⟩)
      omega
    · refine ⟨fun h => by omega, fun _ => .inr ?_⟩
      obtain ⟨w0, hw0, rfl⟩ := List.mem_map.mp ha0
      obtain ⟨k1, k2, _⟩ := T.word hp hw0
      have a := hmax' w0 hw0
      unfold worthOf at a
      simp only [h0, if_false] at a
      rw [if_pos (by omega)] at a
      split at a
      · assumption
      · omega

/-- the ways differ by who goes where -/
def key (w : Way) : Nat × Nat := (w.1, w.2.1)
theorem wayAt_pw {b : Bd} {p : Pl} (hs : stands b p = true) (g : Nat) (hg : g < b.s) : (wayAt b p g).Pairwise fun a c => key a ≠ key c := by
  unfold wayAt
  have hkm : p.man ≠ p.king := by
    unfold stands at hs
    simp only [Bool.and_eq_true] at hs
    simpa using hs.1.1.1.1.2
  split
  · unfold wayW; split
    · split
      · split <;> simp
      · split <;> simp
    · simp
  · rename_i h1
    rw [List.pairwise_append]
    refine ⟨by unfold wayK; split <;> simp, by unfold wayM; split <;> simp, fun a ha c hc e => ?_⟩
    have e1 := (wayK_is h1 hg ha).1
    have e2 := (wayM_is h1 hg hc).1
    have := congrArg Prod.fst e
    simp only [key] at this
    rw [e1, e2] at this
    exact hkm this.symm
theorem ways_pw {b : Bd} {p : Pl} (hs : stands b p = true) : (ways b p).Pairwise fun a c => key a ≠ key c := by
  show ((List.range b.s).flatMap fun g => wayAt b p g).Pairwise _
  rw [List.pairwise_flatMap]
  refine ⟨fun g hg => wayAt_pw hs g (List.mem_range.mp hg), ?_⟩
  have : (List.range b.s).Pairwise fun a c => a < c := List.pairwise_lt_range
  refine (List.Pairwise.imp_of_mem ?_ this)
  intro a c ha hc hlt x hx y hy e
  have e1 := (wayAt_is (List.mem_range.mp ha) hx).1
  have e2 := (wayAt_is (List.mem_range.mp hc) hy).1
  have := congrArg Prod.snd e
  simp only [key] at this
  omega
theorem filter_key {l : List Way} (h : l.Pairwise fun a c => key a ≠ key c) {w : Way} (hw : w ∈ l) : l.filter (fun x => decide (key x = key w)) = [w] := by
  induction l with
  | nil => cases hw
  | cons a r ih =>
    rw [List.pairwise_cons] at h
    rcases List.mem_cons.mp hw with rfl | hr
    · rw [List.filter_cons_of_pos (by simp)]
      congr 1
      rw [List.filter_eq_nil_iff]
      intro x hx
      have := h.1 x hx
      simpa using fun e => this e.symm
    · rw [List.filter_cons_of_neg (by simpa using h.1 w hr)]
      exact ih h.2 hr

/-- the line of best play -/
inductive Line (b : Bd) (tbl : List Int) : Pl → List (Nat × Nat) → Prop
  | nil {p : Pl} : p.In b.s → at_ tbl (idx b.s p) ≤ 0 → Line b tbl p []
  | cons {p q : Pl} {w : Way} {l : List (Nat × Nat)} : p.In b.s → 0 < at_ tbl (idx b.s p) → w ∈ ways b p → w.2.2 = some q → at_ tbl (idx b.s q) = at_ tbl (idx b.s p) - 1 → Line b tbl q l → Line b tbl p (key w :: l)
theorem Line.len {b : Bd} {tbl : List Int} {p : Pl} {l : List (Nat × Nat)} (h : Line b tbl p l) : (l.length : Int) = max (at_ tbl (idx b.s p)) 0 := by
  induction h with
  | nil _ h => simp; omega
  | cons _ h1 _ _ h2 _ ih => simp only [List.length_cons]; omega
theorem Line.in_ {b : Bd} {tbl : List Int} {p : Pl} {l : List (Nat × Nat)} (h : Line b tbl p l) : p.In b.s := by
  cases h <;> assumption
end Mine

end

section
open PySem
set_option linter.unusedVariables false
set_option linter.unusedSimpArgs false
set_option maxRecDepth 100000
namespace Mine

def keyV (k : Nat × Nat) : V := .tup [.int k.1, .int k.2]
theorem stands_ne {b : Bd} {p : Pl} (hs : stands b p = true) : p.man ≠ p.king ∧ p.man ≠ p.bare ∧ p.king ≠ p.bare := by
  unfold stands at hs
  simp only [Bool.and_eq_true] at hs
  obtain ⟨⟨⟨⟨⟨_, h1⟩, h2⟩, h3⟩, _⟩, _⟩ := hs
  exact ⟨by simpa using h1, by simpa using h2, by simpa using h3⟩

section
variable {C : Ctx} (P : Prg C) {X : Store → Prop} {σ : Store}
include P

def mlTest : E := .cmp .Gt (.loc "plies") (.cint 0)
def mlBody : List S := [
    .assign (.tup ["origin", "goal"]) (.call (.glob "best_move") [(.loc "geo"), (.loc "table"), (.loc "kind"), (.loc "side"), (.loc "strong"), (.loc "piece"), (.loc "weak")]),
    .append (.loc "out") (.tup [(.loc "origin"), (.loc "goal")]),
    .ite (.cmp .Eq (.loc "origin") (.loc "strong")) [
      .assign (.name "strong") (.loc "goal")] [
      .ite (.cmp .Eq (.loc "origin") (.loc "piece")) [
        .assign (.name "piece") (.loc "goal")] [
        .assign (.name "weak") (.loc "goal")]],
    .assign (.name "side") (.bin .Sub (.cint 1) (.loc "side")),
    .aug "plies" .Sub (.cint 1)]

theorem ml_test {m : Loc} {σ : Store} {Q : Bool → Store → Prop} {d : Int} (h : m "plies" = some (.int d)) (hq : Q (decide (0 < d)) σ) : wpT C 18 X mlTest m σ Q := by
  simp only [mlTest, wpT_cmp, wpE]
  exact ⟨_, h, decide (0 < d), rfl, _, rfl, hq⟩

theorem ml_loop {g t : Nat} {b : Bd} (o : b.Ok) (hG : GeoIs σ g b.G) {tbl : List Int} (hT : Tab b σ t tbl) (T : TblOk b tbl) (a : Nat) (ha : σ.length ≤ a) {Q : Fl → Loc → Store → Prop} :
    ∀ (n : Nat) (q : Pl) (acc : List (Nat × Nat)) (m : Loc) (σ' : Store), q.In b.s → (at_ tbl (idx b.s q)).toNat = n → acc.length + n < 4000 → Keep σ σ' → σ'[a]? = some (.list (acc.map keyV)) →
      m "geo" = some (.ref g) → m "table" = some (.ref t) → m "kind" = some (.int b.kind) → m "side" = some (.int q.side) → m "strong" = some (.int q.king) → m "piece" = some (.int q.man) → m "weak" = some (.int q.bare) → m "out" = some (.ref a) → m "plies" = some (.int (at_ tbl (idx b.s q))) →
      (∀ m' σ'' l, Line b tbl q l → Keep σ σ'' → σ''[a]? = some (.list ((acc ++ l).map keyV)) → m' "out" = some (.ref a) → Q .next m' σ'') →
      whileW (fun m σ Q => wpT C 18 X mlTest m σ Q) (fun m σ Q => wpSs C 18 X mlBody m σ Q) (n + 1) m σ' Q := by
  intro n
  induction n with
  | zero =>
    intro q acc m σ' hq hn hl hk hacc m1 m2 m3 m4 m5 m6 m7 m8 m9 hQ
    rw [whileW]
    refine ml_test P m9 ?_
    rw [decide_eq_false (by omega)]
    simp only [Bool.false_eq_true, if_false]
    exact hQ _ _ [] (.nil hq (by omega)) hk (by simpa using hacc) m8
  | succ n ih =>
    intro q acc m σ' hq hn hl hk hacc m1 m2 m3 m4 m5 m6 m7 m8 m9 hQ
    rw [whileW]
    refine ml_test P m9 ?_
    have hpos : 0 < at_ tbl (idx b.s q) := by omega
    rw [decide_eq_true hpos]
    simp only [if_true]
    have hst := T.stand hq (by omega)
    have hne : ways b q ≠ [] := by
      intro h
      have hd := T.due q hq hst
      rw [h] at hd
      unfold IsDue at hd
      simp at hd
      split at hd
      · omega
      · split at hd <;> omega
    refine step fun K' hK' hR' hC' => ?_
    simp only [wpS, wpE, wpEs]
    refine ⟨_, gl_best_move P, _, m1, _, m2, _, m3, _, m4, _, m5, _, m6, _, m7, _, _, rfl, rfl, ?_⟩
    refine SemCall.mono (s_best P o (hG.keep hk) (hT.keep hk) T.marks q hq) (fun v σ2 ⟨hv, hk2⟩ => ?_) fun _ h => h
    obtain ⟨w, hw, rfl, hnext, _⟩ := best_way T hq hst hne hv
    have hnx := hnext hpos
    obtain ⟨q', hq'⟩ : ∃ q', w.2.2 = some q' := by
      cases h : w.2.2 with
      | none => rw [h] at hnx; simp only [wordOf] at hnx; omega
      | some q' => exact ⟨q', rfl⟩
    rw [hq'] at hnx
    simp only [wordOf] at hnx
    have hqin := ((ways_is hw).in_ hq hq').1
    have hacc2 := hk2 _ _ hacc
    refine ⟨_, by simp only [bndT, bindL]; rfl, hK' _ _ (step fun K' hK' hR' hC' => ?_)⟩
    simp only [wpS, wpE, wpEs]
    refine ⟨_, by simp [upd]; exact m8, isListV_at hacc2, _, by simp [upd]; rfl, _, by simp [upd]; rfl, _, appendV_at hacc2 (by simp; omega), hK' _ _ (step fun K' hK' hR' hC' => ?_)⟩
    have hset : (σ2.set a (.list (acc.map keyV ++ [.tup [.int w.1, .int w.2.1]])))[a]? = some (.list ((acc ++ [key w]).map keyV)) := by rw [set_at hacc2]; simp [keyV, key]
    have hk3 : Keep σ (σ2.set a (.list (acc.map keyV ++ [.tup [.int w.1, .int w.2.1]]))) := (hk.trans hk2).set ha _
    generalize (σ2.set a (.list (acc.map keyV ++ [.tup [.int w.1, .int w.2.1]]))) = σ3 at hset hk3 ⊢
    have rest : ∀ m' : Loc, (∀ y, y ≠ "strong" → y ≠ "piece" → y ≠ "weak" → m' y = upd (upd m "origin" (.int w.1)) "goal" (.int w.2.1) y) → m' "strong" = some (.int q'.king) → m' "piece" = some (.int q'.man) → m' "weak" = some (.int q'.bare) → q'.side = 1 - q.side → K' .next m' σ3 := by
      intro m' hm n5 n6 n7 hside
      have hsd := hq.side
      refine hK' _ _ (step fun K' hK' hR' hC' => ?_)
      simp only [wpS, wpE]
      refine ⟨_, by rw [hm _ (by decide) (by decide) (by decide)]; simp [upd]; exact m4, ?_⟩
      simp only [wpBin, wpAssign]
      refine hK' _ _ (step fun K' hK' hR' hC' => ?_)
      simp only [wpS, wpE, wpAug]
      refine ⟨_, by simp only [upd]; rw [if_neg (by decide), hm _ (by decide) (by decide) (by decide)]; simp [upd]; exact m9, ?_⟩
      refine hK' _ _ (done ?_)
      have hmm : ∀ y, y ≠ "strong" → y ≠ "piece" → y ≠ "weak" → y ≠ "side" → y ≠ "plies" → y ≠ "origin" → y ≠ "goal" → upd (upd m' "side" (.int (1 - q.side))) "plies" (.int (at_ tbl (idx b.s q) - 1)) y = m y := by
        intro y h1 h2 h3 h4 h5 h6 h7
        simp only [upd]
        rw [if_neg h5, if_neg h4, hm y h1 h2 h3]
        simp [upd, h6, h7]
      refine ih q' (acc ++ [key w]) (upd (upd m' "side" (.int (1 - q.side))) "plies" (.int (at_ tbl (idx b.s q) - 1))) σ3 hqin (by omega) (by simp; omega) hk3 hset (by rw [hmm _ (by decide) (by decide) (by decide) (by decide) (by decide) (by decide) (by decide)]; exact m1) (by rw [hmm _ (by decide) (by decide) (by decide) (by decide) (by decide) (by decide) (by decide)]; exact m2)
        (by rw [hmm _ (by decide) (by decide) (by decide) (by decide) (by decide) (by decide) (by decide)]; exact m3) (by simp [upd]; omega) (by simp [upd, n5]) (by simp [upd, n6]) (by simp [upd, n7]) (by rw [hmm _ (by decide) (by decide) (by decide) (by decide) (by decide) (by decide) (by decide)]; exact m8) (by simp [upd]; omega) ?_
      intro m'' σ'' l hline hk4 hs4 ho
      exact hQ m'' σ'' (key w :: l) (.cons hq hpos hw hq' hnx hline) hk4 (by simpa using hs4) ho
    obtain ⟨d1, d2, d3⟩ := stands_ne hst
    have hwi := ways_is hw
    generalize hww : w = ww at hwi
    cases hwi with
    | take g' _ _ _ => subst hww; cases hq'
    | weak g' h1 hg' hs' =>
      subst hww; cases hq'
      have c1 : ((q.bare : Int) = q.king) = False := by simp only [eq_iff_iff, iff_false]; omega
      have c2 : ((q.bare : Int) = q.man) = False := by simp only [eq_iff_iff, iff_false]; omega
      rw [wpS, wpT_cmp, wpE, wpE]
      refine ⟨_, by simp [upd]; rfl, ?_⟩
      simp only [wpE]
      refine ⟨_, by simp [upd]; exact m5, false, by simp [cmpV, eqV, c1], _, rfl, ?_⟩
      simp only [Bool.false_eq_true, if_false]
      refine step fun K5 hK5 hR5 hC5 => ?_
      rw [wpS, wpT_cmp, wpE, wpE]
      refine ⟨_, by simp [upd]; rfl, ?_⟩
      simp only [wpE]
      refine ⟨_, by simp [upd]; exact m6, false, by simp [cmpV, eqV, c2], _, rfl, ?_⟩
      simp only [Bool.false_eq_true, if_false]
      refine step fun K6 hK6 hR6 hC6 => ?_
      simp only [wpS, wpE]
      refine ⟨_, by simp [upd]; rfl, ?_⟩
      simp only [wpAssign]
      exact hK6 _ _ (done (hK5 _ _ (done (rest _ (fun y y1 y2 y3 => by simp [upd, y3]) (by simp [upd, m5]) (by simp [upd, m6]) (by simp [upd]) (by simp [h1])))))
    | king g' h1 hg' hs' =>
      subst hww; cases hq'
      rw [wpS, wpT_cmp, wpE, wpE]
      refine ⟨_, by simp [upd]; rfl, ?_⟩
      simp only [wpE]
      refine ⟨_, by simp [upd]; exact m5, true, by simp [cmpV, eqV], _, rfl, ?_⟩
      simp only [if_true]
      refine step fun K6 hK6 hR6 hC6 => ?_
      simp only [wpS, wpE]
      refine ⟨_, by simp [upd]; rfl, ?_⟩
      simp only [wpAssign]
      exact hK6 _ _ (done (rest _ (fun y y1 y2 y3 => by simp [upd, y1]) (by simp [upd]) (by simp [upd, m6]) (by simp [upd, m7]) (by have := hq.side; simp only; omega)))
    | man g' h1 hg' hs' =>
      subst hww; cases hq'
      have c1 : ((q.man : Int) = q.king) = False := by simp only [eq_iff_iff, iff_false]; omega
      rw [wpS, wpT_cmp, wpE, wpE]
      refine ⟨_, by simp [upd]; rfl, ?_⟩
      simp only [wpE]
      refine ⟨_, by simp [upd]; exact m5, false, by simp [cmpV, eqV, c1], _, rfl, ?_⟩
      simp only [Bool.false_eq_true, if_false]
      refine step fun K5 hK5 hR5 hC5 => ?_
      rw [wpS, wpT_cmp, wpE, wpE]
      refine ⟨_, by simp [upd]; rfl, ?_⟩
      simp only [wpE]
      refine ⟨_, by simp [upd]; exact m6, true, by simp [cmpV, eqV], _, rfl, ?_⟩
      simp only [if_true]
      refine step fun K6 hK6 hR6 hC6 => ?_
      simp only [wpS, wpE]
      refine ⟨_, by simp [upd]; rfl, ?_⟩
      simp only [wpAssign]
      exact hK6 _ _ (done (hK5 _ _ (done (rest _ (fun y y1 y2 y3 => by simp [upd, y2]) (by simp [upd, m5]) (by simp [upd]) (by simp [upd, m7]) (by have := hq.side; simp only; omega)))))

theorem s_line {g t : Nat} {b : Bd} (o : b.Ok) (hG : GeoIs σ g b.G) {tbl : List Int} (hT : Tab b σ t tbl) (T : TblOk b tbl) (p : Pl) (hp : p.In b.s) :
    SemCall C 19 "mate_line" [.ref g, .ref t, .int b.kind, .int p.side, .int p.king, .int p.man, .int p.bare] σ (fun v σ' => ∃ a l, v = .ref a ∧ σ'[a]? = some (.list (l.map keyV)) ∧ Keep σ σ' ∧ Line b tbl p l) X := by
  refine P.call P.f_mate_line rfl ?_
  refine step fun K hK hR hC => ?_
  simp [wpS, wpE, wpEs, wpAssign]
  refine hK _ _ (step fun K hK hR hC => ?_)
  have k1 : Keep σ (σ ++ [.list []]) := Keep.snoc _ _
  simp only [wpS, wpE, wpEs]
  refine ⟨_, gl_probe P, _, by simp [upd]; rfl, _, by simp [upd]; rfl, _, by simp [upd]; rfl, _, by simp [upd]; rfl, _, by simp [upd]; rfl, _, by simp [upd]; rfl, _, by simp [upd]; rfl, _, _, rfl, rfl, ?_⟩
  refine SemCall.mono ((s_probe P o (hG.keep k1) (hT.keep k1) p hp).up (b := 17) (by decide)) (fun v σ2 ⟨hv, hσ2⟩ => ?_) fun _ h => h
  subst hv
  simp only [wpAssign]
  have hh := T.high p hp
  have hc : tbl.length ≤ 3456 := by rw [hT.len]; exact o.cube
  refine hK _ _ (step fun K hK hR hC => ?_)
  rw [wpS]
  refine ⟨_, ml_loop P o hG hT T σ.length (Nat.le_refl _) _ p [] _ σ2 hp rfl (by simp; omega) (by rw [hσ2]; exact k1) (by rw [hσ2]; simp) (by simp [upd, bindL]) (by simp [upd, bindL]) (by simp [upd, bindL]) (by simp [upd, bindL]) (by simp [upd, bindL]) (by simp [upd, bindL]) (by simp [upd, bindL]) (by simp [upd]) (by simp [upd]) ?_⟩
  intro m' σ'' l hline hk hs ho
  refine hK _ _ (step fun K hK hR hC => ?_)
  simp only [wpS, wpE]
  exact ⟨_, ho, hR _ _ _ ⟨_, l, rfl, by simpa using hs, hk, hline⟩⟩
end
end Mine

end

section
open PySem
set_option linter.unusedVariables false
set_option linter.unusedSimpArgs false
set_option maxRecDepth 100000
namespace Mine

theorem wpB_range {σ : Store} {n : Nat} {Q : V → Store → Prop} (h : n < 1000000) (hq : Q (.rng 0 n 1) σ) : wpB "range" [.int n] σ Q := by
  simp only [wpB]; exact ⟨by omega, hq⟩
theorem rng_items {n i : Nat} {v : V} (h : ((rngList 0 n 1).map V.int)[i]? = some v) : v = .int i ∧ i < n := by
  have e := rngList_up 0 n
  rw [show ((0 : Nat) : Int) = 0 from rfl] at e
  rw [e] at h
  simp only [List.getElem?_map] at h
  by_cases hi : i < n
  · rw [List.getElem?_range (by omega)] at h
    simp at h
    exact ⟨h.symm, hi⟩
  · rw [List.getElem?_eq_none (by simp; omega)] at h
    cases h
theorem rng_len (n : Nat) : ((rngList 0 n 1).map V.int).length = n := by
  have e := rngList_up 0 n
  rw [show ((0 : Nat) : Int) = 0 from rfl] at e
  rw [e]; simp

theorem item_get {σ : Store} {a k : Nat} {xs : List V} {x : V} {Q : V → Prop} (h : σ[a]? = some (.list xs)) (hx : xs[k]? = some x) (hk : k < 1000000) (hq : Q x) : wpItem (.ref a) (.int k) σ Q := by
  simp only [wpItem, h]
  exact ⟨by omega, by omega, x, by simpa using hx, hq⟩
theorem map_getElem {α : Type} {l : List α} {f : α → V} {i : Nat} {v : V} (h : (l.map f)[i]? = some v) : ∃ a, l[i]? = some a ∧ v = f a ∧ l.take (i + 1) = l.take i ++ [a] := by
  rw [List.getElem?_map] at h
  cases ha : l[i]? with
  | none => rw [ha] at h; cases h
  | some a => rw [ha] at h; cases h; exact ⟨a, rfl, rfl, by rw [List.take_add_one, ha]; rfl⟩
theorem ways_len (b : Bd) (p : Pl) : (ways b p).length ≤ 2 * b.s := flat_len2 (f := fun g => wayAt b p g) (wayAt_len b p) b.s

section
variable {C : Ctx} (P : Prg C) {X : Store → Prop} {σ : Store}
include P

theorem s_right {g t z : Nat} {b : Bd} (o : b.Ok) (hG : GeoIs σ g b.G) {tbl : List Int} (hT : Tab b σ t tbl) (T : TblOk b tbl) (hB : BrdIs σ z b) (p : Pl) (hp : p.In b.s) :
    SemCall C 19 "_law_right" [.ref g, brdV b z, .ref t, p.v] σ (fun v σ' => v = .bool true ∧ Keep σ σ') X := by
  refine P.call P.f__law_right rfl ?_
  have hs12 : b.s ≤ 12 := o.s12
  refine step fun K hK hR hC => ?_
  simp only [wpS, wpE, wpAssign]
  refine ⟨_, by simp [upd]; rfl, _, by simp only [bndT, Pl.v, bindL]; rfl, hK _ _ (step fun K hK hR hC => ?_)⟩
  simp only [wpS, wpE, wpEs]
  refine ⟨_, gl_law_word P, _, by simp [upd]; rfl, _, by simp [upd]; rfl, _, by simp [upd]; rfl, _, by simp [upd]; rfl, _, _, rfl, rfl, ?_⟩
  refine SemCall.mono ((s_word P o hG hT (some p) (fun q e => by cases e; exact hp)).up (b := 17) (by decide)) (fun v σ1 ⟨hv, hσ1⟩ => ?_) fun _ h => h
  subst hv hσ1
  simp only [wpAssign, wordOf]
  refine hK _ _ (step fun K hK hR hC => ?_)
  simp only [wpS, wpE, wpEs]
  refine ⟨_, gl_best_move P, _, by simp [upd]; rfl, _, by simp [upd]; rfl, _, by simp [upd]; rfl, ?_⟩
  refine ⟨by decide, by decide, _, rfl, _, by simp [upd]; rfl, _, by simp [upd]; rfl, _, by simp [upd]; rfl, _, by simp [upd]; rfl, _, _, rfl, rfl, ?_⟩
  refine SemCall.mono (s_best P o hG hT T.marks p hp) (fun heard σ2 ⟨hbest, k2⟩ => ?_) fun _ h => h
  simp only [wpAssign]
  refine hK _ _ (step fun K hK hR hC => ?_)
  rw [wpS, wpT, wpT_call, wpE, wpE]
  refine ⟨_, gl_law_stands P, ?_⟩
  simp only [wpE, wpEs]
  refine ⟨_, by simp [upd]; rfl, _, by simp [upd]; rfl, _, _, rfl, rfl, ?_⟩
  refine SemCall.mono ((s_stands P o (hB.keep k2) p hp).up (b := 17) (by decide)) (fun v σ3 ⟨hv, k3⟩ => ?_) fun _ h => h
  subst hv
  have k13 := k2.trans k3
  refine ⟨_, rfl, ?_⟩
  cases hst : stands b p
  · simp only [Bool.not_false, if_true]
    refine step fun K' hK' hR' hC' => ?_
    have hw : at_ tbl (idx b.s p) = -2 := (T.marks p hp).mpr hst
    have hb : heard = bm := by
      rcases hbest with ⟨_, h⟩ | ⟨h, _⟩
      · exact h
      · rw [hst] at h; cases h
    subst hb
    simp only [wpS, wpE, wpAll, wpEs]
    refine ⟨_, by simp [upd]; rfl, _, rfl, true, by simp only [cmpV, eqV, hw]; rfl, _, rfl, ?_⟩
    simp only [if_true]
    refine ⟨_, by simp [upd]; rfl, _, rfl, _, rfl, true, by simp [cmpV, eqV, bm, intsOf], ?_⟩
    exact hR' _ _ _ (hR _ _ _ ⟨rfl, k13⟩)
  simp only [Bool.not_true, Bool.false_eq_true, if_false]
  refine done (hK _ _ (step fun K hK hR hC => ?_))
  simp only [wpS, wpE, wpEs]
  refine ⟨_, gl_law_ways P, _, by simp [upd]; rfl, _, by simp [upd]; rfl, _, _, rfl, rfl, ?_⟩
  refine SemCall.mono ((s_ways P o (hB.keep k13) p hp).up (b := 17) (by decide)) (fun v σ4 ⟨wa, hv, _, hwa, k4⟩ => ?_) fun _ h => h
  subst hv
  have k14 := k13.trans k4
  simp only [wpAssign]
  refine hK _ _ (step fun K hK hR hC => ?_)
  have wl := ways_len b p
  rw [wpS]
  refine wpE_comp (fun i acc σ' => σ' = σ4 ∧ acc = (((ways b p).take i).map fun w => wordOf b.s tbl w.2.2).map V.int) (.ref wa) ((ways b p).map wyV) (fun Q' h => by rw [wpE]; exact ⟨_, by simp [upd], h⟩) (by simp [srcItems, hwa]) (by simp; omega) ⟨rfl, by simp⟩ ?_ ?_ ?_
  · rintro i acc σ' ⟨rfl, _⟩; simp [srcItems, hwa]
  · rintro i v acc m' σ' hv ⟨rfl, rfl⟩ hm hx K' hK'
    obtain ⟨w, hw, rfl, htk⟩ := map_getElem hv
    have hwm : w ∈ ways b p := List.mem_of_getElem? hw
    rw [wpCs]
    simp only [if_true, wpE, wpEs]
    refine ⟨_, gl_law_word P, _, by rw [hm _ (by decide) (by decide)]; simp [upd]; rfl, _, by rw [hm _ (by decide) (by decide)]; simp [upd]; rfl, _, by rw [hm _ (by decide) (by decide)]; simp [upd]; rfl, _, hx, ?_⟩
    refine ⟨by decide, by decide, _, rfl, _, _, rfl, rfl, ?_⟩
    refine SemCall.mono ((s_word P o (hG.keep k14) (hT.keep k14) w.2.2 (fun q e => ((ways_is hwm).in_ hp e).1)).up (b := 17) (by decide)) (fun v σ5 ⟨hv, hσ5⟩ => ?_) fun _ h => h
    subst hv hσ5
    exact hK' _ _ ⟨rfl, by rw [htk]; simp⟩
  rintro acc σ' ⟨rfl, rfl⟩
  simp only [wpAssign]
  rw [List.length_map, List.take_length]
  generalize hws : (ways b p).map (fun w => wordOf b.s tbl w.2.2) = ws
  have wsl : ws.length = (ways b p).length := by rw [← hws]; simp
  have k5 : Keep σ' (σ' ++ [AObj.list (ws.map V.int)]) := Keep.snoc _ _
  have hws5 : (σ' ++ [AObj.list (ws.map V.int)])[σ'.length]? = some (.list (ws.map V.int)) := append_here _ _
  have k15 := k14.trans k5
  have hwa5 := k5 _ _ hwa
  generalize hs5 : σ' ++ [AObj.list (ws.map V.int)] = σ5 at k5 hws5 k15 hwa5 ⊢
  generalize hwd : at_ tbl (idx b.s p) = wd at *
  have hdue := T.due p hp hst
  rw [hws, hwd] at hdue
  refine hK _ _ (step fun K hK hR hC => ?_)
  rw [wpS, wpT_cmp, wpE, wpE]
  refine ⟨_, by simp [upd]; rfl, ?_⟩
  simp only [wpE, wpEs]
  refine ⟨_, gl_law_due P, _, by simp [upd]; rfl, _, by simp [upd]; rfl, _, by simp [upd]; rfl, _, _, rfl, rfl, ?_⟩
  refine SemCall.mono ((s_due P o p hp hws5 (by omega) hdue).up (b := 17) (by decide)) (fun v σ6 ⟨hv, k6⟩ => ?_) fun _ h => h
  subst hv
  have k16 := k15.trans k6
  have hws6 := k6 _ _ hws5
  have hwa6 := k6 _ _ hwa5
  refine ⟨false, by simp [cmpV, neV], _, rfl, ?_⟩
  simp only [Bool.false_eq_true, if_false]
  refine done (hK _ _ (step fun K hK hR hC => ?_))
  rw [wpS, wpT_cmp, wpE, wpE]
  refine ⟨_, by simp [upd]; rfl, ?_⟩
  simp only [wpE, wpEs]
  have k7 : Keep σ6 (σ6 ++ [AObj.list []]) := Keep.snoc _ _
  have hwa7 := k7 _ _ hwa6
  have hws7 := k7 _ _ hws6
  have k17 := k16.trans k7
  have h07 : (σ6 ++ [AObj.list []])[σ6.length]? = some (.list []) := append_here _ _
  generalize hs7 : σ6 ++ [AObj.list []] = σ7 at k7 hwa7 hws7 k17 h07 ⊢
  refine ⟨decide (ways b p = []), by simp only [cmpV, eqV, hwa7, h07]; cases ways b p <;> rfl, _, rfl, ?_⟩
  by_cases hne : ways b p = []
  · simp only [hne, decide_true, if_true]
    refine step fun K' hK' hR' hC' => ?_
    have hb : heard = bm := by
      rcases hbest with ⟨_, h⟩ | ⟨_, w, hw, _⟩
      · exact h
      · rw [moves_ways, hne] at hw; cases hw
    subst hb
    simp only [wpS, wpE, wpAll, wpEs]
    refine ⟨_, by simp [upd]; rfl, _, rfl, _, rfl, true, by simp [cmpV, eqV, bm, intsOf], ?_⟩
    exact hR' _ _ _ (hR _ _ _ ⟨rfl, k17⟩)
  simp only [hne, decide_false, Bool.false_eq_true, if_false]
  refine done (hK _ _ (step fun K hK hR hC => ?_))
  obtain ⟨w, hw, rfl, hb1, hb2⟩ := best_way T hp hst hne hbest
  rw [hwd] at hb1 hb2
  have hfl := filter_key (ways_pw hst) hw
  rw [wpS]
  refine wpE_comp (fun i acc σ' => σ' = σ7 ∧ acc = ((((ways b p).take i).filter fun x => decide (key x = key w)).map fun w => wordOf b.s tbl w.2.2).map V.int) (.rng 0 (ways b p).length 1) ((rngList 0 (ways b p).length 1).map V.int)
    (fun Q' h => by
      simp only [wpE, wpEs]
      refine ⟨_, by simp [upd], wpB_len hwa7 (by simp; omega) ?_⟩
      rw [List.length_map]
      exact wpB_range (by omega) h) (by simp [srcItems]) (by rw [rng_len]; omega) ⟨rfl, by simp⟩ ?_ ?_ ?_
  · rintro i acc σ' ⟨rfl, _⟩; simp [srcItems]
  · rintro i v acc m' σ' hv ⟨rfl, rfl⟩ hm hx K' hK'
    obtain ⟨rfl, hi⟩ := rng_items hv
    obtain ⟨x, hxx⟩ : ∃ x, (ways b p)[i]? = some x := ⟨_, List.getElem?_eq_getElem hi⟩
    have htk : (ways b p).take (i + 1) = (ways b p).take i ++ [x] := by rw [List.take_add_one, hxx]; rfl
    have hwi : ws[i]? = some (wordOf b.s tbl x.2.2) := by rw [← hws, List.getElem?_map, hxx]; rfl
    rw [wpCs, wpT_cmp, wpE, wpE]
    simp only [wpE]
    refine ⟨_, by rw [hm _ (by decide) (by decide)]; simp [upd]; rfl, _, hx, ?_⟩
    refine item_get (x := wyV x) hwa7 (by rw [List.getElem?_map, hxx]; rfl) (by omega) ?_
    refine ⟨by decide, by simp, by simp, _, by rw [hm _ (by decide) (by decide)]; simp [upd]; rfl, decide (key x = key w), ?_, _, rfl, ?_⟩
    · simp only [cmpV, eqV]
      simp only [intsOf, show ((2 : Int).toNat) = 2 from rfl, List.take]
      congr 1; apply decide_eq_decide.mpr
      simp only [List.cons.injEq, key, Prod.mk.injEq, and_true]; omega
    cases hkk : decide (key x = key w)
    · simp only [Bool.false_eq_true, if_false]
      exact hK' _ _ ⟨rfl, by rw [htk]; simp [List.filter_append, hkk]⟩
    · simp only [if_true]
      refine ⟨_, by rw [hm _ (by decide) (by decide)]; simp [upd]; rfl, _, hx, ?_⟩
      refine item_get (x := .int (wordOf b.s tbl x.2.2)) hws7 (by rw [List.getElem?_map, hwi]; rfl) (by omega) ?_
      exact hK' _ _ ⟨rfl, by rw [htk]; simp [List.filter_append, hkk]⟩
  rintro acc σ' ⟨rfl, rfl⟩
  simp only [wpAssign]
  rw [rng_len, List.take_length, hfl]
  simp only [List.map_cons, List.map_nil]
  generalize hww : wordOf b.s tbl w.2.2 = ww at *
  have h8 : (σ' ++ [AObj.list [.int ww]])[σ'.length]? = some (.list [.int ww]) := append_here _ _
  have k18 := k17.trans (Keep.snoc σ' (AObj.list [.int ww]))
  generalize hs8 : σ' ++ [AObj.list [.int ww]] = σ8 at h8 k18 ⊢
  refine hK _ _ (step fun K hK hR hC => ?_)
  rw [wpS, wpT_cmp, wpE, wpE]
  simp only [wpE, wpEs]
  refine ⟨_, by simp [upd], wpB_len h8 (by simp) ⟨false, by simp [cmpV, neV], _, rfl, ?_⟩⟩
  simp only [Bool.false_eq_true, if_false]
  refine done (hK _ _ (step fun K hK hR hC => ?_))
  rw [wpS, wpT_cmp, wpE, wpE]
  refine ⟨_, by simp [upd]; rfl, ?_⟩
  simp only [wpE]
  refine ⟨decide (0 < wd), rfl, _, rfl, ?_⟩
  have h80 : ∀ Q : V → Prop, wpItem (.ref σ'.length) (.int 0) σ8 Q = Q (.int ww) := by
    intro Q; exact item_ints (l := [ww]) h8 (k := 0) (by simp) (by simp) Q
  by_cases hpos : 0 < wd
  · simp only [hpos, decide_true, if_true]
    refine step fun K' hK' hR' hC' => ?_
    simp only [wpS, wpE]
    refine ⟨_, by simp [upd]; rfl, ?_⟩
    rw [h80]
    refine ⟨_, by simp [upd]; rfl, ?_⟩
    simp only [wpBin]
    refine ⟨true, by simp [cmpV, eqV]; exact hb1 hpos, hR' _ _ _ (hR _ _ _ ⟨rfl, k18⟩)⟩
  · simp only [hpos, decide_false, Bool.false_eq_true, if_false]
    refine done (hK _ _ (step fun K hK hR hC => ?_))
    rw [wpS, wpE, wpAnyL, wpE, wpE]
    · refine ⟨_, by simp [upd]; rfl, ?_⟩
      simp only [wpE]
      refine ⟨decide (p.side = 0), by simp only [cmpV, eqV]; congr 1; apply decide_eq_decide.mpr; omega, _, rfl, ?_⟩
      by_cases h0 : p.side = 0
      · simp only [h0, decide_true, if_true]
        exact hR _ _ _ ⟨rfl, k18⟩
      · simp only [h0, decide_false, Bool.false_eq_true, if_false]
        rw [wpAnyL]
        simp only [wpE]
        refine ⟨_, by simp [upd]; rfl, ?_⟩
        rw [h80]
        refine ⟨_, rfl, true, ?_, hR _ _ _ ⟨rfl, k18⟩⟩
        rcases hb2 (by omega) with h | h
        · exact absurd h h0
        · simp [cmpV, eqV, h]
    all_goals nofun
end
end Mine

end

section
open PySem
set_option linter.unusedVariables false
set_option linter.unusedSimpArgs false
set_option maxRecDepth 100000
namespace Mine

theorem comp_turns {C : Ctx} {n : Nat} {elt : E} {x : String} {conds : List E} {m : Loc} {σ : Store} {Q : List V → Store → Prop}
    (I : Nat → List V → Store → Prop) (sv : V) (items : List V)
    (h0 : I 0 [] σ)
    (hsrc : ∀ i acc σ, I i acc σ → srcItems σ sv = some items)
    (hstep : ∀ i v acc m' σ, items[i]? = some v → I i acc σ → (∀ y, y ≠ x → y ≠ ".0" → m' y = m y) → m' x = some v → ∀ K : List V → Store → Prop, (∀ acc' σ', I (i + 1) acc' σ' → K acc' σ') →
      wpCs C n (fun _ => False) conds m' σ fun b σ₁ => if b then wpE C n (fun _ => False) elt m' σ₁ fun y σ₂ => K (acc ++ [y]) σ₂ else K acc σ₁)
    (hend : ∀ acc σ, I items.length acc σ → Q acc σ) :
    compW sv items x (fun m σ Q => wpCs C n (fun _ => False) conds m σ Q) (fun m σ Q => wpE C n (fun _ => False) elt m σ Q) items [] (clr (clr m x) ".0") σ Q := by
  refine compW_inv (m₀ := clr (clr m x) ".0") I hsrc (fun i v acc m' σ' hv hI hm hx K hK => hstep i v acc m' σ' hv hI (fun y h1 h2 => ?_) hx K hK) hend _ 0 [] _ σ rfl (Nat.zero_le _) (fun y _ => rfl) h0
  rw [hm y h1]; simp [clr, h1, h2]

theorem due_zero {b : Bd} {tbl : List Int} (T : TblOk b tbl) {q : Pl} (hq : q.In b.s) (h : at_ tbl (idx b.s q) = 0) : q.side = 1 ∧ ways b q = [] ∧ stands b ⟨0, q.king, q.man, q.bare⟩ = false := by
  have hst := T.stand hq (by omega)
  have hd := T.due q hq hst
  rw [h] at hd
  unfold IsDue at hd
  by_cases h0 : q.side = 0
  · rw [if_pos h0] at hd
    rcases hd with ⟨_, e⟩ | ⟨M, _, _, _, e⟩ <;> omega
  · rw [if_neg h0] at hd
    have := hq.side
    by_cases hw : (ways b q).map (fun w => wordOf b.s tbl w.2.2) = []
    · rw [if_pos hw] at hd
      have hstr : b.str q.man q.bare [(q.king : Int)] = true := by
        cases hs : b.str q.man q.bare [(q.king : Int)]
        · rw [hs] at hd; simp at hd
        · rfl
      refine ⟨by omega, by simpa using hw, ?_⟩
      unfold stands
      simp [hstr]
    · rw [if_neg hw] at hd
      rcases hd with ⟨hall, M, hM, _, e⟩ | ⟨_, e⟩
      · have := hall M hM; omega
      · omega

section
variable {C : Ctx} (P : Prg C) {X : Store → Prop} {σ : Store}
include P

theorem s_line_right {g t z : Nat} {b : Bd} (o : b.Ok) (hG : GeoIs σ g b.G) {tbl : List Int} (hT : Tab b σ t tbl) (T : TblOk b tbl) (hB : BrdIs σ z b) (p : Pl) (hp : p.In b.s) :
    SemCall C 21 "_law_line_right" [.ref g, brdV b z, .ref t, p.v] σ (fun v σ' => v = .bool true ∧ Keep σ σ') X := by
  refine P.call P.f__law_line_right rfl ?_
  have hs12 : b.s ≤ 12 := o.s12
  refine step fun K hK hR hC => ?_
  simp only [wpS, wpE, wpEs]
  refine ⟨_, gl_law_word P, _, by simp [upd]; rfl, _, by simp [upd]; rfl, _, by simp [upd]; rfl, _, by simp [upd]; rfl, _, _, rfl, rfl, ?_⟩
  refine SemCall.mono ((s_word P o hG hT (some p) (fun q e => by cases e; exact hp)).up (b := 19) (by decide)) (fun v σ1 ⟨hv, hσ1⟩ => ?_) fun _ h => h
  subst hv hσ1
  simp only [wpAssign, wordOf]
  refine hK _ _ (step fun K hK hR hC => ?_)
  simp only [wpS, wpE, wpEs]
  refine ⟨_, gl_mate_line P, _, by simp [upd]; rfl, _, by simp [upd]; rfl, _, by simp [upd]; rfl, ?_⟩
  refine ⟨by decide, by decide, _, rfl, _, by simp [upd]; rfl, ?_⟩
  refine ⟨by decide, by decide, _, rfl, _, by simp [upd]; rfl, ?_⟩
  refine ⟨by decide, by decide, _, rfl, _, by simp [upd]; rfl, ?_⟩
  refine ⟨by decide, by decide, _, rfl, _, by simp [upd]; rfl, ?_⟩
  refine ⟨by decide, by decide, _, rfl, _, _, rfl, rfl, ?_⟩
  refine SemCall.mono (s_line P o hG hT T p hp) (fun v σ2 ⟨pa, l, hv, hpa, k2, hline⟩ => ?_) fun _ h => h
  subst hv
  have hll := hline.len
  have hh := T.high p hp
  have hc : tbl.length ≤ 3456 := by rw [hT.len]; exact o.cube
  have hl4 : l.length < 4000 := by omega
  simp only [wpAssign]
  refine hK _ _ (step fun K hK hR hC => ?_)
  rw [wpS, wpT_cmp, wpE, wpE]
  simp only [wpE, wpEs]
  refine ⟨_, by simp [upd], wpB_len hpa (by simp; omega) ?_⟩
  refine ⟨_, by simp [upd]; rfl, ?_⟩
  simp only [wpB]
  refine ⟨false, by simp only [cmpV, neV, List.length_map, hll]; simp, _, rfl, ?_⟩
  simp only [Bool.false_eq_true, if_false]
  refine done (hK _ _ (step fun K hK hR hC => ?_))
  rw [wpS, wpE]
  refine ⟨_, by simp [upd]; rfl, l.map keyV, by simp [srcItems, hpa], ?_⟩
  refine forW_inv (fun i m σ' => Keep σ1 σ' ∧ σ'[pa]? = some (.list (l.map keyV)) ∧ m "geo" = some (.ref g) ∧ m "board" = some (brdV b z) ∧ m "table" = some (.ref t) ∧ m "played" = some (.ref pa) ∧
      ∃ q, m "place" = some q.v ∧ m "word" = some (.int (at_ tbl (idx b.s q))) ∧ Line b tbl q (l.drop i) ∧ (0 < i → 0 ≤ at_ tbl (idx b.s q))) ?_ ?_ ?_ _ 0 _ _ rfl (Nat.zero_le _)
    ⟨k2, hpa, by simp [upd, bindL], by simp [upd, bindL], by simp [upd, bindL], by simp [upd], p, by simp [upd, bindL], by simp [upd], hline, fun h => by omega⟩
  · rintro i m σ' ⟨_, h, _⟩; simp [srcItems, h]
  · rintro i v m σ' hv ⟨ks, hpa', m1, m2, m3, m4, q, m5, m6, hln, _⟩ K k1 k2 k3
    obtain ⟨kk, hkk, rfl, _⟩ := map_getElem hv
    have hlt : i < l.length := (List.getElem?_eq_some_iff.mp hkk).1
    have hdrop : l.drop i = kk :: l.drop (i + 1) := by
      rw [List.drop_eq_getElem_cons hlt]
      congr 1
      exact (List.getElem?_eq_some_iff.mp hkk).2
    rw [hdrop] at hln
    have hq := hln.in_
    cases hln with
    | @cons _ q' w _ _ hpos hw hwq hnx hl2 =>
    have hst := T.stand hq (by omega)
    have hq' := hl2.in_
    refine ⟨_, rfl, ?_⟩
    refine step fun K' hK' hR' hC' => ?_
    have hcall : ∀ (m' : Loc) (Q' : V → Store → Prop), m' "board" = some (brdV b z) → m' "place" = some q.v → (∀ wa σ3, σ3[wa]? = some (.list ((ways b q).map wyV)) → Keep σ' σ3 → Q' (.ref wa) σ3) → wpE C 20 X (.call (.glob "_law_ways") [.loc "board", .loc "place"]) m' σ' Q' := by
      intro m' Q' h1 h2 h3
      simp only [wpE, wpEs]
      refine ⟨_, gl_law_ways P, _, h1, _, h2, _, _, rfl, rfl, ?_⟩
      refine SemCall.mono ((s_ways P o (hB.keep ks) q hq).up (b := 19) (by decide)) (fun v σ3 ⟨wa, hv, _, hwa, kw⟩ => ?_) fun _ h => h
      subst hv
      exact h3 _ _ hwa kw
    rw [wpS, wpE]
    refine hcall _ _ (by simp [upd]; exact m2) (by simp [upd]; exact m5) fun wa σ3 hwa kw => ?_
    have ks3 := ks.trans kw
    have hpa3 := kw _ _ hpa'
    have wl := ways_len b q
    refine ⟨(ways b q).map wyV, by simp [srcItems, hwa], by simp; omega, ?_⟩
    refine comp_turns (fun i acc σ' => σ' = σ3 ∧ acc = (((ways b q).take i).filter fun x => decide (key x = key w)).map fun w => plV w.2.2) (.ref wa) ((ways b q).map wyV) ⟨rfl, by simp⟩ ?_ ?_ ?_
    · rintro i acc σ' ⟨rfl, _⟩; simp [srcItems, hwa]
    · rintro i v acc m' σ' hv ⟨rfl, rfl⟩ hm hx K4 hK4
      obtain ⟨x, hx', rfl, htk⟩ := map_getElem hv
      rw [wpCs, wpT_cmp, wpE, wpE]
      simp only [wpE]
      refine ⟨_, hx, ?_⟩
      refine ⟨by decide, by simp, by simp, _, by rw [hm _ (by decide) (by decide)]; simp [upd]; rfl, decide (key x = key w), ?_, _, rfl, ?_⟩
      · simp only [cmpV, keyV, eqV]
        simp only [intsOf, show ((2 : Int).toNat) = 2 from rfl, List.take]
        congr 1; apply decide_eq_decide.mpr
        simp only [List.cons.injEq, key, Prod.mk.injEq, and_true]; omega
      cases hkk : decide (key x = key w)
      · simp only [Bool.false_eq_true, if_false]
        exact hK4 _ _ ⟨rfl, by rw [htk]; simp [List.filter_append, hkk]⟩
      · simp only [if_true]
        refine ⟨_, hx, by decide, by decide, _, rfl, ?_⟩
        exact hK4 _ _ ⟨rfl, by rw [htk]; simp [List.filter_append, hkk]⟩
    rintro acc σ' ⟨rfl, rfl⟩
    simp only [wpAssign]
    rw [List.length_map, List.take_length, filter_key (ways_pw hst) hw]
    simp only [List.map_cons, List.map_nil, hwq, plV]
    have h8 : (σ' ++ [AObj.list [q'.v]])[σ'.length]? = some (.list [q'.v]) := append_here _ _
    have ks8 := ks3.trans (Keep.snoc σ' (AObj.list [q'.v]))
    have hpa8 := (Keep.snoc σ' (AObj.list [q'.v])) _ _ hpa3
    generalize hs8 : σ' ++ [AObj.list [q'.v]] = σ8 at h8 ks8 hpa8 ⊢
    generalize hln8 : σ'.length = n8 at h8 ⊢
    have h80 : ∀ Q : V → Prop, Q q'.v → wpItem (.ref n8) (.int 0) σ8 Q := fun Q hq => item_get (k := 0) h8 rfl (by decide) hq
    refine hK' _ _ (step fun K' hK' hR' hC' => ?_)
    rw [wpS, wpT, wpTAny, wpT_cmp, wpE, wpE]
    simp only [wpE, wpEs]
    refine ⟨_, by simp [upd], wpB_len h8 (by simp) ⟨false, by simp [cmpV, neV], _, rfl, ?_⟩⟩
    simp only [Bool.false_eq_true, if_false]
    rw [wpTAny, wpT_cmp, wpE, wpE]
    simp only [wpE, wpEs]
    refine ⟨_, by simp [upd], h80 _ ⟨false, by simp [cmpV, Pl.v, isNoneV], _, rfl, ?_⟩⟩
    simp only [Bool.false_eq_true, if_false]
    rw [wpTAny, wpT_cmp, wpE, wpE]
    simp only [wpE, wpEs]
    refine ⟨_, gl_law_word P, _, by simp [upd]; exact m1, _, by simp [upd]; exact m2, _, by simp [upd]; exact m3, _, by simp [upd], h80 _ ⟨_, _, rfl, rfl, ?_⟩⟩
    refine SemCall.mono ((s_word P o (hG.keep ks8) (hT.keep ks8) (some q') (fun q e => by cases e; exact hq')).up (b := 19) (by decide)) (fun v σ9 ⟨hv, hσ9⟩ => ?_) fun _ h => h
    subst hv hσ9
    simp only [wordOf, hnx]
    refine ⟨_, by simp [upd]; exact m6, ?_⟩
    simp only [wpBin]
    refine ⟨false, by simp [cmpV, neV], _, rfl, ?_⟩
    simp only [Bool.false_eq_true, if_false]
    rw [wpTAny]
    simp only [Bool.false_eq_true, if_false]
    refine done (hK' _ _ (step fun K' hK' hR' hC' => ?_))
    simp only [wpS, wpE, wpEs]
    refine ⟨_, by simp [upd], h80 _ ⟨_, by simp [upd]; exact m6, ?_⟩⟩
    simp only [wpBin, wpAssign]
    refine ⟨_, by simp only [bndT, bindL]; rfl, hK' _ _ (step fun K' hK' hR' hC' => ?_)⟩
    rw [wpS, wpT, wpT_call, wpE, wpE]
    simp only [wpE, wpEs]
    refine ⟨_, gl_law_right P, _, by simp [upd]; exact m1, _, by simp [upd]; exact m2, _, by simp [upd]; exact m3, _, by simp [upd]; rfl, _, _, rfl, rfl, ?_⟩
    refine SemCall.mono (s_right P o (hG.keep ks8) (hT.keep ks8) T (hB.keep ks8) q' hq') (fun v σ10 ⟨hv, k10⟩ => ?_) fun _ h => h
    subst hv
    refine ⟨_, rfl, ?_⟩
    simp only [Bool.not_true, Bool.false_eq_true, if_false]
    refine done (hK' _ _ (done (k1 _ _ ⟨ks8.trans k10, k10 _ _ hpa8, by simp [upd, m1], by simp [upd, m2], by simp [upd, m3], by simp [upd, m4], q', by simp [upd], by simp [upd, hnx], hl2, fun _ => by omega⟩)))
  · rintro m σ' ⟨ks, hpa', m1, m2, m3, m4, q, m5, m6, hln, hge⟩
    rw [List.length_map] at hge hln
    have hq := hln.in_
    rw [List.drop_length] at hln
    have hle : at_ tbl (idx b.s q) ≤ 0 := by cases hln; assumption
    refine hK _ _ (step fun K hK hR hC => ?_)
    rw [wpS, wpT_cmp, wpE, wpE]
    simp only [wpE, wpEs]
    have hpa3 := (Keep.snoc σ' (AObj.list [])) _ _ hpa'
    have ks3 := ks.trans (Keep.snoc σ' (AObj.list []))
    have h07 : (σ' ++ [AObj.list []])[σ'.length]? = some (.list []) := append_here _ _
    generalize hs7 : σ' ++ [AObj.list []] = σ7 at hpa3 ks3 h07 ⊢
    refine ⟨_, m4, decide (l = []), by simp only [cmpV, eqV, hpa3, h07]; cases l <;> rfl, _, rfl, ?_⟩
    by_cases hl0 : l = []
    · simp only [hl0, decide_true, if_true]
      refine step fun K' hK' hR' hC' => ?_
      simp only [wpS, wpE]
      exact hR' _ _ _ (hR _ _ _ ⟨rfl, ks3⟩)
    · simp only [hl0, decide_false, Bool.false_eq_true, if_false]
      refine done (hK _ _ (step fun K hK hR hC => ?_))
      have hpos : 0 < l.length := by cases l with | nil => exact absurd rfl hl0 | cons _ _ => simp
      have h0 : at_ tbl (idx b.s q) = 0 := by have := hge hpos; omega
      obtain ⟨e1, e2, e3⟩ := due_zero T hq h0
      rw [wpS, wpE, wpAll, wpE, wpE]
      · simp only [wpE, wpEs]
        refine ⟨_, m5, ?_⟩
        refine ⟨by decide, by decide, _, rfl, true, by simp [cmpV, eqV, e1], _, rfl, ?_⟩
        simp only [if_true]
        rw [wpAll, wpE, wpE]
        · simp only [wpE, wpEs]
          refine ⟨_, gl_law_ways P, _, m2, _, m5, _, _, rfl, rfl, ?_⟩
          refine SemCall.mono ((s_ways P o (hB.keep ks3) q hq).up (b := 19) (by decide)) (fun v σ8 ⟨wa, hv, _, hwa, kw⟩ => ?_) fun _ h => h
          subst hv
          rw [e2] at hwa
          have hwa9 := (Keep.snoc σ8 (AObj.list [])) _ _ hwa
          have h9 : (σ8 ++ [AObj.list []])[σ8.length]? = some (.list []) := append_here _ _
          have ks9 := (ks3.trans kw).trans (Keep.snoc σ8 (AObj.list []))
          refine ⟨true, by simp only [cmpV, eqV, hwa9, h9]; rfl, _, rfl, ?_⟩
          simp only [if_true]
          rw [wpAll, wpE, wpE]
          simp only [wpE, wpEs]
          refine ⟨_, gl_law_stands P, _, m2, _, m5, ?_⟩
          refine ⟨by decide, by decide, _, rfl, _, m5, ?_⟩
          refine ⟨by decide, by decide, _, rfl, _, m5, ?_⟩
          refine ⟨by decide, by decide, _, rfl, _, _, rfl, rfl, ?_⟩
          have hin : (⟨0, q.king, q.man, q.bare⟩ : Pl).In b.s := ⟨by simp, hq.king, hq.man, hq.bare⟩
          refine SemCall.mono ((s_stands P o (hB.keep ks9) ⟨0, q.king, q.man, q.bare⟩ hin).up (b := 19) (by decide)) (fun v σ10 ⟨hv, k10⟩ => ?_) fun _ h => h
          subst hv
          rw [e3]
          refine ⟨_, rfl, hR _ _ _ ⟨rfl, ks9.trans k10⟩⟩
        all_goals nofun
      all_goals nofun
end
end Mine

end

section
open PySem
set_option linter.unusedVariables false
set_option linter.unusedSimpArgs false
set_option maxRecDepth 100000
namespace Mine

section
variable {C : Ctx} (P : Prg C) {X : Store → Prop} {σ : Store}
include P

theorem bad_probe {g t : Nat} {G : GeoD} (ok : G.Ok) (hG : GeoIs σ g G) {tbl : List Int} (hT : σ[t]? = some (.list (tbl.map V.int))) (hl : tbl.length < 1000000) {kind side a c d : Int} (hb : ¬ Good (G.files * G.ranks) tbl.length kind side a c d) (hX : ∀ σ', Keep σ σ' → X σ') :
    SemCall C 3 "probe" [.ref g, .ref t, .int kind, .int side, .int a, .int c, .int d] σ (fun _ _ => False) X :=
  s_probe_gen P ok hG hT hl _ _ _ _ _ (fun h => absurd h hb) fun _ => hX _ (Keep.refl _)
theorem bad_best {g t : Nat} {G : GeoD} (ok : G.Ok) (hG : GeoIs σ g G) {tbl : List Int} (hT : σ[t]? = some (.list (tbl.map V.int))) (hl : tbl.length < 1000000) {kind side a c d : Int} (hb : ¬ Good (G.files * G.ranks) tbl.length kind side a c d) (hX : ∀ σ', Keep σ σ' → X σ') :
    SemCall C 5 "best_move" [.ref g, .ref t, .int kind, .int side, .int a, .int c, .int d] σ (fun _ _ => False) X := by
  refine P.call P.f_best_move rfl ?_
  refine step fun K hK hR hC => ?_
  simp [wpS, wpE, wpEs, wpAssign]
  refine hK _ _ (step fun K hK hR hC => ?_)
  rw [wpS, wpT_cmp, wpE, wpE, wpE]
  refine ⟨_, gl_probe P, ?_⟩
  simp only [wpE, wpEs]
  refine ⟨_, by simp [upd]; rfl, _, by simp [upd]; rfl, _, by simp [upd]; rfl, _, by simp [upd]; rfl, _, by simp [upd]; rfl, _, by simp [upd]; rfl, _, by simp [upd]; rfl, _, _, rfl, rfl, ?_⟩
  exact SemCall.mono (bad_probe P ok hG hT hl hb hX) (fun v σ2 h => h.elim) fun _ h => h
theorem bad_line {g t : Nat} {G : GeoD} (ok : G.Ok) (hG : GeoIs σ g G) {tbl : List Int} (hT : σ[t]? = some (.list (tbl.map V.int))) (hl : tbl.length < 1000000) {kind side a c d : Int} (hb : ¬ Good (G.files * G.ranks) tbl.length kind side a c d) (hX : ∀ σ', Keep σ σ' → X σ') :
    SemCall C 5 "mate_line" [.ref g, .ref t, .int kind, .int side, .int a, .int c, .int d] σ (fun _ _ => False) X := by
  refine P.call P.f_mate_line rfl ?_
  refine step fun K hK hR hC => ?_
  simp [wpS, wpE, wpEs, wpAssign]
  refine hK _ _ (step fun K hK hR hC => ?_)
  have k1 : Keep σ (σ ++ [.list []]) := Keep.snoc _ _
  simp only [wpS, wpE, wpEs]
  refine ⟨_, gl_probe P, _, by simp [upd]; rfl, _, by simp [upd]; rfl, _, by simp [upd]; rfl, _, by simp [upd]; rfl, _, by simp [upd]; rfl, _, by simp [upd]; rfl, _, by simp [upd]; rfl, _, _, rfl, rfl, ?_⟩
  exact SemCall.mono (bad_probe P ok (hG.keep k1) (k1 _ _ hT) hl hb fun σ' h => hX _ (k1.trans h)) (fun v σ2 h => h.elim) fun _ h => h

/-- what is asked of the three: a table, and five numbers that can't be -/
def BadAsk (b : Bd) (σ : Store) (v : V) : Prop :=
  ∃ (t' : Nat) (tbl' : List Int) (kind side a c d : Int), v = .tup [.ref t', .int kind, .int side, .int a, .int c, .int d] ∧ σ[t']? = some (.list (tbl'.map V.int)) ∧ tbl'.length < 1000000 ∧ ¬ Good b.s tbl'.length kind side a c d

theorem refused_tail {g : Nat} {b : Bd} (o : b.Ok) (hG : GeoIs σ g b.G) {m : Loc} {v : V} (hv : BadAsk b σ v) (m1 : m "geo" = some (.ref g)) (m2 : m "asked" = some v) {Q : Fl → Loc → Store → Prop} (hQ : ∀ m σ', Keep σ σ' → Q (.ret (.bool true)) m σ') :
    wpSs C 20 X (b__law_refused.drop 2) m σ Q := by
  obtain ⟨t', tbl', kind, side, a, c, d, rfl, hT, hl, hb⟩ := hv
  simp only [b__law_refused, List.drop]
  refine step fun K hK hR hC => ?_
  rw [wpS, wpE]
  simp only [wpE, wpEs]
  refine ⟨_, gl_probe P, _, gl_best_move P, _, gl_mate_line P, _, rfl, ?_⟩
  refine forW_inv (fun i m σ' => Keep σ σ' ∧ m "geo" = some (.ref g) ∧ m "asked" = some (.tup [.ref t', .int kind, .int side, .int a, .int c, .int d])) ?_ ?_ ?_ _ 0 _ _ rfl (Nat.zero_le _) ⟨Keep.refl _, m1, m2⟩
  · intros; rfl
  · rintro i w m σ' hw ⟨ks, n1, n2⟩ K k1 k2 k3
    refine ⟨_, rfl, ?_⟩
    refine step fun K' hK' hR' hC' => ?_
    simp only [wpS, wpE, wpEs]
    refine ⟨trivial, _, by simp [upd]; rfl, _, by simp [upd]; exact n1, _, by simp [upd]; exact n2, ?_⟩
    refine ⟨by decide, by decide, _, rfl, _, by simp [upd]; exact n2, ?_⟩
    refine ⟨by decide, by decide, _, rfl, _, by simp [upd]; exact n2, ?_⟩
    refine ⟨by decide, by decide, _, rfl, _, by simp [upd]; exact n2, ?_⟩
    refine ⟨by decide, by decide, _, rfl, _, by simp [upd]; exact n2, ?_⟩
    refine ⟨by decide, by decide, _, rfl, _, by simp [upd]; exact n2, ?_⟩
    refine ⟨by decide, by decide, _, rfl, ?_⟩
    have fin : ∀ σ3, Keep σ' σ3 → K' .next (upd m "work" w) σ3 := fun σ3 k3 => hK' _ _ (done (k1 _ _ ⟨ks.trans k3, by simp [upd, n1], by simp [upd, n2]⟩))
    have hw' := List.mem_of_getElem? hw
    simp only [List.mem_cons, List.not_mem_nil, or_false] at hw'
    rcases hw' with rfl | rfl | rfl
    · exact ⟨_, 19, rfl, rfl, SemCall.mono ((bad_probe P o.geo (hG.keep ks) (ks _ _ hT) hl hb fin).up (b := 19) (by decide)) (fun v σ2 h => h.elim) fun _ h => h⟩
    · exact ⟨_, 19, rfl, rfl, SemCall.mono ((bad_best P o.geo (hG.keep ks) (ks _ _ hT) hl hb fin).up (b := 19) (by decide)) (fun v σ2 h => h.elim) fun _ h => h⟩
    · exact ⟨_, 19, rfl, rfl, SemCall.mono ((bad_line P o.geo (hG.keep ks) (ks _ _ hT) hl hb fin).up (b := 19) (by decide)) (fun v σ2 h => h.elim) fun _ h => h⟩
  · rintro m σ' ⟨ks, _, _⟩
    refine hK _ _ (step fun K hK hR hC => ?_)
    simp only [wpS, wpE]
    exact hR _ _ _ (hQ _ _ ks)

omit P in
theorem wpEs_cons {n : Nat} {e : E} {r : List E} {m : Loc} {Q : List V → Store → Prop} : wpEs C n X (e :: r) m σ Q = wpE C n X e m σ fun v σ₁ => wpEs C n X r m σ₁ fun vs σ₂ => Q (v :: vs) σ₂ := by rw [wpEs]

theorem s_refused {g t z : Nat} {b : Bd} (o : b.Ok) (hG : GeoIs σ g b.G) {tbl : List Int} (hT : Tab b σ t tbl) (n : Int) :
    SemCall C 21 "_law_refused" [.ref g, brdV b z, .ref t, .int n] σ (fun v σ' => v = .bool true ∧ Keep σ σ') X := by
  refine P.call P.f__law_refused rfl ?_
  have hl : tbl.length < 100000 := by rw [hT.len]; have := o.cube; omega
  refine step fun K hK hR hC => ?_
  simp only [wpS, wpE, wpEs]
  refine ⟨_, by simp [upd]; rfl, ?_⟩
  refine ⟨by decide, by decide, _, rfl, _, by simp [upd]; rfl, ?_⟩
  refine ⟨by decide, by decide, _, rfl, ?_⟩
  simp only [wpAssign]
  refine ⟨_, by simp only [bndT, bindL]; rfl, hK _ _ ?_⟩
  clear hK hR hC
  have main : ∀ (m : Loc) (Q : Fl → Loc → Store → Prop), m "geo" = some (.ref g) → m "table" = some (.ref t) → m "size" = some (.int b.s) → m "kind" = some (.int b.kind) → m "n" = some (.int n) → (∀ m σ', Keep σ σ' → Q (.ret (.bool true)) m σ') →
      wpSs C 20 X (b__law_refused.drop 1) m σ Q := by
    intro m Q m1 m2 m3 m4 m5 hQ
    simp only [b__law_refused, List.drop]
    refine step fun K hK hR hC => ?_
    have T1 : ∀ (σ : Store) (Q : V → Store → Prop), Q (.tup [.ref t, .int 1, .int 0, .int 0, .int 1, .int (b.s - 1)]) σ → wpE C 20 X (.tup [(.loc "table"), (.cint 1), (.cint 0), (.cint 0), (.cint 1), (.bin .Sub (.loc "size") (.cint 1))]) m σ Q := by
      intro σ Q h; simp only [wpE, wpEs]; exact ⟨_, m2, _, m3, h⟩
    have T2 : ∀ (σ : Store) (Q : V → Store → Prop), Q (.tup [.ref t, .int 6, .int 1, .int 0, .int 1, .int (b.s - 1)]) σ → wpE C 20 X (.tup [(.loc "table"), (.cint 6), (.cint 1), (.cint 0), (.cint 1), (.bin .Sub (.loc "size") (.cint 1))]) m σ Q := by
      intro σ Q h; simp only [wpE, wpEs]; exact ⟨_, m2, _, m3, h⟩
    have T3 : ∀ (σ : Store) (Q : V → Store → Prop), Q (.tup [.ref t, .int b.kind, .int 2, .int 0, .int 1, .int 2]) σ → wpE C 20 X (.tup [(.loc "table"), (.loc "kind"), (.cint 2), (.cint 0), (.cint 1), (.cint 2)]) m σ Q := by
      intro σ Q h; simp only [wpE, wpEs]; exact ⟨_, m2, _, m4, h⟩
    have T4 : ∀ (σ : Store) (Q : V → Store → Prop), Q (.tup [.ref t, .int b.kind, .int (-1), .int 0, .int 1, .int 2]) σ → wpE C 20 X (.tup [(.loc "table"), (.loc "kind"), (.neg (.cint 1)), (.cint 0), (.cint 1), (.cint 2)]) m σ Q := by
      intro σ Q h; simp only [wpE, wpEs]; exact ⟨_, m2, _, m4, _, rfl, h⟩
    have T5 : ∀ (σ : Store) (Q : V → Store → Prop), Q (.tup [.ref t, .int b.kind, .int 0, .int b.s, .int 1, .int 2]) σ → wpE C 20 X (.tup [(.loc "table"), (.loc "kind"), (.cint 0), (.loc "size"), (.cint 1), (.cint 2)]) m σ Q := by
      intro σ Q h; simp only [wpE, wpEs]; exact ⟨_, m2, _, m4, _, m3, h⟩
    have T6 : ∀ (σ : Store) (Q : V → Store → Prop), Q (.tup [.ref t, .int b.kind, .int 1, .int 0, .int (-1), .int 2]) σ → wpE C 20 X (.tup [(.loc "table"), (.loc "kind"), (.cint 1), (.cint 0), (.neg (.cint 1)), (.cint 2)]) m σ Q := by
      intro σ Q h; simp only [wpE, wpEs]; exact ⟨_, m2, _, m4, _, rfl, h⟩
    have T7 : ∀ (σ : Store) (Q : V → Store → Prop), Q (.tup [.ref t, .int b.kind, .int 0, .int 0, .int 1, .int (b.s + n % 3)]) σ → wpE C 20 X (.tup [(.loc "table"), (.loc "kind"), (.cint 0), (.cint 0), (.cint 1), (.bin .Add (.loc "size") (.bin .Mod (.loc "n") (.cint 3)))]) m σ Q := by
      intro σ Q h; simp only [wpE, wpEs]; exact ⟨_, m2, _, m4, _, m3, _, m5, ⟨by decide, by decide⟩, h⟩
    have T8 : ∀ (Q : V → Store → Prop), Q (.tup [.ref (σ ++ [AObj.list [.int 0]]).length, .int b.kind, .int 0, .int 0, .int 1, .int (b.s - 1)]) ((σ ++ [AObj.list [.int 0]]) ++ [AObj.list (tbl.map V.int ++ [.int 0])]) →
        wpE C 20 X (.tup [(.bin .Add (.loc "table") (.lst [(.cint 0)])), (.loc "kind"), (.cint 0), (.cint 0), (.cint 1), (.bin .Sub (.loc "size") (.cint 1))]) m σ Q := by
      intro Q h
      rw [wpE, wpEs_cons, wpE, wpE]
      refine ⟨_, m2, ?_⟩
      simp only [wpE, wpEs]
      refine ⟨tbl.map V.int, [.int 0], (Keep.snoc σ _) _ _ hT.here, append_here _ _, by simp; omega, ?_⟩
      exact ⟨_, m4, _, m3, h⟩
    rw [wpS, wpE, wpE]
    rw [wpEs_cons]; refine T1 _ _ ?_
    rw [wpEs_cons]; refine T2 _ _ ?_
    rw [wpEs_cons]; refine T3 _ _ ?_
    rw [wpEs_cons]; refine T4 _ _ ?_
    rw [wpEs_cons]; refine T5 _ _ ?_
    rw [wpEs_cons]; refine T6 _ _ ?_
    rw [wpEs_cons]; refine T7 _ _ ?_
    rw [wpEs_cons]; refine T8 _ ?_
    rw [wpEs]
    have k2 : Keep σ ((σ ++ [AObj.list [.int 0]]) ++ [AObj.list (tbl.map V.int ++ [.int 0])]) := (Keep.snoc _ _).trans (Keep.snoc _ _)
    have h2 : ((σ ++ [AObj.list [.int 0]]) ++ [AObj.list (tbl.map V.int ++ [.int 0])])[(σ ++ [AObj.list [.int 0]]).length]? = some (.list ((tbl ++ [0]).map V.int)) := by rw [append_here]; simp
    generalize ((σ ++ [AObj.list [.int 0]]) ++ [AObj.list (tbl.map V.int ++ [.int 0])]) = σ2 at k2 h2 ⊢
    generalize (σ ++ [AObj.list [.int 0]]).length = n2 at h2 ⊢
    simp only [wpE]
    refine ⟨_, m5, ⟨by decide, by decide⟩, ?_⟩
    have hn0 : 0 ≤ n % 8 := Int.emod_nonneg _ (by decide)
    have hn8 : n % 8 < 8 := Int.emod_lt_of_pos _ (by decide)
    generalize hk8 : n % 8 = k at hn0 hn8 ⊢
    obtain ⟨j, rfl⟩ := Int.eq_ofNat_of_zero_le hn0
    have hj : j < 8 := by omega
    have h3 := fun xs : List V => append_here σ2 xs
    have hs := o.s12
    have fin : ∀ (xs : List V) (v : V), xs[j]? = some v → BadAsk b (σ2 ++ [.list xs]) v → wpItem (.ref σ2.length) (.int j) (σ2 ++ [.list xs]) fun y => wpAssign C 20 X (.name "asked") y m (σ2 ++ [.list xs]) fun m' σ₂ => K .next m' σ₂ := by
      intro xs v hv hbad
      refine item_get (h3 xs) hv (by omega) ?_
      simp only [wpAssign]
      have ks := k2.trans (Keep.snoc σ2 (AObj.list xs))
      exact hK _ _ (refused_tail P o (hG.keep ks) hbad (by simp [upd, m1]) (by simp [upd]) fun m' σ' k => hQ _ _ (ks.trans k))
    have kt : ∀ xs : List V, (σ2 ++ [AObj.list xs])[t]? = some (.list (tbl.map V.int)) := fun xs => (Keep.snoc σ2 _) _ _ (k2 _ _ hT.here)
    have kt2 : ∀ xs : List V, (σ2 ++ [AObj.list xs])[n2]? = some (.list ((tbl ++ [0]).map V.int)) := fun xs => (Keep.snoc σ2 _) _ _ h2
    have hl' : tbl.length < 1000000 := by omega
    have h3' : 0 ≤ n % 3 := Int.emod_nonneg _ (by decide)
    have cases8 : j = 0 ∨ j = 1 ∨ j = 2 ∨ j = 3 ∨ j = 4 ∨ j = 5 ∨ j = 6 ∨ j = 7 := by omega
    rcases cases8 with rfl | rfl | rfl | rfl | rfl | rfl | rfl | rfl
    · exact fin _ _ rfl ⟨t, tbl, _, _, _, _, _, rfl, kt _, hl', fun h => by have := h.kind; omega⟩
    · exact fin _ _ rfl ⟨t, tbl, _, _, _, _, _, rfl, kt _, hl', fun h => by have := h.kind; omega⟩
    · exact fin _ _ rfl ⟨t, tbl, _, _, _, _, _, rfl, kt _, hl', fun h => by have := h.side; omega⟩
    · exact fin _ _ rfl ⟨t, tbl, _, _, _, _, _, rfl, kt _, hl', fun h => by have := h.side; omega⟩
    · exact fin _ _ rfl ⟨t, tbl, _, _, _, _, _, rfl, kt _, hl', fun h => by have := h.a; omega⟩
    · exact fin _ _ rfl ⟨t, tbl, _, _, _, _, _, rfl, kt _, hl', fun h => by have := h.c; omega⟩
    · exact fin _ _ rfl ⟨t, tbl, _, _, _, _, _, rfl, kt _, hl', fun h => by have := h.d; omega⟩
    · exact fin _ _ rfl ⟨n2, tbl ++ [0], _, _, _, _, _, rfl, kt2 _, by simp; omega, fun h => by have := h.len; have := hT.len; simp at *; omega⟩
  exact main _ _ (by simp [upd, bindL]) (by simp [upd, bindL]) (by simp [upd]) (by simp [upd]) (by simp [upd, bindL]) fun m σ' k => ⟨rfl, k⟩
end
end Mine

end

section
open PySem
set_option linter.unusedVariables false
set_option linter.unusedSimpArgs false
set_option maxRecDepth 100000
namespace Mine

/-- the word of an entry -/
def wv (vals : List Int) (k : Int) : Int := if k < 0 then -1 else at_ vals k.toNat
def bef (after : Nat → List Int) (m : Nat) : Nat → List Nat
  | 0 => []
  | N + 1 => bef after m N ++ ((after N).filter fun k => decide (k = (m : Int))).map fun _ => N
def inD (D : List Nat) (k : Int) : Bool := decide (0 ≤ k ∧ k.toNat ∈ D)

theorem at_set {l : List Int} {n : Nat} {x : Int} (h : n < l.length) (k : Nat) : at_ (l.set n x) k = if k = n then x else at_ l k := by
  unfold at_
  split
  · rename_i e; subst e; simp [h]
  · rename_i e; rw [List.getElem?_set_ne (fun h => e h.symm)]

theorem count_const {n N : Nat} (l : List Int) : List.count n (l.map fun _ => N) = if n = N then l.length else 0 := by
  induction l with
  | nil => simp
  | cons a r ih =>
    rw [List.map_cons, List.count_cons, ih]
    by_cases h : n = N
    · simp [h]
    · have : ¬ N = n := fun e => h e.symm
      simp [h, this]
theorem count_bef {after : Nat → List Int} {m n : Nat} : ∀ N, List.count n (bef after m N) = if n < N then List.count (m : Int) (after n) else 0
  | 0 => by simp [bef]
  | N + 1 => by
    rw [bef, List.count_append, count_bef N, count_const]
    have hc : ((after N).filter fun k => decide (k = (m : Int))).length = List.count (m : Int) (after N) := by
      rw [List.count_eq_countP, ← List.countP_eq_length_filter]
      congr 1
    rw [hc]
    by_cases h : n = N
    · subst h; simp
    · by_cases h2 : n < N
      · have : n < N + 1 := by omega
        simp [h, h2, this]
      · have : ¬ n < N + 1 := by omega
        simp [h, h2, this]
theorem mem_bef {after : Nat → List Int} {m n : Nat} : ∀ N, n ∈ bef after m N ↔ n < N ∧ (m : Int) ∈ after n
  | 0 => by simp [bef]
  | N + 1 => by
    rw [bef, List.mem_append, mem_bef N]
    simp only [List.mem_map, List.mem_filter, decide_eq_true_eq]
    constructor
    · rintro (⟨h1, h2⟩ | ⟨a, ⟨h1, h2⟩, h3⟩)
      · exact ⟨by omega, h2⟩
      · subst h2 h3; exact ⟨by omega, h1⟩
    · rintro ⟨h1, h2⟩
      by_cases h : n = N
      · subst h; exact .inr ⟨_, ⟨h2, rfl⟩, rfl⟩
      · exact .inl ⟨by omega, h2⟩

theorem nodup_le : ∀ (N : Nat) {l : List Nat}, l.Nodup → (∀ a ∈ l, a < N) → l.length ≤ N
  | 0, l, _, h => by
    cases l with
    | nil => exact Nat.le_refl _
    | cons a r => have := h a (List.mem_cons_self ..); omega
  | N + 1, l, hn, h => by
    have h1 := nodup_le N (l := l.erase N) (hn.erase _) fun a ha => by
      rw [hn.mem_erase_iff] at ha
      have := h a ha.2; omega
    rw [List.length_erase] at h1
    split at h1 <;> omega

/-- the search's state: D the done, Q the queue behind, R what is left to look at from the last of D -/
structure SInv (N : Nat) (after : Nat → List Int) (side0 lost : Nat → Bool) (vals left : List Int) (D Q R : List Nat) (c : Int) : Prop where
  lenv : vals.length = N
  lenl : left.length = N
  hk : ∀ n, n < N → ∀ k ∈ after n, k < N
  nodup : (D ++ Q).Nodup
  lt : ∀ n ∈ D ++ Q, n < N
  memv : ∀ n, n < N → (n ∈ D ++ Q ↔ 0 ≤ at_ vals n)
  ge : ∀ n, n < N → -1 ≤ at_ vals n
  lf : ∀ n, n < N → at_ left n = (after n).length - (after n).countP (inD D) + R.count n
  dle : ∀ d ∈ D, at_ vals d ≤ c
  qs : Q.Pairwise fun a b => at_ vals a ≤ at_ vals b
  qb : ∀ q ∈ Q, c ≤ at_ vals q ∧ at_ vals q ≤ c + 1
  cD : c + 1 ≤ D.length
  lost0 : ∀ n, n < N → lost n = true → at_ vals n = 0
  s0 : ∀ n, n < N → side0 n = true → lost n = false → 0 ≤ at_ vals n → 1 ≤ at_ vals n ∧ (∃ k ∈ after n, wv vals k = at_ vals n - 1) ∧ ∀ k ∈ after n, 0 ≤ wv vals k → at_ vals n - 1 ≤ wv vals k
  s1 : ∀ n, n < N → side0 n = false → lost n = false → 0 ≤ at_ vals n → 1 ≤ at_ vals n ∧ (∃ k ∈ after n, wv vals k = at_ vals n - 1) ∧ ∀ k ∈ after n, 0 ≤ wv vals k ∧ wv vals k ≤ at_ vals n - 1
  u0 : ∀ n, n < N → side0 n = true → at_ vals n = -1 → at_ left n = (after n).length ∧ ∀ k ∈ after n, 0 ≤ wv vals k → c ≤ wv vals k
  u1 : ∀ n, n < N → side0 n = false → at_ vals n = -1 → at_ left n = 0 → after n = []

theorem wv_nat {vals : List Int} {m : Nat} : wv vals (m : Int) = at_ vals m := by unfold wv; rw [if_neg (by omega)]; simp
theorem at_out {l : List Int} {n : Nat} (h : l.length ≤ n) : at_ l n = 0 := by unfold at_; rw [List.getElem?_eq_none h]; rfl

section
variable {N : Nat} {after : Nat → List Int} {side0 lost : Nat → Bool} {vals left : List Int} {D Q R : List Nat} {c : Int}

theorem SInv.start (hk : ∀ n, n < N → ∀ k ∈ after n, k < N) (hv : vals.length = N) (hl : left.length = N) (h1 : ∀ n, n < N → at_ vals n = if lost n then 0 else -1) (h2 : ∀ n, n < N → at_ left n = (after n).length) :
    SInv N after side0 lost vals left [] ((List.range N).filter lost) [] (-1) where
  lenv := hv
  lenl := hl
  hk := hk
  nodup := by rw [List.nil_append]; exact List.nodup_range.filter _
  lt := fun n h => by simp at h; exact h.1
  memv := fun n h => by
    rw [h1 n h]; simp only [List.nil_append, List.mem_filter, List.mem_range]
    cases lost n <;> simp [h]
  ge := fun n h => by rw [h1 n h]; split <;> omega
  lf := fun n h => by
    rw [h2 n h]
    have : (after n).countP (inD []) = 0 := by rw [List.countP_eq_zero]; intro k _; simp [inD]
    rw [this]; simp
  dle := fun d h => by cases h
  qs := by
    have : ∀ a ∈ (List.range N).filter lost, at_ vals a = 0 := by
      intro a ha
      simp only [List.mem_filter, List.mem_range] at ha
      rw [h1 a ha.1, if_pos ha.2]
    refine List.Pairwise.imp_of_mem (R := fun _ _ => True) ?_ (List.pairwise_of_forall (fun _ _ => trivial))
    intro a b ha hb _
    rw [this a ha, this b hb]; exact Int.le_refl _
  qb := fun q h => by
    simp only [List.mem_filter, List.mem_range] at h
    rw [h1 q h.1, if_pos h.2]; omega
  cD := by simp
  lost0 := fun n h e => by rw [h1 n h, if_pos e]
  s0 := fun n h _ e g => by rw [h1 n h, e] at g; simp at g
  s1 := fun n h _ e g => by rw [h1 n h, e] at g; simp at g
  u0 := fun n h _ _ => ⟨h2 n h, fun k _ g => by omega⟩
  u1 := fun n h _ _ e => by rw [h2 n h] at e; exact List.length_eq_zero_iff.mp (by omega)

theorem inD_snoc {m : Nat} (hm : m ∉ D) (l : List Int) : l.countP (inD (D ++ [m])) = l.countP (inD D) + l.count (m : Int) := by
  induction l with
  | nil => rfl
  | cons k r ih =>
    rw [List.countP_cons, List.countP_cons, List.count_cons, ih]
    by_cases hk : k = (m : Int)
    · subst hk
      simp [inD, hm]; omega
    · have h1 : inD (D ++ [m]) k = inD D k := by
        unfold inD
        apply decide_eq_decide.mpr
        constructor
        · rintro ⟨a, b⟩
          rcases List.mem_append.mp b with b | b
          · exact ⟨a, b⟩
          · rw [List.mem_singleton] at b; omega
        · rintro ⟨a, b⟩; exact ⟨a, List.mem_append_left _ b⟩
      rw [h1]
      simp [hk]; omega

/-- the next of the queue is taken -/
theorem SInv.pop {m : Nat} (h : SInv N after side0 lost vals left D (m :: Q) [] c) : SInv N after side0 lost vals left (D ++ [m]) Q (bef after m N) (at_ vals m) := by
  have e : D ++ (m :: Q) = (D ++ [m]) ++ Q := by simp
  have hm : m ∉ D := fun hd => by
    have := h.nodup
    rw [List.nodup_append] at this
    exact this.2.2 m hd m (List.mem_cons_self ..) rfl
  have hqb := h.qb m (List.mem_cons_self ..)
  have hmN := h.lt m (by simp)
  have hqs := List.pairwise_cons.mp h.qs
  refine ⟨h.lenv, h.lenl, h.hk, e ▸ h.nodup, e ▸ h.lt, fun n hn => e ▸ h.memv n hn, h.ge, fun n hn => ?_, fun d hd => ?_, hqs.2, fun q hq => ⟨hqs.1 q hq, ?_⟩, ?_, h.lost0, h.s0, h.s1, fun n hn hs hv => ⟨(h.u0 n hn hs hv).1, fun k hk hw => ?_⟩, h.u1⟩
  · have := h.lf n hn
    rw [inD_snoc hm, count_bef, if_pos hn]
    simp at this ⊢; omega
  · rcases List.mem_append.mp hd with hd | hd
    · have := h.dle d hd; omega
    · rw [List.mem_singleton] at hd; subst hd; exact Int.le_refl _
  · have := (h.qb q (List.mem_cons_of_mem _ hq)).2; omega
  · have := h.cD; simp; omega
  · have h0 := (h.u0 n hn hs hv).1
    have hl := h.lf n hn
    simp at hl
    have hz : (after n).countP (inD D) = 0 := by
      have := List.countP_le_length (p := inD D) (l := after n)
      omega
    rw [List.countP_eq_zero] at hz
    have hkd := hz k hk
    unfold wv at hw ⊢
    split at hw
    · omega
    · rename_i hk0
      rw [if_neg hk0]
      by_cases hkN : k.toNat < N
      · have := (h.memv _ hkN).mpr hw
        rcases List.mem_append.mp this with hd | hq
        · exact absurd (by simp [inD]; exact ⟨by omega, hd⟩) hkd
        · rcases List.mem_cons.mp hq with e | hq
          · rw [e]; exact Int.le_refl _
          · exact hqs.1 _ hq
      · have := h.hk n hn k hk; omega

/-- one step: n is looked at from m, the last of D -/
theorem SInv.look {m n : Nat} (h : SInv N after side0 lost vals left (D ++ [m]) Q (n :: R) (at_ vals m)) (hR : ∀ x ∈ n :: R, x < N ∧ (m : Int) ∈ after x) (hm0 : 0 ≤ at_ vals m) :
    if at_ vals n = -1 ∧ (side0 n = true ∨ at_ left n - 1 = 0) then
      n ∉ D ++ [m] ∧ SInv N after side0 lost (vals.set n (at_ vals m + 1)) (left.set n (at_ left n - 1)) (D ++ [m]) (Q ++ [n]) R (at_ (vals.set n (at_ vals m + 1)) m) ∧ at_ (vals.set n (at_ vals m + 1)) m = at_ vals m
    else SInv N after side0 lost vals (left.set n (at_ left n - 1)) (D ++ [m]) Q R (at_ vals m) := by
  obtain ⟨hnN, hmn⟩ := hR n (List.mem_cons_self ..)
  have hln : n < left.length := by rw [h.lenl]; exact hnN
  have hvn : n < vals.length := by rw [h.lenv]; exact hnN
  have hlf : ∀ x, x < N → at_ (left.set n (at_ left n - 1)) x = (after x).length - (after x).countP (inD (D ++ [m])) + R.count x := by
    intro x hx
    rw [at_set hln]
    have := h.lf x hx
    rw [List.count_cons] at this
    split
    · rename_i e; subst e; simp at this; omega
    · rename_i e
      have e' : ¬ n = x := fun e'' => e e''.symm
      simp [e'] at this; omega
  split
  · rename_i hc
    obtain ⟨hv, hor⟩ := hc
    have hnot : n ∉ (D ++ [m]) ++ Q := fun hin => by have := (h.memv n hnN).mp hin; omega
    have hmn' : m ≠ n := fun e => by subst e; omega
    have hvm : at_ (vals.set n (at_ vals m + 1)) m = at_ vals m := by rw [at_set hvn, if_neg hmn']
    have hlost : lost n = false := by
      cases hl : lost n
      · rfl
      · have := h.lost0 n hnN hl; omega
    have hwn : ∀ k, wv (vals.set n (at_ vals m + 1)) k = if k = (n : Int) then at_ vals m + 1 else wv vals k := by
      intro k
      unfold wv
      by_cases hk : k < 0
      · rw [if_pos hk, if_pos hk, if_neg (by omega)]
      · rw [if_neg hk, if_neg hk, at_set hvn]
        by_cases e : k = (n : Int)
        · subst e; simp
        · rw [if_neg (by omega), if_neg e]
    have hall : ∀ x ∈ (D ++ [m]) ++ Q, at_ vals x ≤ at_ vals m + 1 := by
      intro x hx
      rcases List.mem_append.mp hx with hx | hx
      · have := h.dle x hx; omega
      · exact (h.qb x hx).2
    have hvx : ∀ x ∈ (D ++ [m]) ++ Q, at_ (vals.set n (at_ vals m + 1)) x = at_ vals x := by
      intro x hx
      rw [at_set hvn, if_neg (fun e => by subst e; exact hnot hx)]
    refine ⟨fun hx => hnot (List.mem_append_left _ hx), ?_, hvm⟩
    rw [hvm]
    refine ⟨by rw [List.length_set]; exact h.lenv, by rw [List.length_set]; exact h.lenl, h.hk, ?_, ?_, ?_, ?_, hlf, ?_, ?_, ?_, h.cD, ?_, ?_, ?_, ?_, ?_⟩
    · rw [← List.append_assoc, List.nodup_append]
      refine ⟨h.nodup, by simp, ?_⟩
      intro a ha b hb e
      rw [List.mem_singleton] at hb
      subst hb e; exact hnot ha
    · intro x hx
      rw [← List.append_assoc] at hx
      rcases List.mem_append.mp hx with hx | hx
      · exact h.lt x hx
      · rw [List.mem_singleton] at hx; subst hx; exact hnN
    · intro x hx
      rw [← List.append_assoc, List.mem_append, List.mem_singleton, h.memv x hx, at_set hvn]
      split
      · rename_i e; subst e; simp; omega
      · rename_i e; simp [e]
    · intro x hx
      rw [at_set hvn]; split
      · omega
      · exact h.ge x hx
    · intro d hd
      rw [hvx d (List.mem_append_left _ hd)]; exact h.dle d hd
    · rw [List.pairwise_append]
      refine ⟨?_, by simp, ?_⟩
      · refine List.Pairwise.imp_of_mem ?_ h.qs
        intro a b ha hb hab
        rw [hvx a (List.mem_append_right _ ha), hvx b (List.mem_append_right _ hb)]; exact hab
      · intro a ha b hb
        rw [List.mem_singleton] at hb; subst hb
        rw [hvx a (List.mem_append_right _ ha), at_set hvn, if_pos rfl]
        exact (h.qb a ha).2
    · intro q hq
      rcases List.mem_append.mp hq with hq | hq
      · rw [hvx q (List.mem_append_right _ hq)]; exact h.qb q hq
      · rw [List.mem_singleton] at hq; subst hq
        rw [at_set hvn, if_pos rfl]; omega
    · intro x hx hl
      have := h.lost0 x hx hl
      rw [at_set hvn, if_neg (fun e => by subst e; omega)]; exact this
    · intro x hx hs hl hv0
      rw [at_set hvn] at hv0 ⊢
      by_cases e : x = n
      · subst e
        simp only [if_true]
        refine ⟨by omega, ⟨(m : Int), hmn, ?_⟩, ?_⟩
        · rw [hwn, if_neg (by omega), wv_nat]; omega
        · intro k hk hw
          rw [hwn] at hw ⊢
          have hu := (h.u0 x hx hs hv).2 k hk
          split
          · omega
          · rename_i e; rw [if_neg e] at hw; have := hu hw; omega
      · rw [if_neg e] at hv0 ⊢
        obtain ⟨a1, ⟨k, hk, a2⟩, a3⟩ := h.s0 x hx hs hl hv0
        refine ⟨a1, ⟨k, hk, ?_⟩, ?_⟩
        · rw [hwn, if_neg]
          · exact a2
          · intro e'; subst e'; rw [wv_nat] at a2; omega
        · intro k hk hw
          rw [hwn] at hw ⊢
          split
          · have := hall x ((h.memv x hx).mpr hv0); omega
          · rename_i e'; rw [if_neg e'] at hw; exact a3 k hk hw
    · intro x hx hs hl hv0
      rw [at_set hvn] at hv0 ⊢
      by_cases e : x = n
      · subst e
        simp only [if_true]
        have hz : at_ left x - 1 = 0 := by
          rcases hor with h' | h'
          · rw [hs] at h'; cases h'
          · exact h'
        have hcnt := hlf x hx
        rw [at_set hln, if_pos rfl, hz] at hcnt
        have hcl := List.countP_le_length (p := inD (D ++ [m])) (l := after x)
        have hcl' : (after x).countP (inD (D ++ [m])) = (after x).length := by omega
        rw [List.countP_eq_length] at hcl'
        refine ⟨by omega, ⟨(m : Int), hmn, ?_⟩, ?_⟩
        · rw [hwn, if_neg (by omega), wv_nat]; omega
        · intro k hk
          have hd := hcl' k hk
          simp only [inD, decide_eq_true_eq] at hd
          have hne : k ≠ (x : Int) := fun e => by
            subst e; exact hnot (List.mem_append_left _ (by simpa using hd.2))
          rw [hwn, if_neg hne]
          unfold wv
          rw [if_neg (by omega)]
          have h1 := h.dle _ hd.2
          have h2 := (h.memv k.toNat (h.lt _ (List.mem_append_left _ hd.2))).mp (List.mem_append_left _ hd.2)
          omega
      · rw [if_neg e] at hv0 ⊢
        obtain ⟨a1, ⟨k, hk, a2⟩, a3⟩ := h.s1 x hx hs hl hv0
        have hne : ∀ k ∈ after x, k ≠ (n : Int) := fun k hk e' => by
          subst e'; have := (a3 _ hk).1; rw [wv_nat] at this; omega
        refine ⟨a1, ⟨k, hk, ?_⟩, ?_⟩
        · rw [hwn, if_neg (hne k hk)]; exact a2
        · intro k hk
          rw [hwn, if_neg (hne k hk)]; exact a3 k hk
    · intro x hx hs hvx'
      rw [at_set hvn] at hvx'
      by_cases e : x = n
      · rw [if_pos e] at hvx'; omega
      · rw [if_neg e] at hvx'
        obtain ⟨a1, a2⟩ := h.u0 x hx hs hvx'
        refine ⟨by rw [at_set hln, if_neg e]; exact a1, ?_⟩
        intro k hk hw
        rw [hwn] at hw ⊢
        split
        · omega
        · rename_i e'; rw [if_neg e'] at hw; exact a2 k hk hw
    · intro x hx hs hvx' hl0
      rw [at_set hvn] at hvx'
      by_cases e : x = n
      · rw [if_pos e] at hvx'; omega
      · rw [if_neg e] at hvx'
        rw [at_set hln, if_neg e] at hl0
        exact h.u1 x hx hs hvx' hl0
  · rename_i hc
    refine ⟨h.lenv, by rw [List.length_set]; exact h.lenl, h.hk, h.nodup, h.lt, h.memv, h.ge, hlf, h.dle, h.qs, h.qb, h.cD, h.lost0, h.s0, h.s1, ?_, ?_⟩
    · intro x hx hs hv
      obtain ⟨a1, a2⟩ := h.u0 x hx hs hv
      refine ⟨?_, a2⟩
      rw [at_set hln, if_neg]
      · exact a1
      · intro e; subst e; exact hc ⟨hv, .inl hs⟩
    · intro x hx hs hv hl0
      rw [at_set hln] at hl0
      split at hl0
      · rename_i e; subst e; exact absurd ⟨hv, .inr hl0⟩ hc
      · exact h.u1 x hx hs hv hl0

/-- at the end -/
theorem SInv.fin (h : SInv N after side0 lost vals left D [] [] c) (n : Nat) (hn : n < N) :
    -1 ≤ at_ vals n ∧ at_ vals n < N ∧ (lost n = true → at_ vals n = 0) ∧
    (lost n = false → side0 n = true → ((∀ a ∈ (after n).map (wv vals), a < 0) ∧ at_ vals n = -1) ∨ (∃ M ∈ (after n).map (wv vals), 0 ≤ M ∧ (∀ a ∈ (after n).map (wv vals), 0 ≤ a → M ≤ a) ∧ at_ vals n = 1 + M)) ∧
    (lost n = false → side0 n = false → if after n = [] then at_ vals n = -1 else ((∀ a ∈ (after n).map (wv vals), 0 ≤ a) ∧ ∃ M ∈ (after n).map (wv vals), (∀ a ∈ (after n).map (wv vals), a ≤ M) ∧ at_ vals n = 1 + M) ∨ ((∃ a ∈ (after n).map (wv vals), a < 0) ∧ at_ vals n = -1)) := by
  have hge := h.ge n hn
  have hDn : D.length ≤ N := nodup_le N (by have := h.nodup; simpa using this) fun a ha => h.lt a (by simpa using ha)
  have hunv : ∀ k ∈ after n, inD D k = false → wv vals k = -1 := by
    intro k hk hd
    unfold wv
    split
    · rfl
    · have hkN := h.hk n hn k hk
      have hkN' : k.toNat < N := by omega
      have h1 := h.memv k.toNat hkN'
      have h2 := h.ge k.toNat hkN'
      have h3 : k.toNat ∉ D := fun hd' => by
        have : inD D k = true := by simp [inD]; exact ⟨by omega, hd'⟩
        rw [hd] at this; cases this
      have h4 : ¬ 0 ≤ at_ vals k.toNat := fun h5 => h3 (by simpa using h1.mpr h5)
      omega
  have hlf := h.lf n hn
  simp at hlf
  have hcl := List.countP_le_length (p := inD D) (l := after n)
  refine ⟨hge, ?_, h.lost0 n hn, fun hl hs => ?_, fun hl hs => ?_⟩
  · by_cases hv : 0 ≤ at_ vals n
    · have hd : n ∈ D := by simpa using (h.memv n hn).mpr hv
      have := h.dle n hd
      have := h.cD
      omega
    · omega
  · by_cases hv : 0 ≤ at_ vals n
    · obtain ⟨a1, ⟨k, hk, a2⟩, a3⟩ := h.s0 n hn hs hl hv
      refine .inr ⟨_, List.mem_map.mpr ⟨k, hk, rfl⟩, by omega, ?_, by omega⟩
      intro a ha h0
      obtain ⟨k', hk', rfl⟩ := List.mem_map.mp ha
      have := a3 k' hk' h0; omega
    · have hv1 : at_ vals n = -1 := by omega
      refine .inl ⟨?_, hv1⟩
      have hl0 := (h.u0 n hn hs hv1).1
      have hz : (after n).countP (inD D) = 0 := by omega
      rw [List.countP_eq_zero] at hz
      intro a ha
      obtain ⟨k, hk, rfl⟩ := List.mem_map.mp ha
      have := hunv k hk (by simpa using hz k hk)
      omega
  · by_cases hv : 0 ≤ at_ vals n
    · obtain ⟨a1, ⟨k, hk, a2⟩, a3⟩ := h.s1 n hn hs hl hv
      rw [if_neg (fun e => by rw [e] at hk; cases hk)]
      refine .inl ⟨?_, _, List.mem_map.mpr ⟨k, hk, rfl⟩, ?_, by omega⟩
      · intro a ha
        obtain ⟨k', hk', rfl⟩ := List.mem_map.mp ha
        exact (a3 k' hk').1
      · intro a ha
        obtain ⟨k', hk', rfl⟩ := List.mem_map.mp ha
        have := (a3 k' hk').2; omega
    · have hv1 : at_ vals n = -1 := by omega
      split
      · exact hv1
      · rename_i hne
        refine .inr ⟨?_, hv1⟩
        have hu := h.u1 n hn hs hv1
        have hlt : (after n).countP (inD D) ≠ (after n).length := fun e => hne (hu (by omega))
        rw [Ne, List.countP_eq_length] at hlt
        obtain ⟨k, hk⟩ := Classical.not_forall.mp hlt
        rw [Classical.not_imp] at hk
        refine ⟨_, List.mem_map.mpr ⟨k, hk.1, rfl⟩, ?_⟩
        have := hunv k hk.1 (by simpa using hk.2)
        omega
end
end Mine

end

section
open PySem
set_option linter.unusedVariables false
set_option linter.unusedSimpArgs false
set_option maxRecDepth 100000
namespace Mine

def nV (l : List Nat) : List V := l.map fun (n : Nat) => V.int n
theorem setItemV_at {σ : Store} {a k : Nat} {xs : List V} {v : V} (h : σ[a]? = some (.list xs)) (hk : k < xs.length) (hl : xs.length < 1000000) : setItemV σ (.ref a) (.int k) v = some (σ.set a (.list (xs.set k v))) := by
  simp [setItemV, h, hk, hl]

/-- the store while solve works -/
structure SS (σ : Store) (N : Nat) (σ' : Store) (vals left : List Int) (befs : Nat → List Nat) (queue : List Nat) : Prop where
  keep : Keep σ σ'
  v : σ'[σ.length + 1]? = some (.list (vals.map V.int))
  l : σ'[σ.length + 2]? = some (.list (left.map V.int))
  b : ∀ m, m < N → σ'[σ.length + 3 + m]? = some (.list (nV (befs m)))
  bl : σ'[σ.length + 3 + N]? = some (.list ((List.range N).map fun m => V.ref (σ.length + 3 + m)))
  q : σ'[σ.length + 4 + N]? = some (.list (nV queue))

section
variable {σ σ' : Store} {N : Nat} {vals left : List Int} {befs : Nat → List Nat} {queue : List Nat}
theorem SS.setV (h : SS σ N σ' vals left befs queue) (vals' : List Int) : SS σ N (σ'.set (σ.length + 1) (.list (vals'.map V.int))) vals' left befs queue :=
  ⟨h.keep.set (by omega) _, set_at h.v, by rw [set_ne (by omega)]; exact h.l, fun m hm => by rw [set_ne (by omega)]; exact h.b m hm, by rw [set_ne (by omega)]; exact h.bl, by rw [set_ne (by omega)]; exact h.q⟩
theorem SS.setL (h : SS σ N σ' vals left befs queue) (left' : List Int) : SS σ N (σ'.set (σ.length + 2) (.list (left'.map V.int))) vals left' befs queue :=
  ⟨h.keep.set (by omega) _, by rw [set_ne (by omega)]; exact h.v, set_at h.l, fun m hm => by rw [set_ne (by omega)]; exact h.b m hm, by rw [set_ne (by omega)]; exact h.bl, by rw [set_ne (by omega)]; exact h.q⟩
theorem SS.setQ (h : SS σ N σ' vals left befs queue) (queue' : List Nat) : SS σ N (σ'.set (σ.length + 4 + N) (.list (nV queue'))) vals left befs queue' :=
  ⟨h.keep.set (by omega) _, by rw [set_ne (by omega)]; exact h.v, by rw [set_ne (by omega)]; exact h.l, fun m hm => by rw [set_ne (by omega)]; exact h.b m hm, by rw [set_ne (by omega)]; exact h.bl, set_at h.q⟩
theorem SS.setB (h : SS σ N σ' vals left befs queue) (k : Nat) (hk : k < N) (l' : List Nat) : SS σ N (σ'.set (σ.length + 3 + k) (.list (nV l'))) vals left (fun m => if m = k then l' else befs m) queue :=
  ⟨h.keep.set (by omega) _, by rw [set_ne (by omega)]; exact h.v, by rw [set_ne (by omega)]; exact h.l, fun m hm => by
    by_cases e : m = k
    · subst e; rw [set_at (h.b m hm)]; simp
    · rw [set_ne (by omega), if_neg e]; exact h.b m hm, by rw [set_ne (by omega)]; exact h.bl, by rw [set_ne (by omega)]; exact h.q⟩
end

structure SolveIn (σ : Store) (sa fa la N : Nat) (after : Nat → List Int) (sd : List Int) (ls : List Bool) : Prop where
  n : N < 4000
  sdl : sd.length = N
  lsl : ls.length = N
  s : σ[sa]? = some (.list (sd.map V.int))
  l : σ[la]? = some (.list (ls.map V.bool))
  a : ∃ rr : List Nat, rr.length = N ∧ σ[fa]? = some (.list (rr.map V.ref)) ∧ ∀ n, n < N → ∃ r, rr[n]? = some r ∧ σ[r]? = some (.list ((after n).map V.int))
  rl : ∀ n, n < N → (after n).length < 100
  lo : ∀ n, n < N → ∀ k ∈ after n, -1 ≤ k ∧ k < N
def lostOf (ls : List Bool) (n : Nat) : Bool := (ls[n]?).getD false
def side0Of (sd : List Int) (n : Nat) : Bool := decide (at_ sd n = 0)

section
variable {C : Ctx} (P : Prg C) {X : Store → Prop} {σ : Store}
include P

/-- the setting up -/
theorem solve_setup {sa fa la N : Nat} {after : Nat → List Int} {sd : List Int} {ls : List Bool} (H : SolveIn σ sa fa la N after sd ls) {m : Loc} (m1 : m "sides" = some (.ref sa)) (m2 : m "after" = some (.ref fa)) (m3 : m "lost" = some (.ref la)) {Q : Fl → Loc → Store → Prop}
    (hQ : ∀ m' σ', m' "sides" = some (.ref sa) → m' "after" = some (.ref fa) → m' "lost" = some (.ref la) → m' "values" = some (.ref (σ.length + 1)) → m' "left" = some (.ref (σ.length + 2)) → m' "before" = some (.ref (σ.length + 3 + N)) → m' "queue" = some (.ref (σ.length + 4 + N)) →
      SS σ N σ' (List.replicate N (-1)) [] (fun _ => []) [] → Q .next m' σ') : wpSs C 0 X (b_solve.take 4) m σ Q := by
  obtain ⟨rr, hrl, hfa, hrr⟩ := H.a
  have hN := H.n
  simp only [b_solve, List.take]
  refine step fun K hK hR hC => ?_
  rw [wpS, wpE, wpE, wpEs_cons, wpE]
  refine ⟨_, gl_NO_MATE P, ?_⟩
  rw [wpEs, wpE, wpEs_cons, wpE]
  refine ⟨_, m2, ?_⟩
  rw [wpEs]
  refine wpB_len ((Keep.snoc σ _) _ _ hfa) (by simp; omega) ?_
  simp only [wpBin, wpAssign]
  refine ⟨.int (-1), append_here _ _, ⟨by omega, by simp; omega⟩, ?_⟩
  simp only [List.length_map, hrl, Int.toNat_natCast]
  refine hK _ _ (step fun K hK hR hC => ?_)
  simp only [wpS, wpE, wpEs, wpAssign]
  refine hK _ _ (step fun K hK hR hC => ?_)
  have hlen : (((σ ++ [AObj.list [.int (-1)]]) ++ [AObj.list (List.replicate N (V.int (-1)))]) ++ [AObj.list []]).length = σ.length + 3 := by simp
  have k3 : Keep σ (((σ ++ [AObj.list [.int (-1)]]) ++ [AObj.list (List.replicate N (V.int (-1)))]) ++ [AObj.list []]) := ((Keep.snoc _ _).trans (Keep.snoc _ _)).trans (Keep.snoc _ _)
  have e1 : (((σ ++ [AObj.list [.int (-1)]]) ++ [AObj.list (List.replicate N (V.int (-1)))]) ++ [AObj.list []])[σ.length + 1]? = some (.list ((List.replicate N (-1)).map V.int)) := by
    refine Keep.snoc _ _ _ _ ?_
    have := append_here (σ ++ [AObj.list [.int (-1)]]) (List.replicate N (V.int (-1)))
    simp only [List.length_append, List.length_singleton] at this
    rw [this]; simp
  have e2 : (((σ ++ [AObj.list [.int (-1)]]) ++ [AObj.list (List.replicate N (V.int (-1)))]) ++ [AObj.list []])[σ.length + 2]? = some (.list (([] : List Int).map V.int)) := by
    have := append_here ((σ ++ [AObj.list [.int (-1)]]) ++ [AObj.list (List.replicate N (V.int (-1)))]) []
    simpa using this
  have l1 : (σ ++ [AObj.list [V.int (-1)]]).length = σ.length + 1 := by simp
  have l2 : ((σ ++ [AObj.list [.int (-1)]]) ++ [AObj.list (List.replicate N (V.int (-1)))]).length = σ.length + 2 := by simp
  rw [l1, l2]
  generalize hs3 : (((σ ++ [AObj.list [.int (-1)]]) ++ [AObj.list (List.replicate N (V.int (-1)))]) ++ [AObj.list []]) = σ3 at hlen k3 e1 e2 ⊢
  rw [wpS]
  refine wpE_comp (fun i acc σ' => σ' = σ3 ++ List.replicate i (.list []) ∧ acc = (List.range i).map fun m => V.ref (σ.length + 3 + m)) (.ref fa) (rr.map V.ref) (fun Q' h => by rw [wpE]; exact ⟨_, by simp [upd, m2], h⟩) (by simp [srcItems, k3 _ _ hfa]) (by simp; omega) ⟨by simp, by simp⟩ ?_ ?_ ?_
  · rintro i acc σ' ⟨rfl, _⟩
    have := (k3 _ _ hfa)
    have h2 : (σ3 ++ List.replicate i (AObj.list []))[fa]? = some (.list (rr.map V.ref)) := by
      rw [List.getElem?_append_left (List.getElem?_eq_some_iff.mp this).1]; exact this
    simp [srcItems, h2]
  · rintro i v acc m' σ' hv ⟨rfl, rfl⟩ hm hx K4 hK4
    rw [wpCs]
    simp only [if_true, wpE, wpEs]
    refine hK4 _ _ ⟨?_, ?_⟩
    · rw [List.append_assoc]; congr 1; rw [List.replicate_succ']
    · rw [List.range_succ, List.map_append]; simp [hlen]
  rintro acc σ' ⟨rfl, rfl⟩
  simp only [wpAssign, List.length_map, hrl]
  refine hK _ _ (step fun K hK hR hC => ?_)
  simp only [wpS, wpE, wpEs, wpAssign]
  refine hK _ _ (done ?_)
  have lA : (σ3 ++ List.replicate N (AObj.list [])).length = σ.length + 3 + N := by simp [hlen]
  have lB : ((σ3 ++ List.replicate N (AObj.list [])) ++ [AObj.list ((List.range N).map fun m => V.ref (σ.length + 3 + m))]).length = σ.length + 4 + N := by simp [hlen]; omega
  rw [lA, lB]
  have kA : Keep σ3 (σ3 ++ List.replicate N (AObj.list [])) := fun i o h => by rw [List.getElem?_append_left (List.getElem?_eq_some_iff.mp h).1]; exact h
  have kAB := (kA.trans (Keep.snoc _ (AObj.list ((List.range N).map fun m => V.ref (σ.length + 3 + m))))).trans (Keep.snoc _ (AObj.list []))
  refine hQ _ _ (by simp [upd, m1]) (by simp [upd, m2]) (by simp [upd, m3]) (by simp [upd]) (by simp [upd]) (by simp [upd]) (by simp [upd]) ⟨k3.trans kAB, kAB _ _ e1, kAB _ _ e2, fun m hm => ?_, ?_, ?_⟩
  · refine Keep.snoc _ _ _ _ (Keep.snoc _ _ _ _ ?_)
    rw [List.getElem?_append_right (by omega), hlen, show σ.length + 3 + m - (σ.length + 3) = m by omega]
    simp [hm, nV]
  · refine Keep.snoc _ _ _ _ ?_
    rw [← lA]; exact append_here _ _
  · rw [← lB]; exact append_here _ _

/-- the rows are read -/
theorem solve_fill {sa fa la N : Nat} {after : Nat → List Int} {sd : List Int} {ls : List Bool} (H : SolveIn σ sa fa la N after sd ls) {m : Loc} {σ' : Store} (m1 : m "sides" = some (.ref sa)) (m2 : m "after" = some (.ref fa)) (m3 : m "lost" = some (.ref la))
    (m4 : m "values" = some (.ref (σ.length + 1))) (m5 : m "left" = some (.ref (σ.length + 2))) (m6 : m "before" = some (.ref (σ.length + 3 + N))) (m7 : m "queue" = some (.ref (σ.length + 4 + N))) (hS : SS σ N σ' (List.replicate N (-1)) [] (fun _ => []) []) {Q : Fl → Loc → Store → Prop}
    (hQ : ∀ m' σ'' vals left, m' "sides" = some (.ref sa) → m' "after" = some (.ref fa) → m' "lost" = some (.ref la) → m' "values" = some (.ref (σ.length + 1)) → m' "left" = some (.ref (σ.length + 2)) → m' "before" = some (.ref (σ.length + 3 + N)) → m' "queue" = some (.ref (σ.length + 4 + N)) →
      SS σ N σ'' vals left (fun m => bef after m N) ((List.range N).filter (lostOf ls)) → vals.length = N → left.length = N → (∀ n, n < N → at_ vals n = if lostOf ls n then 0 else -1) → (∀ n, n < N → at_ left n = (after n).length) → Q .next m' σ'') : wpSs C 0 X ((b_solve.drop 4).take 1) m σ' Q := by
  obtain ⟨rr, hrl, hfa, hrr⟩ := H.a
  have hN := H.n
  simp only [b_solve, List.take, List.drop]
  refine step fun K hK hR hC => ?_
  rw [wpS, wpE, wpEs_cons, wpE, wpEs_cons, wpE]
  refine ⟨_, m2, ?_⟩
  rw [wpEs]
  refine wpB_len (hS.keep _ _ hfa) (by simp; omega) ?_
  rw [wpEs, List.length_map, hrl]
  refine wpB_range (by omega) ?_
  refine forW_rng (a := 0) (b := N) (Nat.zero_le _) (fun i m σ'' => m "sides" = some (.ref sa) ∧ m "after" = some (.ref fa) ∧ m "lost" = some (.ref la) ∧ m "values" = some (.ref (σ.length + 1)) ∧ m "left" = some (.ref (σ.length + 2)) ∧ m "before" = some (.ref (σ.length + 3 + N)) ∧ m "queue" = some (.ref (σ.length + 4 + N)) ∧
      ∃ vals left, SS σ N σ'' vals left (fun m => bef after m i) ((List.range i).filter (lostOf ls)) ∧ vals.length = N ∧ left.length = i ∧ (∀ n, n < N → at_ vals n = if n < i ∧ lostOf ls n = true then 0 else -1) ∧ (∀ n, n < i → at_ left n = (after n).length))
    ⟨m1, m2, m3, m4, m5, m6, m7, _, _, hS, by simp, by simp, fun n hn => by simp [at_, hn], fun n hn => by omega⟩ ?_ ?_
  · clear m1 m2 m3 m4 m5 m6 m7 hS
    rintro i m σ1 _ hi ⟨m1, m2, m3, m4, m5, m6, m7, vals, left, hS, hvl, hll, hva, hle⟩ K k1 k2 k3
    obtain ⟨r, hr1, hr2⟩ := hrr i hi
    refine step fun K' hK' hR' hC' => ?_
    simp only [wpS, wpE, wpEs]
    refine ⟨_, by simp [upd]; exact m5, isListV_at hS.l, _, by simp [upd]; exact m2, _, by simp [upd]; rfl, ?_⟩
    refine item_get (x := .ref r) (hS.keep _ _ hfa) (by rw [List.getElem?_map, hr1]; rfl) (by omega) ?_
    have hrl2 := H.rl i hi
    refine wpB_len (hS.keep _ _ hr2) (by simp; omega) ?_
    refine ⟨_, appendV_at hS.l (by simp; omega), hK' _ _ (step fun K' hK' hR' hC' => ?_)⟩
    have hS1 := hS.setL (left ++ [((after i).length : Int)])
    rw [show (left ++ [((after i).length : Int)]).map V.int = left.map V.int ++ [V.int ((after i).map V.int).length] by simp] at hS1
    generalize σ1.set (σ.length + 2) (AObj.list (left.map V.int ++ [V.int ((after i).map V.int).length])) = σ2 at hS1 ⊢
    clear hS
    simp only [wpS, wpE]
    refine ⟨_, by simp [upd]; exact m2, _, by simp [upd]; rfl, ?_⟩
    refine item_get (x := .ref r) (hS1.keep _ _ hfa) (by rw [List.getElem?_map, hr1]; rfl) (by omega) ?_
    refine ⟨(after i).map V.int, by simp [srcItems, hS1.keep _ _ hr2], ?_⟩
    refine forW_inv (fun j m σ'' => m "sides" = some (.ref sa) ∧ m "after" = some (.ref fa) ∧ m "lost" = some (.ref la) ∧ m "values" = some (.ref (σ.length + 1)) ∧ m "left" = some (.ref (σ.length + 2)) ∧ m "before" = some (.ref (σ.length + 3 + N)) ∧ m "queue" = some (.ref (σ.length + 4 + N)) ∧ m "n" = some (.int i) ∧
      SS σ N σ'' vals (left ++ [((after i).length : Int)]) (fun m => bef after m i ++ (((after i).take j).filter fun k => decide (k = (m : Int))).map fun _ => i) ((List.range i).filter (lostOf ls))) ?_ ?_ ?_ _ 0 _ _ rfl (Nat.zero_le _)
      ⟨by simp [upd, m1], by simp [upd, m2], by simp [upd, m3], by simp [upd, m4], by simp [upd, m5], by simp [upd, m6], by simp [upd, m7], by simp [upd], by simpa using hS1⟩
    · rintro j m σ'' ⟨_, _, _, _, _, _, _, _, h⟩; simp [srcItems, h.keep _ _ hr2]
    · clear m1 m2 m3 m4 m5 m6 m7 hS1
      rintro j v m σ3 hv ⟨m1, m2, m3, m4, m5, m6, m7, m8, hS⟩ K k1 k2 k3
      obtain ⟨k, hk, rfl, htk⟩ := map_getElem hv
      have hkm : k ∈ after i := List.mem_of_getElem? hk
      have hj : j < 100 := by have := (List.getElem?_eq_some_iff.mp hk).1; omega
      obtain ⟨klo, khi⟩ := H.lo i hi k hkm
      refine ⟨_, rfl, step fun K' hK' hR' hC' => ?_⟩
      rw [wpS, wpT_cmp, wpE, wpE]
      refine ⟨_, by simp [upd]; rfl, ?_⟩
      simp only [wpE]
      refine ⟨_, gl_OUTSIDE P, !decide (k = -1), rfl, _, rfl, ?_⟩
      by_cases hk1 : k = -1
      · simp only [hk1, decide_true, Bool.not_true, Bool.false_eq_true, if_false]
        refine done (hK' _ _ (done (k1 _ _ ⟨by simp [upd, m1], by simp [upd, m2], by simp [upd, m3], by simp [upd, m4], by simp [upd, m5], by simp [upd, m6], by simp [upd, m7], by simp [upd, m8], ?_⟩)))
        have e : ∀ m : Nat, (((after i).take (j + 1)).filter fun k => decide (k = (m : Int))) = (((after i).take j).filter fun k => decide (k = (m : Int))) := by
          intro m
          rw [htk, List.filter_append, hk1]
          have : ¬ (-1 : Int) = m := by omega
          simp [this]
        simp only [e]; exact hS
      · simp only [hk1, decide_false, Bool.not_false, if_true]
        obtain ⟨kk, rfl⟩ := Int.eq_ofNat_of_zero_le (a := k) (by omega)
        have hkN : kk < N := by omega
        refine step fun K'' hK'' hR'' hC'' => ?_
        simp only [wpS, wpE]
        refine ⟨_, by simp [upd]; exact m6, _, by simp [upd]; rfl, ?_⟩
        refine item_get (x := .ref (σ.length + 3 + kk)) hS.bl (by simp [hkN]) (by omega) ?_
        have hbl : (nV (bef after kk i ++ (((after i).take j).filter fun k => decide (k = (kk : Int))).map fun _ => i)).length < 1000000 := by
          have b1 : ∀ n, n ≤ N → (bef after kk n).length ≤ n * 100 := by
            intro n
            induction n with
            | zero => intro _; simp [bef]
            | succ n ih =>
              intro hn
              rw [bef, List.length_append, List.length_map]
              have h1 := List.length_filter_le (fun k => decide (k = (kk : Int))) (after n)
              have h2 := H.rl n (by omega)
              have := ih (by omega)
              omega
          have h1 := b1 i (by omega)
          have h2 := List.length_filter_le (fun k => decide (k = (kk : Int))) ((after i).take j)
          have h3 : ((after i).take j).length ≤ j := List.length_take_le _ _
          simp only [nV, List.length_map, List.length_append]
          omega
        refine ⟨isListV_at (hS.b kk hkN), _, by simp [upd]; exact m8, _, appendV_at (hS.b kk hkN) hbl, hK'' _ _ (done (hK' _ _ (done (k1 _ _ ⟨by simp [upd, m1], by simp [upd, m2], by simp [upd, m3], by simp [upd, m4], by simp [upd, m5], by simp [upd, m6], by simp [upd, m7], by simp [upd, m8], ?_⟩))))⟩
        have := hS.setB kk hkN (bef after kk i ++ ((((after i).take j).filter fun k => decide (k = (kk : Int))).map fun _ => i) ++ [i])
        rw [show nV (bef after kk i ++ ((((after i).take j).filter fun k => decide (k = (kk : Int))).map fun _ => i) ++ [i]) = nV (bef after kk i ++ (((after i).take j).filter fun k => decide (k = (kk : Int))).map fun _ => i) ++ [V.int i] by simp [nV]] at this
        refine (show SS σ N _ _ _ _ _ from this) |> fun h => ?_
        have e : (fun m : Nat => bef after m i ++ (((after i).take (j + 1)).filter fun k => decide (k = (m : Int))).map fun _ => i) = fun m => if m = kk then bef after kk i ++ ((((after i).take j).filter fun k => decide (k = (kk : Int))).map fun _ => i) ++ [i] else bef after m i ++ (((after i).take j).filter fun k => decide (k = (m : Int))).map fun _ => i := by
          funext m
          rw [htk, List.filter_append]
          split
          · rename_i e; subst e; simp
          · rename_i e
            have : ¬ (kk : Int) = m := by omega
            simp [this]
        rw [e]; exact h
    · clear m1 m2 m3 m4 m5 m6 m7 hS1
      rintro m σ3 ⟨m1, m2, m3, m4, m5, m6, m7, m8, hS⟩
      rw [List.length_map, List.take_length] at hS
      refine hK' _ _ (step fun K' hK' hR' hC' => ?_)
      have hls : ls[i]? = some (lostOf ls i) := by
        have : i < ls.length := by rw [H.lsl]; exact hi
        unfold lostOf; rw [List.getElem?_eq_getElem this]; rfl
      rw [wpS, wpT, wpE, wpE]
      · refine ⟨_, m3, ?_⟩
        simp only [wpE]
        refine ⟨_, m8, ?_⟩
        refine item_get (x := .bool (lostOf ls i)) (hS.keep _ _ H.l) (by rw [List.getElem?_map, hls]; rfl) (by omega) ⟨_, rfl, ?_⟩
        have hle' : ∀ n, n < i + 1 → at_ (left ++ [((after i).length : Int)]) n = (after n).length := by
          intro n hn
          by_cases e : n = i
          · subst e; unfold at_; rw [← hll]; simp
          · have := hle n (by omega)
            unfold at_ at this ⊢
            rw [List.getElem?_append_left (by omega)]; exact this
        cases hlo : lostOf ls i
        · simp only [Bool.false_eq_true, if_false]
          refine done (hK' _ _ (done (k1 _ _ ⟨m1, m2, m3, m4, m5, m6, m7, _, _, ?_, hvl, by simp [hll], ?_, hle'⟩)))
          · have e : (List.range (i + 1)).filter (lostOf ls) = (List.range i).filter (lostOf ls) := by rw [List.range_succ, List.filter_append]; simp [hlo]
            rw [e]; exact hS
          · intro n hn
            rw [hva n hn]
            by_cases e : n = i
            · subst e; simp [hlo]
            · have : (n < i) = (n < i + 1) := by simp only [eq_iff_iff]; omega
              simp only [this]
        · simp only [if_true]
          refine step fun K'' hK'' hR'' hC'' => ?_
          simp only [wpS, wpE, wpAssign]
          have hS1 := hS.setV (vals.set i 0)
          rw [show (vals.set i 0).map V.int = (vals.map V.int).set i (V.int 0) by rw [List.map_set]] at hS1
          refine ⟨_, m4, _, m8, _, setItemV_at hS.v (by simp [hvl]; exact hi) (by simp [hvl]; omega), hK'' _ _ (step fun K'' hK'' hR'' hC'' => ?_)⟩
          generalize σ3.set (σ.length + 1) (AObj.list ((vals.map V.int).set i (V.int 0))) = σ4 at hS1 ⊢
          simp only [wpS, wpE]
          have hql : (nV ((List.range i).filter (lostOf ls))).length < 1000000 := by
            have := List.length_filter_le (lostOf ls) (List.range i)
            simp [nV] at this ⊢; omega
          refine ⟨_, m7, isListV_at hS1.q, _, m8, _, appendV_at hS1.q hql, hK'' _ _ (done (hK' _ _ (done (k1 _ _ ⟨m1, m2, m3, m4, m5, m6, m7, vals.set i 0, _, ?_, by simp [hvl], by simp [hll], ?_, hle'⟩))))⟩
          rotate_left
          · intro n hn
            rw [at_set (by omega)]
            by_cases e : n = i
            · subst e; simp [hlo]
            · rw [if_neg e, hva n hn]
              have : (n < i) = (n < i + 1) := by simp only [eq_iff_iff]; omega
              simp only [this]
          have e : (List.range (i + 1)).filter (lostOf ls) = (List.range i).filter (lostOf ls) ++ [i] := by rw [List.range_succ, List.filter_append]; simp [hlo]
          rw [e]
          have := hS1.setQ ((List.range i).filter (lostOf ls) ++ [i])
          rw [show nV ((List.range i).filter (lostOf ls) ++ [i]) = nV ((List.range i).filter (lostOf ls)) ++ [V.int i] by simp [nV]] at this
          exact this
      all_goals nofun
  · clear m1 m2 m3 m4 m5 m6 m7 hS
    rintro m σ1 ⟨m1, m2, m3, m4, m5, m6, m7, vals, left, hS, hvl, hll, hva, hle⟩
    refine hK _ _ (done (hQ _ _ _ _ m1 m2 m3 m4 m5 m6 m7 hS hvl hll (fun n hn => ?_) hle))
    rw [hva n hn]; simp [hn]
end
end Mine

end

section
open PySem
set_option linter.unusedVariables false
set_option linter.unusedSimpArgs false
set_option maxRecDepth 100000
namespace Mine

theorem at_get {l : List Int} {n : Nat} (h : n < l.length) : (l.map V.int)[n]? = some (.int (at_ l n)) := by
  unfold at_; simp [h]
theorem nV_get {l : List Nat} {i n : Nat} (h : l[i]? = some n) : (nV l)[i]? = some (.int n) := by simp [nV, h]
theorem nV_get' {l : List Nat} {i : Nat} {v : V} (h : (nV l)[i]? = some v) : ∃ n, l[i]? = some n ∧ v = .int n := by
  obtain ⟨a, h1, h2, _⟩ := map_getElem h
  exact ⟨a, h1, h2⟩

def swTest : E := .cmp .Lt (.loc "at") (.bcall "len" [(.loc "queue")])
def swBody : List S := [
    .assign (.name "m") (.sub (.loc "queue") (.loc "at")),
    .aug "at" .Add (.cint 1),
    .for (.name "n") (.sub (.loc "before") (.loc "m")) [
      .augsub (.loc "left") (.loc "n") .Sub (.cint 1),
      .ite (.all [(.cmp .Eq (.sub (.loc "values") (.loc "n")) (.glob "NO_MATE")), (.any [(.cmp .Eq (.sub (.loc "sides") (.loc "n")) (.glob "STRONG_MOVES")), (.cmp .Eq (.sub (.loc "left") (.loc "n")) (.cint 0))])]) [
        .assign (.sub (.loc "values") (.loc "n")) (.bin .Add (.sub (.loc "values") (.loc "m")) (.cint 1)),
        .append (.loc "queue") (.loc "n")] []]]

structure SLoc (σ : Store) (sa N : Nat) (m : Loc) : Prop where
  s : m "sides" = some (.ref sa)
  v : m "values" = some (.ref (σ.length + 1))
  l : m "left" = some (.ref (σ.length + 2))
  b : m "before" = some (.ref (σ.length + 3 + N))
  q : m "queue" = some (.ref (σ.length + 4 + N))
theorem SLoc.of {σ : Store} {sa N : Nat} {m m' : Loc} (h : SLoc σ sa N m) (e : ∀ y, y ≠ "m" → y ≠ "n" → y ≠ "at" → m' y = m y) : SLoc σ sa N m' :=
  ⟨by rw [e _ (by decide) (by decide) (by decide)]; exact h.s, by rw [e _ (by decide) (by decide) (by decide)]; exact h.v, by rw [e _ (by decide) (by decide) (by decide)]; exact h.l, by rw [e _ (by decide) (by decide) (by decide)]; exact h.b, by rw [e _ (by decide) (by decide) (by decide)]; exact h.q⟩

section
variable {C : Ctx} (P : Prg C) {X : Store → Prop} {σ : Store}
include P

theorem sw_test {N sa : Nat} {m : Loc} {σ' : Store} {vals left : List Int} {befs : Nat → List Nat} {queue : List Nat} {a : Nat} {Q : Bool → Store → Prop} (L : SLoc σ sa N m) (hS : SS σ N σ' vals left befs queue) (ha : m "at" = some (.int a)) (hq : queue.length < 1000000)
    (h : Q (decide (a < queue.length)) σ') : wpT C 0 X swTest m σ' Q := by
  simp only [swTest, wpT_cmp, wpE, wpEs]
  refine ⟨_, ha, _, L.q, wpB_len hS.q (by simpa [nV] using hq) ?_⟩
  refine ⟨decide (a < queue.length), ?_, _, rfl, h⟩
  simp only [cmpV, nV, List.length_map]; congr 1; apply decide_eq_decide.mpr; omega

theorem sw_loop {sa fa la N : Nat} {after : Nat → List Int} {sd : List Int} {ls : List Bool} (H : SolveIn σ sa fa la N after sd ls) {Q : Fl → Loc → Store → Prop} :
    ∀ (k : Nat) (D Qu : List Nat) (c : Int) (vals left : List Int) (m : Loc) (σ' : Store), N < D.length + k → SLoc σ sa N m → m "at" = some (.int D.length) → SS σ N σ' vals left (fun m => bef after m N) (D ++ Qu) → SInv N after (side0Of sd) (lostOf ls) vals left D Qu [] c →
      (∀ m' σ'' vals left D c, m' "values" = some (.ref (σ.length + 1)) → SS σ N σ'' vals left (fun m => bef after m N) D → SInv N after (side0Of sd) (lostOf ls) vals left D [] [] c → Q .next m' σ'') →
      whileW (fun m σ Q => wpT C 0 X swTest m σ Q) (fun m σ Q => wpSs C 0 X swBody m σ Q) k m σ' Q := by
  have hN := H.n
  intro k
  induction k with
  | zero =>
    intro D Qu c vals left m σ' hk L hat hS hI hQ
    have := nodup_le N (List.nodup_append.mp hI.nodup).1 fun a ha => hI.lt a (List.mem_append_left _ ha)
    omega
  | succ k ih =>
    intro D Qu c vals left m σ' hk L hat hS hI hQ
    have hql : (D ++ Qu).length ≤ N := nodup_le N hI.nodup hI.lt
    rw [whileW]
    refine sw_test P L hS hat (by omega) ?_
    cases Qu with
    | nil =>
      rw [decide_eq_false (by simp)]
      simp only [Bool.false_eq_true, if_false]
      exact hQ _ _ _ _ D c L.v (by simpa using hS) hI
    | cons mm Qr =>
      rw [decide_eq_true (by simp)]
      simp only [if_true]
      have hI2 := hI.pop
      have hmmN : mm < N := hI.lt mm (by simp)
      have hmm0 : 0 ≤ at_ vals mm := (hI.memv mm hmmN).mp (by simp)
      refine step fun K' hK' hR' hC' => ?_
      simp only [wpS, wpE]
      refine ⟨_, L.q, _, hat, ?_⟩
      refine item_get (x := .int mm) hS.q (nV_get (by simp)) (by rw [List.length_append] at hql; omega) ?_
      simp only [wpAssign]
      refine hK' _ _ (step fun K' hK' hR' hC' => ?_)
      simp only [wpS, wpE, wpAug]
      refine ⟨_, by simp [upd]; exact hat, ?_⟩
      refine hK' _ _ (step fun K' hK' hR' hC' => ?_)
      have L2 : SLoc σ sa N (upd (upd m "m" (.int mm)) "at" (.int (D.length + 1))) := L.of fun y h1 h2 h3 => by simp [upd, h1, h3]
      have hmloc : upd (upd m "m" (.int mm)) "at" (.int (D.length + 1)) "m" = some (.int mm) := by simp [upd]
      have hatloc : upd (upd m "m" (.int mm)) "at" (.int (D.length + 1)) "at" = some (.int ((D ++ [mm]).length : Nat)) := by simp [upd]
      generalize upd (upd m "m" (.int mm)) "at" (.int (D.length + 1)) = m2 at L2 hmloc hatloc ⊢
      simp only [wpS, wpE]
      refine ⟨_, L2.b, _, hmloc, ?_⟩
      refine item_get (x := .ref (σ.length + 3 + mm)) hS.bl (by simp [hmmN]) (by omega) ?_
      refine ⟨nV (bef after mm N), by simp [srcItems, hS.b mm hmmN], ?_⟩
      refine forW_inv (fun j m σ'' => SLoc σ sa N m ∧ m "m" = some (.int mm) ∧ m "at" = some (.int ((D ++ [mm]).length : Nat)) ∧ ∃ vals left Qr, SS σ N σ'' vals left (fun m => bef after m N) ((D ++ [mm]) ++ Qr) ∧ SInv N after (side0Of sd) (lostOf ls) vals left (D ++ [mm]) Qr ((bef after mm N).drop j) (at_ vals mm) ∧ 0 ≤ at_ vals mm) ?_ ?_ ?_ _ 0 _ _ rfl (Nat.zero_le _)
        ⟨L2, hmloc, hatloc, vals, left, Qr, by simpa using hS, by simpa using hI2, hmm0⟩
      · rintro j m σ'' ⟨_, _, _, _, _, _, h, _⟩; simp [srcItems, h.b mm hmmN]
      · clear L2 hmloc hatloc hS hI hI2 hmm0 L hat hql
        rintro j v m3 σ3 hv ⟨L, hm, hat, vals, left, Qr, hS, hI, h0⟩ K k1 k2 k3
        obtain ⟨n, hn, rfl⟩ := nV_get' hv
        have hjl : j < (bef after mm N).length := (List.getElem?_eq_some_iff.mp hn).1
        have hdrop : (bef after mm N).drop j = n :: (bef after mm N).drop (j + 1) := by
          rw [List.drop_eq_getElem_cons hjl]; congr 1; exact (List.getElem?_eq_some_iff.mp hn).2
        rw [hdrop] at hI
        have hmem : ∀ x ∈ n :: (bef after mm N).drop (j + 1), x < N ∧ (mm : Int) ∈ after x := by
          intro x hx
          rw [← hdrop] at hx
          exact (mem_bef N).mp (List.mem_of_mem_drop hx)
        have hnN := (hmem n (List.mem_cons_self ..)).1
        have look := hI.look hmem h0
        have hql : ((D ++ [mm]) ++ Qr).length ≤ N := nodup_le N hI.nodup hI.lt
        refine ⟨_, rfl, step fun K' hK' hR' hC' => ?_⟩
        have L3 : SLoc σ sa N (upd m3 "n" (.int n)) := L.of fun y h1 h2 h3 => by simp [upd, h2]
        have hn3 : upd m3 "n" (.int n) "n" = some (.int n) := upd_same
        have hm3 : upd m3 "n" (.int n) "m" = some (.int mm) := by simp [upd, hm]
        have hat3 : upd m3 "n" (.int n) "at" = some (.int ((D ++ [mm]).length : Nat)) := by simp [upd]; simpa using hat
        generalize upd m3 "n" (.int n) = m4 at L3 hn3 hm3 hat3 ⊢
        have hll := hI.lenl
        have hvl := hI.lenv
        simp only [wpS, wpE]
        refine ⟨_, L3.l, _, hn3, ?_⟩
        refine item_get (x := .int (at_ left n)) hS.l (at_get (by omega)) (by omega) ?_
        simp only [wpAug]
        refine ⟨_, setItemV_at hS.l (by simp; omega) (by simp; omega), hK' _ _ (step fun K' hK' hR' hC' => ?_)⟩
        have hS1 := hS.setL (left.set n (at_ left n - 1))
        rw [show (left.set n (at_ left n - 1)).map V.int = (left.map V.int).set n (V.int (at_ left n - 1)) by rw [List.map_set]] at hS1
        generalize σ3.set (σ.length + 2) (AObj.list ((left.map V.int).set n (V.int (at_ left n - 1)))) = σ4 at hS1 ⊢
        have hcond : ∀ Q' : Bool → Store → Prop, Q' (decide (at_ vals n = -1 ∧ (side0Of sd n = true ∨ at_ left n - 1 = 0))) σ4 →
            wpT C 0 X (.all [(.cmp .Eq (.sub (.loc "values") (.loc "n")) (.glob "NO_MATE")), (.any [(.cmp .Eq (.sub (.loc "sides") (.loc "n")) (.glob "STRONG_MOVES")), (.cmp .Eq (.sub (.loc "left") (.loc "n")) (.cint 0))])]) m4 σ4 Q' := by
          intro Q' hq
          rw [wpT, wpTAll, wpT_cmp, wpE]
          simp only [wpE]
          refine ⟨_, L3.v, _, hn3, item_get (x := .int (at_ vals n)) hS1.v (at_get (by omega)) (by omega) ?_⟩
          refine ⟨_, gl_NO_MATE P, decide (at_ vals n = -1), rfl, _, rfl, ?_⟩
          by_cases c1 : at_ vals n = -1
          · simp only [c1, decide_true, if_true]
            rw [wpTAll, wpT, wpTAny, wpT_cmp, wpE]
            simp only [wpE]
            have hsd := H.sdl
            refine ⟨_, L3.s, _, hn3, item_get (x := .int (at_ sd n)) (hS1.keep _ _ H.s) (at_get (by omega)) (by omega) ?_⟩
            refine ⟨_, gl_STRONG_MOVES P, decide (at_ sd n = 0), rfl, _, rfl, ?_⟩
            by_cases c2 : at_ sd n = 0
            · have : side0Of sd n = true := by simp [side0Of, c2]
              simp only [c2, decide_true, if_true]
              rw [wpTAll]
              simpa [c1, this] using hq
            · have : side0Of sd n = false := by simp [side0Of, c2]
              simp only [c2, decide_false, Bool.false_eq_true, if_false]
              rw [wpTAny, wpT_cmp, wpE]
              simp only [wpE]
              refine ⟨_, L3.l, _, hn3, ?_⟩
              have hg : ((left.map V.int).set n (V.int (at_ left n - 1)))[n]? = some (.int (at_ left n - 1)) := by
                rw [List.getElem?_set_self]; simp; omega
              have hSl := hS1.l
              rw [show (left.set n (at_ left n - 1)).map V.int = (left.map V.int).set n (V.int (at_ left n - 1)) by rw [List.map_set]] at hSl
              refine item_get (x := .int (at_ left n - 1)) hSl hg (by omega) ?_
              refine ⟨decide (at_ left n - 1 = 0), rfl, _, rfl, ?_⟩
              by_cases c3 : at_ left n - 1 = 0
              · simp only [c3, decide_true, if_true]
                rw [wpTAll]
                simpa [c1, c3] using hq
              · simp only [c3, decide_false, Bool.false_eq_true, if_false]
                rw [wpTAny]
                simp only [Bool.false_eq_true, if_false]
                simpa [c1, c3, this] using hq
          · simp only [c1, decide_false, Bool.false_eq_true, if_false]
            simpa [c1] using hq
        rw [wpS]
        refine hcond _ ?_
        by_cases hc : at_ vals n = -1 ∧ (side0Of sd n = true ∨ at_ left n - 1 = 0)
        · rw [if_pos hc] at look
          obtain ⟨hnD, hI4, hvm⟩ := look
          rw [decide_eq_true hc]
          simp only [if_true]
          refine step fun K'' hK'' hR'' hC'' => ?_
          simp only [wpS, wpE]
          refine ⟨_, L3.v, _, hm3, ?_⟩
          have hmN := hI.lt mm (by simp)
          refine item_get (x := .int (at_ vals mm)) hS1.v (at_get (by omega)) (by omega) ?_
          simp only [wpBin, wpAssign, wpE]
          have hS2 := hS1.setV (vals.set n (at_ vals mm + 1))
          rw [show (vals.set n (at_ vals mm + 1)).map V.int = (vals.map V.int).set n (V.int (at_ vals mm + 1)) by rw [List.map_set]] at hS2
          refine ⟨_, L3.v, _, hn3, _, setItemV_at hS1.v (by simp; omega) (by simp; omega), hK'' _ _ (step fun K'' hK'' hR'' hC'' => ?_)⟩
          generalize σ4.set (σ.length + 1) (AObj.list ((vals.map V.int).set n (V.int (at_ vals mm + 1)))) = σ5 at hS2 ⊢
          simp only [wpS, wpE]
          have hS3 := hS2.setQ (((D ++ [mm]) ++ Qr) ++ [n])
          rw [show nV (((D ++ [mm]) ++ Qr) ++ [n]) = nV ((D ++ [mm]) ++ Qr) ++ [V.int n] by simp [nV]] at hS3
          refine ⟨_, L3.q, isListV_at hS2.q, _, hn3, _, appendV_at hS2.q (by simp only [nV, List.length_map]; omega), hK'' _ _ (done (hK' _ _ (done (k1 _ _ ⟨L3, hm3, hat3, _, _, Qr ++ [n], ?_, hI4, by omega⟩))))⟩
          rw [← List.append_assoc]; exact hS3
        · rw [if_neg hc] at look
          rw [decide_eq_false hc]
          simp only [Bool.false_eq_true, if_false]
          exact done (hK' _ _ (done (k1 _ _ ⟨L3, hm3, hat3, _, _, Qr, hS1, look, h0⟩)))
      · clear L2 hmloc hatloc hS hI hI2 hmm0 L hat hql
        rintro m3 σ3 ⟨L, hm, hat, vals, left, Qr, hS, hI, h0⟩
        rw [show (nV (bef after mm N)).length = (bef after mm N).length by simp [nV], List.drop_length] at hI
        refine hK' _ _ (done ?_)
        exact ih (D ++ [mm]) Qr _ vals left _ _ (by simp; omega) L hat hS hI hQ

theorem s_solve {sa fa la N : Nat} {after : Nat → List Int} {sd : List Int} {ls : List Bool} (H : SolveIn σ sa fa la N after sd ls) :
    SemCall C 1 "solve" [.ref sa, .ref fa, .ref la] σ (fun v σ' => ∃ a vals left D c, v = .ref a ∧ σ.length ≤ a ∧ σ'[a]? = some (.list (vals.map V.int)) ∧ Keep σ σ' ∧ SInv N after (side0Of sd) (lostOf ls) vals left D [] [] c) X := by
  refine P.call P.f_solve rfl ?_
  rw [show b_solve = b_solve.take 4 ++ ((b_solve.drop 4).take 1 ++ b_solve.drop 5) from rfl, wpSs_append]
  refine solve_setup P H (by simp [upd, bindL]) (by simp [upd, bindL]) (by simp [upd, bindL]) ?_
  intro m σ1 m1 m2 m3 m4 m5 m6 m7 hS
  simp only
  rw [wpSs_append]
  refine solve_fill P H m1 m2 m3 m4 m5 m6 m7 hS ?_
  clear m1 m2 m3 m4 m5 m6 m7 hS
  intro m σ2 vals left m1 m2 m3 m4 m5 m6 m7 hS hv hl h1 h2
  simp only
  show wpSs C 0 X [.assign (.name "at") (.cint 0), .while swTest swBody, .ret (.loc "values")] m σ2 _
  refine step fun K hK hR hC => ?_
  simp only [wpS, wpE, wpAssign]
  refine hK _ _ (step fun K hK hR hC => ?_)
  rw [wpS]
  have hI := SInv.start (side0 := side0Of sd) (lost := lostOf ls) (fun n hn k hk => (H.lo n hn k hk).2) hv hl h1 h2
  refine ⟨N + 1, sw_loop P H (N + 1) [] _ (-1) vals left _ σ2 (by simp) ⟨by simp [upd, m1], by simp [upd, m4], by simp [upd, m5], by simp [upd, m6], by simp [upd, m7]⟩ (by simp [upd]) (by simpa using hS) hI ?_⟩
  intro m' σ'' vals left D c hmv hS hI
  refine hK _ _ (step fun K hK hR hC => ?_)
  simp only [wpS, wpE]
  exact ⟨_, hmv, hR _ _ _ ⟨_, vals, left, D, c, rfl, by omega, hS.v, hS.keep, hI⟩⟩
end
end Mine

end

section
open PySem
set_option linter.unusedVariables false
set_option linter.unusedSimpArgs false
set_option maxRecDepth 100000
namespace Mine

def plW (b : Bd) (k m w : Nat) : List Nat := if b.tch k w = false ∧ w ≠ k ∧ w ≠ m then idx b.s ⟨1, k, m, w⟩ :: (if b.str m w [(k : Int)] then [] else [idx b.s ⟨0, k, m, w⟩]) else []
def plM (b : Bd) (k m : Nat) : List Nat := if k ∈ b.zone ∧ m ≠ k then (List.range b.s).flatMap (plW b k m) else []
def plK (b : Bd) (k : Nat) : List Nat := (List.range b.s).flatMap (plM b k)
def placesOf (b : Bd) : List Nat := (List.range b.s).flatMap (plK b)

theorem mem_plW {b : Bd} {k m w n : Nat} (h : n ∈ plW b k m w) (hk : k ∈ b.zone ∧ m ≠ k) (h1 : k < b.s) (h2 : m < b.s) (h3 : w < b.s) : ∃ p : Pl, p.In b.s ∧ n = idx b.s p ∧ p.king = k ∧ p.man = m ∧ p.bare = w ∧ stands b p = true := by
  unfold plW at h
  split at h
  · rename_i hc
    obtain ⟨c1, c2, c3⟩ := hc
    rcases List.mem_cons.mp h with rfl | h
    · refine ⟨⟨1, k, m, w⟩, ⟨by simp, h1, h2, h3⟩, rfl, rfl, rfl, rfl, ?_⟩
      unfold stands
      simp [hk.1, hk.2, c1]; exact ⟨fun e => c3 e.symm, fun e => c2 e.symm⟩
    · split at h
      · cases h
      · rename_i hs
        rw [List.mem_singleton] at h
        subst h
        refine ⟨⟨0, k, m, w⟩, ⟨by simp, h1, h2, h3⟩, rfl, rfl, rfl, rfl, ?_⟩
        unfold stands
        simp [hk.1, hk.2, c1]; exact ⟨⟨fun e => c3 e.symm, fun e => c2 e.symm⟩, by simpa using hs⟩
  · cases h
theorem mem_plM {b : Bd} {k m n : Nat} (h : n ∈ plM b k m) (h1 : k < b.s) (h2 : m < b.s) : ∃ p : Pl, p.In b.s ∧ n = idx b.s p ∧ p.king = k ∧ p.man = m ∧ stands b p = true := by
  unfold plM at h
  split at h
  · rename_i hk
    rw [List.mem_flatMap] at h
    obtain ⟨w, hw, h⟩ := h
    obtain ⟨p, a1, a2, a3, a4, a5, a6⟩ := mem_plW h hk h1 h2 (List.mem_range.mp hw)
    exact ⟨p, a1, a2, a3, a4, a6⟩
  · cases h
theorem mem_plK {b : Bd} {k n : Nat} (h : n ∈ plK b k) (h1 : k < b.s) : ∃ p : Pl, p.In b.s ∧ n = idx b.s p ∧ p.king = k ∧ stands b p = true := by
  unfold plK at h
  rw [List.mem_flatMap] at h
  obtain ⟨m, hm, h⟩ := h
  obtain ⟨p, a1, a2, a3, a4, a5⟩ := mem_plM h h1 (List.mem_range.mp hm)
  exact ⟨p, a1, a2, a3, a5⟩
theorem mem_placesOf {b : Bd} {n : Nat} : n ∈ placesOf b ↔ ∃ p : Pl, p.In b.s ∧ n = idx b.s p ∧ stands b p = true := by
  constructor
  · intro h
    unfold placesOf at h
    rw [List.mem_flatMap] at h
    obtain ⟨k, hk, h⟩ := h
    obtain ⟨p, a1, a2, a3, a4⟩ := mem_plK h (List.mem_range.mp hk)
    exact ⟨p, a1, a2, a4⟩
  · rintro ⟨⟨side, k, m, w⟩, hp, rfl, hs⟩
    obtain ⟨d1, d2, d3⟩ := stands_ne hs
    simp only at d1 d2 d3
    unfold stands at hs
    simp only [Bool.and_eq_true, Bool.or_eq_true, decide_eq_true_eq, Bool.not_eq_true', decide_eq_false_iff_not] at hs
    obtain ⟨⟨⟨⟨⟨z1, _⟩, _⟩, _⟩, t1⟩, sd⟩ := hs
    unfold placesOf
    refine List.mem_flatMap.mpr ⟨k, List.mem_range.mpr hp.king, List.mem_flatMap.mpr ⟨m, List.mem_range.mpr hp.man, ?_⟩⟩
    unfold plM
    rw [if_pos ⟨z1, d1⟩]
    refine List.mem_flatMap.mpr ⟨w, List.mem_range.mpr hp.bare, ?_⟩
    unfold plW
    rw [if_pos ⟨t1, fun e => d3 e.symm, fun e => d2 e.symm⟩]
    have hsd := hp.side
    simp only at hsd
    rcases sd with rfl | sd
    · exact List.mem_cons_self ..
    · by_cases e : side = 1
      · subst e; exact List.mem_cons_self ..
      · have : side = 0 := by omega
        subst this
        rw [sd]; simp
theorem nodup_flat {α : Type} {f : Nat → List α} {n : Nat} (h1 : ∀ i, i < n → (f i).Nodup) (h2 : ∀ i j a, i < n → j < n → a ∈ f i → a ∈ f j → i = j) : ((List.range n).flatMap f).Nodup := by
  unfold List.Nodup
  rw [List.pairwise_flatMap]
  refine ⟨fun i hi => h1 i (List.mem_range.mp hi), ?_⟩
  refine List.Pairwise.imp_of_mem ?_ (List.pairwise_lt_range (n := n))
  intro i j hi hj hlt x hx y hy e
  subst e
  have := h2 i j x (List.mem_range.mp hi) (List.mem_range.mp hj) hx hy
  omega
theorem places_nodup (b : Bd) : (placesOf b).Nodup := by
  refine nodup_flat (fun k hk => nodup_flat (fun m hm => ?_) ?_) ?_
  · unfold plM
    split
    · rename_i hc
      refine nodup_flat (fun w hw => ?_) ?_
      · unfold plW
        split
        · split
          · simp
          · simp only [List.nodup_cons, List.mem_singleton, List.not_mem_nil, not_false_eq_true, List.nodup_nil, and_true]
            intro e
            have := idx_inj (p := ⟨1, k, m, w⟩) (q := ⟨0, k, m, w⟩) ⟨by simp, hk, hm, hw⟩ ⟨by simp, hk, hm, hw⟩ e
            cases this
        · simp
      · intro i j a hi hj h1 h2
        obtain ⟨p, a1, a2, a3, a4, a5, _⟩ := mem_plW h1 hc hk hm hi
        obtain ⟨q, b1, b2, b3, b4, b5, _⟩ := mem_plW h2 hc hk hm hj
        have := idx_inj a1 b1 (a2.symm.trans b2)
        subst this; omega
    · simp
  · intro i j a hi hj h1 h2
    obtain ⟨p, a1, a2, a3, a4, _⟩ := mem_plM h1 hk hi
    obtain ⟨q, b1, b2, b3, b4, _⟩ := mem_plM h2 hk hj
    have := idx_inj a1 b1 (a2.symm.trans b2)
    subst this; omega
  · intro i j a hi hj h1 h2
    obtain ⟨p, a1, a2, a3, _⟩ := mem_plK h1 hi
    obtain ⟨q, b1, b2, b3, _⟩ := mem_plK h2 hj
    have := idx_inj a1 b1 (a2.symm.trans b2)
    subst this; omega
theorem places_lt {b : Bd} {n : Nat} (h : n ∈ placesOf b) : n < 2 * b.s * b.s * b.s := by
  obtain ⟨p, hp, rfl, _⟩ := mem_placesOf.mp h
  exact idx_lt hp
theorem places_len {b : Bd} : (placesOf b).length ≤ 2 * b.s * b.s * b.s := nodup_le _ (places_nodup b) fun a ha => places_lt ha
end Mine

end

section
open PySem
set_option linter.unusedVariables false
set_option linter.unusedSimpArgs false
set_option maxRecDepth 100000
namespace Mine

theorem wpB_range_int {σ : Store} {n : Nat} {Q : V → Store → Prop} (h : n < 1000000) (hq : Q (.rng 0 n 1) σ) : wpB "range" [.int (n : Int)] σ Q := wpB_range h hq
theorem prefix_len {f : Nat → List Nat} {n i : Nat} (hi : i ≤ n) : ((List.range i).flatMap f).length ≤ ((List.range n).flatMap f).length := by
  have e : List.range n = List.range i ++ (List.range (n - i)).map (i + ·) := by
    rw [← List.range_add]; congr 1; omega
  rw [e, List.flatMap_append, List.length_append]; omega
theorem flatN_succ (f : Nat → List Nat) (n : Nat) : (List.range (n + 1)).flatMap f = (List.range n).flatMap f ++ f n := by
  rw [List.range_succ, List.flatMap_append]; simp
theorem nV_append (a b : List Nat) : nV (a ++ b) = nV a ++ nV b := by simp [nV]

section
variable {C : Ctx} (P : Prg C) {X : Store → Prop} {σ : Store}
include P

theorem s_mark {σ0 : Store} {g t : Nat} {b : Bd} (o : b.Ok) (k0 : Keep σ0 σ) (hG : GeoIs σ0 g b.G) (ht : σ0.length ≤ t) (hT : σ[t]? = some (.list ((List.replicate (2 * b.s * b.s * b.s) (-2)).map V.int))) {zm : Int} (hz : ∀ a, a < b.s → bit zm a = if a ∈ b.zone then 1 else 0) :
    SemCall C 13 "mark_places" [.ref g, .int b.kind, .int zm, .ref t] σ (fun v σ' => ∃ a tbl, v = .ref a ∧ Keep σ0 σ' ∧ a ≠ t ∧ σ0.length ≤ a ∧ σ'[a]? = some (.list (nV (placesOf b))) ∧ Tab b σ' t tbl ∧ ∀ n, n < 2 * b.s * b.s * b.s → at_ tbl n = if n ∈ placesOf b then -1 else -2) X := by
  refine P.call P.f_mark_places rfl ?_
  have hs : b.s ≤ 12 := o.s12
  have hsf : b.G.files * b.G.ranks ≤ 12 := o.s12
  have hcube := o.cube
  have hpl := places_len (b := b)
  have htl : t < σ.length := (List.getElem?_eq_some_iff.mp hT).1
  have hk0l := k0.len
  refine step fun K hK hR hC => ?_
  simp only [wpS, wpE]
  refine ⟨_, by simp [upd]; rfl, ?_⟩
  rw [(hG.keep k0).a_size]
  simp only [wpAssign]
  refine hK _ _ (step fun K hK hR hC => ?_)
  simp only [wpS, wpE, wpEs, wpAssign]
  refine hK _ _ (step fun K hK hR hC => ?_)
  simp only [wpS, wpE, wpEs]
  refine ⟨_, by simp [upd]; rfl, wpB_range (by omega) ?_⟩
  have kσ : ∀ xs : List V, Keep σ0 (σ ++ [AObj.list xs]) := fun xs => k0.trans (Keep.snoc _ _)
  refine forW_rng (a := 0) (b := b.s) (Nat.zero_le _) (fun i m σ' => σ' = σ ++ [.list (nV ((List.range i).flatMap (plK b)))] ∧ m "geo" = some (.ref g) ∧ m "kind" = some (.int b.kind) ∧ m "zone" = some (.int zm) ∧ m "table" = some (.ref t) ∧ m "size" = some (.int b.s) ∧ m "places" = some (.ref σ.length))
    ⟨by simp [nV], by simp [upd, bindL], by simp [upd, bindL], by simp [upd, bindL], by simp [upd, bindL], by simp [upd, bindL], by simp [upd]⟩ ?_ ?_
  · rintro i m σ' _ hi ⟨rfl, m1, m2, m3, m4, m5, m6⟩ K k1 k2 k3
    refine step fun K' hK' hR' hC' => ?_
    simp only [wpS, wpE, wpEs]
    refine ⟨_, by simp [upd]; exact m5, wpB_range (by omega) ?_⟩
    refine forW_rng (a := 0) (b := b.s) (Nat.zero_le _) (fun j m σ' => σ' = σ ++ [.list (nV ((List.range i).flatMap (plK b) ++ (List.range j).flatMap (plM b i)))] ∧ m "geo" = some (.ref g) ∧ m "kind" = some (.int b.kind) ∧ m "zone" = some (.int zm) ∧ m "table" = some (.ref t) ∧ m "size" = some (.int b.s) ∧ m "places" = some (.ref σ.length) ∧ m "strong" = some (.int i))
      ⟨by simp, by simp [upd, m1], by simp [upd, m2], by simp [upd, m3], by simp [upd, m4], by simp [upd, m5], by simp [upd, m6], by simp [upd]⟩ ?_ ?_
    · clear m1 m2 m3 m4 m5 m6
      rintro j m σ' _ hj ⟨rfl, m1, m2, m3, m4, m5, m6, m7⟩ K k1 k2 k3
      refine step fun K' hK' hR' hC' => ?_
      have hGk := hG.keep (kσ (nV ((List.range i).flatMap (plK b) ++ (List.range j).flatMap (plM b i))))
      obtain ⟨kk, ak, ik⟩ := hGk.a_king o.geo
      simp only [wpS, wpE]
      refine ⟨_, by simp [upd]; exact m1, ?_⟩
      rw [hGk.a_full]
      refine ⟨_, by simp [upd]; exact m1, ?_⟩
      rw [ak]
      refine ⟨_, by simp [upd]; exact m7, ?_⟩
      rw [ik i _ hi]
      refine ⟨_, by simp [upd]; exact m7, ?_⟩
      refine ⟨⟨by omega, by omega, by decide⟩, ?_⟩
      simp only [wpBin]
      refine ⟨_, by simp [upd]; rfl, ?_⟩
      refine ⟨⟨by omega, by omega, by decide⟩, _, rfl, ?_⟩
      simp only [wpAssign, Int.one_mul, Int.toNat_natCast]
      have hfr : Builtin.bitAnd b.G.full (Builtin.bitNot (Builtin.bitOr (Builtin.bitOr ((b.G.king[i]?).getD 0) (2 ^ i)) (2 ^ j))) = b.freeOf i j := rfl
      rw [hfr]
      refine hK' _ _ (step fun K' hK' hR' hC' => ?_)
      have zb := hz i hi
      unfold bit at zb
      -- the three that stop it
      have hskip : plM b i j = [] → K .next (upd (upd m "piece" (.int j)) "free" (.int (b.freeOf i j))) (σ ++ [.list (nV ((List.range i).flatMap (plK b) ++ (List.range j).flatMap (plM b i)))]) ∧ K .cont (upd (upd m "piece" (.int j)) "free" (.int (b.freeOf i j))) (σ ++ [.list (nV ((List.range i).flatMap (plK b) ++ (List.range j).flatMap (plM b i)))]) := by
        intro he
        have inv : (σ ++ [AObj.list (nV ((List.range i).flatMap (plK b) ++ (List.range j).flatMap (plM b i)))]) = σ ++ [.list (nV ((List.range i).flatMap (plK b) ++ (List.range (j + 1)).flatMap (plM b i)))] := by rw [flatN_succ, he, List.append_nil]
        exact ⟨k1 _ _ ⟨inv, by simp [upd, m1], by simp [upd, m2], by simp [upd, m3], by simp [upd, m4], by simp [upd, m5], by simp [upd, m6], by simp [upd, m7]⟩, k2 _ _ ⟨inv, by simp [upd, m1], by simp [upd, m2], by simp [upd, m3], by simp [upd, m4], by simp [upd, m5], by simp [upd, m6], by simp [upd, m7]⟩⟩
      have cond : ∀ (m' : Loc) (σ' : Store) (Q' : Bool → Store → Prop), m' "zone" = some (.int zm) → m' "strong" = some (.int i) → m' "piece" = some (.int j) → m' "free" = some (.int (b.freeOf i j)) → Q' (decide (¬ (i ∈ b.zone ∧ j ≠ i ∧ b.freeOf i j ≠ 0))) σ' →
          wpT C 12 X (.any [(.cmp .Eq (.bin .BitAnd (.bin .RShift (.loc "zone") (.loc "strong")) (.cint 1)) (.cint 0)), (.cmp .Eq (.loc "piece") (.loc "strong")), (.cmp .Eq (.loc "free") (.cint 0))]) m' σ' Q' := by
        intro m' σ' Q' n1 n2 n3 n4 hq
        rw [wpT, wpTAny, wpT_cmp, wpE, wpE, wpE, wpE]
        refine ⟨_, n1, ?_⟩
        simp only [wpE]
        refine ⟨_, n2, ⟨by omega, ?_⟩⟩
        simp only [wpBin, Int.toNat_natCast]
        rw [zb]
        by_cases c1 : i ∈ b.zone
        · refine ⟨false, by simp [cmpV, eqV, c1], _, rfl, ?_⟩
          simp only [Bool.false_eq_true, if_false]
          rw [wpTAny, wpT_cmp, wpE, wpE]
          refine ⟨_, n3, ?_⟩
          simp only [wpE]
          refine ⟨_, n2, decide (j = i), by simp only [cmpV, eqV]; congr 1; apply decide_eq_decide.mpr; omega, _, rfl, ?_⟩
          by_cases c2 : j = i
          · simp only [c2, decide_true, if_true]; simpa [c2] using hq
          · simp only [c2, decide_false, Bool.false_eq_true, if_false]
            rw [wpTAny, wpT_cmp, wpE, wpE]
            refine ⟨_, n4, ?_⟩
            simp only [wpE]
            refine ⟨decide (b.freeOf i j = 0), rfl, _, rfl, ?_⟩
            by_cases c3 : b.freeOf i j = 0
            · simp only [c3, decide_true, if_true]; simpa [c3] using hq
            · simp only [c3, decide_false, Bool.false_eq_true, if_false]
              rw [wpTAny]; simpa [c1, c2, c3] using hq
        · refine ⟨true, by simp [cmpV, eqV, c1], _, rfl, ?_⟩
          simp only [if_true]; simpa [c1] using hq
      rw [wpS]
      refine cond _ _ _ (by simp [upd, m3]) (by simp [upd, m7]) (by simp [upd]) (by simp [upd]) ?_
      by_cases hc : i ∈ b.zone ∧ j ≠ i ∧ b.freeOf i j ≠ 0
      · rw [show decide (¬ (i ∈ b.zone ∧ j ≠ i ∧ b.freeOf i j ≠ 0)) = false by simp only [decide_eq_false_iff_not, Classical.not_not]; exact hc]
        simp only [Bool.false_eq_true, if_false]
        have hplM : plM b i j = (List.range b.s).flatMap (plW b i j) := by unfold plM; rw [if_pos ⟨hc.1, hc.2.1⟩]
        refine done (hK' _ _ (step fun K' hK' hR' hC' => ?_))
        simp only [wpS, wpE, wpEs]
        refine ⟨_, gl_piece_attacks P, _, by simp [upd]; exact m1, _, gl_WHITE P, _, by simp [upd]; exact m2, _, by simp [upd]; rfl, _, by simp [upd]; exact m7, ?_⟩
        refine ⟨⟨by omega, by omega, by decide⟩, _, _, rfl, rfl, ?_⟩
        simp only [Int.one_mul, Int.toNat_natCast]
        refine SemCall.mono (s_piece P hGk o.geo 0 b.kind j (2 ^ i) hj o.kind) (fun v σ2 ⟨hv, hσ2⟩ => ?_) fun _ h => h
        subst hv hσ2
        simp only [wpAssign]
        refine hK' _ _ (step fun K' hK' hR' hC' => ?_)
        simp only [wpS, wpE, wpEs]
        refine ⟨_, by simp [upd]; exact m5, wpB_range (by omega) ?_⟩
        refine forW_rng (a := 0) (b := b.s) (Nat.zero_le _) (fun w m σ' => σ' = σ ++ [.list (nV ((List.range i).flatMap (plK b) ++ (List.range j).flatMap (plM b i) ++ (List.range w).flatMap (plW b i j)))] ∧ m "geo" = some (.ref g) ∧ m "kind" = some (.int b.kind) ∧ m "zone" = some (.int zm) ∧ m "table" = some (.ref t) ∧ m "size" = some (.int b.s) ∧ m "places" = some (.ref σ.length) ∧ m "strong" = some (.int i) ∧ m "piece" = some (.int j) ∧ m "free" = some (.int (b.freeOf i j)) ∧ m "checked" = some (.int (kindAtt b.G b.kind j (2 ^ i))))
          ⟨by simp, by simp [upd, m1], by simp [upd, m2], by simp [upd, m3], by simp [upd, m4], by simp [upd, m5], by simp [upd, m6], by simp [upd, m7], by simp [upd], by simp [upd], by simp [upd]⟩ ?_ ?_
        · clear m1 m2 m3 m4 m5 m6 m7
          rintro w m σ' _ hw ⟨rfl, m1, m2, m3, m4, m5, m6, m7, m8, m9, m10⟩ K k1 k2 k3
          have fb := o.free i j w hi hj hw
          have cb := o.chk i j w hi hj hw
          unfold bit at fb cb
          have next : ∀ m' : Loc, (∀ y, y ≠ "weak" → m' y = m y) → K .next m' (σ ++ [.list (nV ((List.range i).flatMap (plK b) ++ (List.range j).flatMap (plM b i) ++ (List.range w).flatMap (plW b i j) ++ plW b i j w))]) := by
            intro m' e
            refine k1 _ _ ⟨by rw [flatN_succ, ← List.append_assoc], ?_⟩
            refine ⟨?_, ?_, ?_, ?_, ?_, ?_, ?_, ?_, ?_, ?_⟩ <;> (rw [e _ (by decide)]; assumption)
          have hlen : ∀ l : List Nat, l.length ≤ 2 → (nV ((List.range i).flatMap (plK b) ++ (List.range j).flatMap (plM b i) ++ (List.range w).flatMap (plW b i j) ++ l)).length < 1000000 := by
            intro l hl
            have a1 : ((List.range i).flatMap (plK b)).length ≤ (placesOf b).length := prefix_len (by omega)
            have a2 : (plK b i).length ≤ (placesOf b).length := by
              have h1 : ((List.range (i + 1)).flatMap (plK b)).length ≤ (placesOf b).length := prefix_len (by omega)
              rw [flatN_succ, List.length_append] at h1; omega
            have a3 : ((List.range j).flatMap (plM b i)).length ≤ (plK b i).length := prefix_len (by omega)
            have a4 : (plM b i j).length ≤ (plK b i).length := by
              have h1 : ((List.range (j + 1)).flatMap (plM b i)).length ≤ (plK b i).length := prefix_len (by omega)
              rw [flatN_succ, List.length_append] at h1; omega
            have a5 : ((List.range w).flatMap (plW b i j)).length ≤ (plM b i j).length := by rw [hplM]; exact prefix_len (by omega)
            simp only [nV, List.length_map, List.length_append]
            omega
          refine step fun K' hK' hR' hC' => ?_
          rw [wpS, wpT, wpE, wpE, wpE]
          · refine ⟨_, by simp [upd]; exact m9, ?_⟩
            simp only [wpE]
            refine ⟨_, upd_same, ⟨by omega, ?_⟩⟩
            simp only [wpBin, Int.toNat_natCast]
            rw [fb]
            by_cases c1 : b.tch i w = false ∧ w ≠ i ∧ w ≠ j
            · refine ⟨true, by simp only [c1, not_false_eq_true, ne_eq, and_self, if_true, truthV]; rfl, ?_⟩
              simp only [if_true]
              refine step fun K3 hK3 hR3 hC3 => ?_
              simp only [wpS, wpE, wpEs]
              refine ⟨_, by simp [upd]; exact m6, isListV_here, _, gl_index_of P, _, by simp [upd]; exact m5, _, gl_WEAK_MOVES P, _, by simp [upd]; exact m7, _, by simp [upd]; exact m8, _, upd_same, _, _, rfl, rfl, ?_⟩
              refine SemCall.mono ((s_idx P b.s hs 1 i j w).up (b := 11) (by decide)) (fun v σ'' ⟨hv, hσ2⟩ => ?_) fun _ h => h
              subst hv hσ2
              refine ⟨_, appendV_here (by simpa using hlen [] (by simp)), hK3 _ _ (step fun K3 hK3 hR3 hC3 => ?_)⟩
              have e1 : nV ((List.range i).flatMap (plK b) ++ (List.range j).flatMap (plM b i) ++ (List.range w).flatMap (plW b i j)) ++ [V.int (idx b.s ⟨1, i, j, w⟩)] = nV ((List.range i).flatMap (plK b) ++ (List.range j).flatMap (plM b i) ++ (List.range w).flatMap (plW b i j) ++ [idx b.s ⟨1, i, j, w⟩]) := by
                simp [nV]
              rw [e1]
              rw [wpS, wpT_cmp, wpE, wpE, wpE, wpE]
              refine ⟨_, by simp [upd]; exact m10, ?_⟩
              simp only [wpE]
              refine ⟨_, upd_same, ⟨by omega, ?_⟩⟩
              simp only [wpBin, Int.toNat_natCast]
              rw [cb]
              cases c2 : b.str j w [(i : Int)]
              · refine ⟨true, by simp [cmpV, eqV], _, rfl, ?_⟩
                simp only [if_true]
                refine step fun K4 hK4 hR4 hC4 => ?_
                simp only [wpS, wpE, wpEs]
                refine ⟨_, by simp [upd]; exact m6, isListV_here, _, gl_index_of P, _, by simp [upd]; exact m5, _, gl_STRONG_MOVES P, _, by simp [upd]; exact m7, _, by simp [upd]; exact m8, _, upd_same, _, _, rfl, rfl, ?_⟩
                refine SemCall.mono ((s_idx P b.s hs 0 i j w).up (b := 11) (by decide)) (fun v σ'' ⟨hv, hσ2⟩ => ?_) fun _ h => h
                subst hv hσ2
                refine ⟨_, appendV_here (hlen [idx b.s ⟨1, i, j, w⟩] (by simp)), hK4 _ _ (done (hK3 _ _ (done (hK' _ _ (done ?_)))))⟩
                have := next (upd m "weak" (.int w)) (fun y hy => by simp [upd, hy])
                rw [show plW b i j w = [idx b.s ⟨1, i, j, w⟩, idx b.s ⟨0, i, j, w⟩] by unfold plW; rw [if_pos c1, c2]; rfl] at this
                rw [show nV ((List.range i).flatMap (plK b) ++ (List.range j).flatMap (plM b i) ++ (List.range w).flatMap (plW b i j) ++ [idx b.s ⟨1, i, j, w⟩, idx b.s ⟨0, i, j, w⟩]) = nV ((List.range i).flatMap (plK b) ++ (List.range j).flatMap (plM b i) ++ (List.range w).flatMap (plW b i j) ++ [idx b.s ⟨1, i, j, w⟩]) ++ [V.int (idx b.s ⟨0, i, j, w⟩)] by simp [nV]] at this
                exact this
              · refine ⟨false, by simp [cmpV, eqV], _, rfl, ?_⟩
                simp only [Bool.false_eq_true, if_false]
                refine done (hK3 _ _ (done (hK' _ _ (done ?_))))
                have := next (upd m "weak" (.int w)) (fun y hy => by simp [upd, hy])
                rw [show plW b i j w = [idx b.s ⟨1, i, j, w⟩] by unfold plW; rw [if_pos c1, c2]; rfl] at this
                exact this
            · refine ⟨false, by simp only [c1, if_false, truthV]; rfl, ?_⟩
              simp only [Bool.false_eq_true, if_false]
              refine done (hK' _ _ (done ?_))
              have := next (upd m "weak" (.int w)) (fun y hy => by simp [upd, hy])
              rw [show plW b i j w = [] by unfold plW; rw [if_neg c1], List.append_nil] at this
              exact this
          all_goals nofun
        · clear m1 m2 m3 m4 m5 m6 m7
          rintro m σ' ⟨rfl, m1, m2, m3, m4, m5, m6, m7, m8, m9, m10⟩
          refine hK' _ _ (done (k1 _ _ ⟨?_, m1, m2, m3, m4, m5, m6, m7⟩))
          rw [flatN_succ, hplM, List.append_assoc]
      · rw [show decide (¬ (i ∈ b.zone ∧ j ≠ i ∧ b.freeOf i j ≠ 0)) = true by simpa only [decide_eq_true_eq] using hc]
        simp only [if_true]
        refine step fun K3 hK3 hR3 hC3 => ?_
        simp only [wpS]
        have he : plM b i j = [] := by
          unfold plM
          split
          · rename_i hh
            rw [List.flatMap_eq_nil_iff]
            intro w hw
            have hw := List.mem_range.mp hw
            unfold plW
            rw [if_neg]
            intro h3
            have f0 : b.freeOf i j = 0 := Classical.byContradiction fun h => hc ⟨hh.1, hh.2, h⟩
            have fb := o.free i j w hi hj hw
            rw [if_pos h3, f0] at fb
            unfold bit at fb
            simp [Builtin.bitAnd] at fb
          · rfl
        exact hC3 _ _ (hC' _ _ (hskip he).2)
    · clear m1 m2 m3 m4 m5 m6
      rintro m σ' ⟨rfl, m1, m2, m3, m4, m5, m6, m7⟩
      refine hK' _ _ (done (k1 _ _ ⟨?_, m1, m2, m3, m4, m5, m6⟩))
      rw [flatN_succ]; rfl
  · rintro m σ' ⟨rfl, m1, m2, m3, m4, m5, m6⟩
    have hplaces : (List.range b.s).flatMap (plK b) = placesOf b := rfl
    rw [hplaces]
    have hTs : (σ ++ [AObj.list (nV (placesOf b))])[t]? = some (.list ((List.replicate (2 * b.s * b.s * b.s) (-2)).map V.int)) := (Keep.snoc _ _) _ _ hT
    have hPs : (σ ++ [AObj.list (nV (placesOf b))])[σ.length]? = some (.list (nV (placesOf b))) := append_here _ _
    have kk := kσ (nV (placesOf b))
    generalize (σ ++ [AObj.list (nV (placesOf b))]) = σ1 at hTs hPs kk ⊢
    refine hK _ _ (step fun K hK hR hC => ?_)
    rw [wpS, wpE]
    refine ⟨_, m6, nV (placesOf b), by simp [srcItems, hPs], ?_⟩
    refine forW_inv (fun i m σ' => m "table" = some (.ref t) ∧ m "places" = some (.ref σ.length) ∧ Keep σ0 σ' ∧ σ'[σ.length]? = some (.list (nV (placesOf b))) ∧ ∃ tbl, Tab b σ' t tbl ∧ ∀ n, n < 2 * b.s * b.s * b.s → at_ tbl n = if n ∈ (placesOf b).take i then -1 else -2) ?_ ?_ ?_ _ 0 _ _ rfl (Nat.zero_le _)
      ⟨m4, m6, kk, hPs, _, ⟨hTs, by simp⟩, fun n hn => by unfold at_; rw [List.getElem?_replicate, if_pos hn]; simp⟩
    · rintro i m σ' ⟨_, _, _, h, _⟩; simp [srcItems, h]
    · rintro i v m σ' hv ⟨m4, m6, kk, hPs, tbl, hT, hat⟩ K k1 k2 k3
      obtain ⟨n, hn, rfl⟩ := nV_get' hv
      have hnl := places_lt (List.mem_of_getElem? hn)
      refine ⟨_, rfl, step fun K' hK' hR' hC' => ?_⟩
      simp only [wpS, wpE, wpAssign]
      have hl := hT.len
      refine ⟨_, gl_NO_MATE P, _, by simp [upd]; exact m4, _, upd_same, _, setItemV_at hT.here (by simp; omega) (by simp; omega), hK' _ _ (done (k1 _ _ ⟨by simp [upd, m4], by simp [upd, m6], kk.set ht _, by rw [set_ne (by omega)]; exact hPs, tbl.set n (-1), ⟨?_, by simp [hl]⟩, ?_⟩))⟩
      · rw [set_at hT.here, List.map_set]
      · intro x hx
        rw [at_set (by omega), hat x hx]
        have htk : (placesOf b).take (i + 1) = (placesOf b).take i ++ [n] := by rw [List.take_add_one, hn]; rfl
        rw [htk]
        by_cases e : x = n
        · subst e; simp
        · simp [e]
    · rintro m σ' ⟨m4, m6, kk, hPs, tbl, hT, hat⟩
      refine hK _ _ (step fun K hK hR hC => ?_)
      simp only [wpS, wpE]
      refine ⟨_, m6, hR _ _ _ ⟨_, tbl, rfl, kk, by omega, by omega, hPs, hT, fun n hn => ?_⟩⟩
      rw [hat n hn, show (nV (placesOf b)).length = (placesOf b).length by simp [nV], List.take_length]
end
end Mine

end

section
open PySem
set_option linter.unusedVariables false
set_option linter.unusedSimpArgs false
set_option maxRecDepth 100000
namespace Mine

/-- where a place stands in the list of places -/
def whI (b : Bd) : Option Pl → Int
  | none => -1
  | some q => (placesOf b).idxOf (idx b.s q)
def rowAt (b : Bd) (x : Nat) : List Int := (moves b (plOf b.s x)).map fun w => whI b w.2.2
def afterOf (b : Bd) (n : Nat) : List Int := match (placesOf b)[n]? with
  | some x => rowAt b x
  | none => []
def lostAt (b : Bd) (x : Nat) : Bool := decide ((plOf b.s x).side = 1) && (decide (moves b (plOf b.s x) = []) && !stands b ⟨0, (plOf b.s x).king, (plOf b.s x).man, (plOf b.s x).bare⟩)
def sidesOf (b : Bd) : List Int := (placesOf b).map fun x => ((plOf b.s x).side : Int)
def lostsOf (b : Bd) : List Bool := (placesOf b).map (lostAt b)

theorem IsDue.congr {b : Bd} {p : Pl} {ws ws' : List Int} {d : Int} (h : ∀ a, a ∈ ws ↔ a ∈ ws') (hd : IsDue b p ws d) : IsDue b p ws' d := by
  have hn : ws = [] ↔ ws' = [] := by
    constructor <;> intro e <;> rw [List.eq_nil_iff_forall_not_mem] at e ⊢ <;> intro a ha
    · exact e a ((h a).mpr ha)
    · exact e a ((h a).mp ha)
  unfold IsDue at hd ⊢
  split
  · rename_i c
    rw [if_pos c] at hd
    rcases hd with ⟨h1, h2⟩ | ⟨M, h1, h2, h3, h4⟩
    · exact .inl ⟨fun a ha => h1 a ((h a).mpr ha), h2⟩
    · exact .inr ⟨M, (h M).mp h1, h2, fun a ha => h3 a ((h a).mpr ha), h4⟩
  · rename_i c
    rw [if_neg c] at hd
    split
    · rename_i e
      rw [if_pos (hn.mpr e)] at hd; exact hd
    · rename_i e
      rw [if_neg (fun h => e (hn.mp h))] at hd
      rcases hd with ⟨h1, M, h2, h3, h4⟩ | ⟨⟨a, h1, h2⟩, h3⟩
      · exact .inl ⟨fun a ha => h1 a ((h a).mpr ha), M, (h M).mp h2, fun a ha => h3 a ((h a).mpr ha), h4⟩
      · exact .inr ⟨⟨a, (h a).mp h1, h2⟩, h3⟩

theorem place_pos {b : Bd} {p : Pl} (hp : p.In b.s) (hs : stands b p = true) : (placesOf b).idxOf (idx b.s p) < (placesOf b).length ∧ (placesOf b)[(placesOf b).idxOf (idx b.s p)]? = some (idx b.s p) := by
  have hm : idx b.s p ∈ placesOf b := mem_placesOf.mpr ⟨p, hp, rfl, hs⟩
  have h1 := List.idxOf_lt_length_of_mem hm
  refine ⟨h1, ?_⟩
  rw [List.getElem?_eq_getElem h1, List.getElem_idxOf]
theorem place_at {b : Bd} {n x : Nat} (h : (placesOf b)[n]? = some x) : ∃ p : Pl, p.In b.s ∧ x = idx b.s p ∧ plOf b.s x = p ∧ stands b p = true ∧ (placesOf b).idxOf x = n := by
  obtain ⟨p, hp, rfl, hs⟩ := mem_placesOf.mp (List.mem_of_getElem? h)
  refine ⟨p, hp, rfl, plOf_idx hp, hs, ?_⟩
  obtain ⟨h1, h2⟩ := List.getElem?_eq_some_iff.mp h
  rw [← h2]
  exact (places_nodup b).idxOf_getElem n h1

theorem tbl_ok {b : Bd} {tbl vals left : List Int} {D : List Nat} {c : Int} (hl : tbl.length = 2 * b.s * b.s * b.s) (I : SInv (placesOf b).length (afterOf b) (side0Of (sidesOf b)) (lostOf (lostsOf b)) vals left D [] [] c)
    (h : ∀ n, n < 2 * b.s * b.s * b.s → at_ tbl n = if n ∈ placesOf b then at_ vals ((placesOf b).idxOf n) else -2) : TblOk b tbl := by
  have hst : ∀ p : Pl, p.In b.s → stands b p = true → at_ tbl (idx b.s p) = at_ vals ((placesOf b).idxOf (idx b.s p)) := by
    intro p hp hs
    rw [h _ (idx_lt hp), if_pos (mem_placesOf.mpr ⟨p, hp, rfl, hs⟩)]
  have hns : ∀ p : Pl, p.In b.s → stands b p = false → at_ tbl (idx b.s p) = -2 := by
    intro p hp hs
    rw [h _ (idx_lt hp), if_neg]
    intro hm
    obtain ⟨q, hq, e, hsq⟩ := mem_placesOf.mp hm
    rw [idx_inj hp hq e, hsq] at hs; cases hs
  refine ⟨fun p hp => ?_, fun p hp hs => ?_, fun p hp hs => ?_, fun p hp => ?_⟩
  · constructor
    · intro e
      cases hs : stands b p
      · rfl
      · rw [hst p hp hs] at e
        obtain ⟨h1, _⟩ := place_pos hp hs
        have := (I.fin _ h1).1; omega
    · exact hns p hp
  · obtain ⟨h1, h2⟩ := place_pos hp hs
    obtain ⟨f1, f2, f3, f4, f5⟩ := I.fin _ h1
    rw [hst p hp hs]
    generalize hk : (placesOf b).idxOf (idx b.s p) = k at h1 h2 f1 f2 f3 f4 f5 ⊢
    have hpl : plOf b.s (idx b.s p) = p := plOf_idx hp
    have haft : afterOf b k = (moves b p).map fun w => whI b w.2.2 := by unfold afterOf; rw [h2]; simp only [rowAt, hpl]
    have hwords : (afterOf b k).map (wv vals) = (moves b p).map fun w => wordOf b.s tbl w.2.2 := by
      rw [haft, List.map_map]
      refine List.map_congr_left fun w hw => ?_
      have hwi := ways_is (moves_ways.mp hw)
      cases hq : w.2.2 with
      | none => simp only [Function.comp, hq, whI, wordOf]; rfl
      | some q =>
        obtain ⟨q1, q2, _⟩ := hwi.in_ hp hq
        simp only [Function.comp, hq, whI, wordOf]
        rw [wv_nat, hst q q1 q2]
    have hside : side0Of (sidesOf b) k = decide (p.side = 0) := by
      unfold side0Of sidesOf at_
      rw [List.getElem?_map, h2]
      simp only [Option.map_some, Option.getD_some, hpl]
      apply decide_eq_decide.mpr; omega
    have hlost : lostOf (lostsOf b) k = lostAt b (idx b.s p) := by
      unfold lostOf lostsOf
      rw [List.getElem?_map, h2]; rfl
    rw [hwords] at f4 f5
    rw [hside] at f4 f5
    rw [hlost] at f3 f4 f5
    have hnil : afterOf b k = [] ↔ moves b p = [] := by rw [haft]; simp
    refine IsDue.congr (ws := (moves b p).map fun w => wordOf b.s tbl w.2.2) (fun a => by simp only [List.mem_map, moves_ways]) ?_
    unfold IsDue
    have hlat : lostAt b (idx b.s p) = (decide (p.side = 1) && (decide (moves b p = []) && !stands b ⟨0, p.king, p.man, p.bare⟩)) := by unfold lostAt; rw [hpl]
    by_cases h0 : p.side = 0
    · rw [if_pos h0]
      have hl0 : lostAt b (idx b.s p) = false := by rw [hlat]; simp [h0]
      exact f4 hl0 (by simp [h0])
    · rw [if_neg h0]
      have hs1 : p.side = 1 := by have := hp.side; omega
      by_cases hm : moves b p = []
      · rw [if_pos (by rw [hm]; rfl)]
        have hstr : stands b ⟨0, p.king, p.man, p.bare⟩ = !b.str p.man p.bare [(p.king : Int)] := by
          unfold stands at hs ⊢
          simp only [Bool.and_eq_true] at hs
          rw [hs.1.1.1.1.1, hs.1.1.1.1.2, hs.1.1.1.2, hs.1.1.2, hs.1.2]; simp
        have hl1 : lostAt b (idx b.s p) = b.str p.man p.bare [(p.king : Int)] := by
          rw [hlat, hstr]; simp [hs1, hm]
        cases hb : b.str p.man p.bare [(p.king : Int)]
        · rw [hb] at hl1
          have := f5 hl1 (by simp [h0])
          rw [if_pos (hnil.mpr hm)] at this
          simpa using this
        · rw [hb] at hl1
          simpa using f3 hl1
      · have hl1 : lostAt b (idx b.s p) = false := by rw [hlat]; simp [hm]
        rw [if_neg (by simpa using hm)]
        have := f5 hl1 (by simp [h0])
        rw [if_neg (fun e => hm (hnil.mp e))] at this
        exact this
  · rw [hst p hp hs]
    obtain ⟨h1, _⟩ := place_pos hp hs
    exact (I.fin _ h1).1
  · cases hs : stands b p
    · rw [hns p hp hs]; omega
    · rw [hst p hp hs]
      obtain ⟨h1, _⟩ := place_pos hp hs
      have := (I.fin _ h1).2.1
      have := places_len (b := b)
      omega
end Mine

end

section
open PySem
set_option linter.unusedVariables false
set_option linter.unusedSimpArgs false
set_option maxRecDepth 100000
namespace Mine

structure BZ (b : Bd) (σ0 σ' : Store) (t pa d A : Nat) (tbl : List Int) (f : Int → Option V) (sl : List Int) (rr : List Nat) (ll : List Bool) : Prop where
  k : Keep σ0 σ'
  tab : Tab b σ' t tbl
  pl : σ'[pa]? = some (.list (nV (placesOf b)))
  dict : ∃ n, σ'[d]? = some (.dict f n)
  s : σ'[A]? = some (.list (sl.map V.int))
  a : σ'[A + 1]? = some (.list (rr.map V.ref))
  l : σ'[A + 2]? = some (.list (ll.map V.bool))
  rows : ∀ n r, rr[n]? = some r → A + 2 < r ∧ σ'[r]? = some (.list ((afterOf b n).map V.int))
  ne : t < A ∧ pa < A ∧ d < A ∧ σ0.length ≤ A

section
variable {b : Bd} {σ0 σ' σ'' : Store} {t pa d A : Nat} {tbl : List Int} {f : Int → Option V} {sl : List Int} {rr : List Nat} {ll : List Bool}
theorem BZ.keep (h : BZ b σ0 σ' t pa d A tbl f sl rr ll) (k : Keep σ' σ'') : BZ b σ0 σ'' t pa d A tbl f sl rr ll :=
  ⟨h.k.trans k, h.tab.keep k, k _ _ h.pl, let ⟨n, e⟩ := h.dict; ⟨n, k _ _ e⟩, k _ _ h.s, k _ _ h.a, k _ _ h.l, fun n r e => ⟨(h.rows n r e).1, k _ _ (h.rows n r e).2⟩, h.ne⟩
theorem BZ.setS (h : BZ b σ0 σ' t pa d A tbl f sl rr ll) (sl' : List Int) : BZ b σ0 (σ'.set A (.list (sl'.map V.int))) t pa d A tbl f sl' rr ll :=
  have n := h.ne
  ⟨h.k.set (by omega) _, ⟨by rw [set_ne (by omega)]; exact h.tab.here, h.tab.len⟩, by rw [set_ne (by omega)]; exact h.pl, let ⟨n, e⟩ := h.dict; ⟨n, by rw [set_ne (by omega)]; exact e⟩, set_at h.s, by rw [set_ne (by omega)]; exact h.a, by rw [set_ne (by omega)]; exact h.l,
    fun n r e => ⟨(h.rows n r e).1, by have := (h.rows n r e).1; rw [set_ne (by omega)]; exact (h.rows n r e).2⟩, h.ne⟩
theorem BZ.setA (h : BZ b σ0 σ' t pa d A tbl f sl rr ll) (r : Nat) (hr : A + 2 < r) (hr2 : σ'[r]? = some (.list ((afterOf b rr.length).map V.int))) : BZ b σ0 (σ'.set (A + 1) (.list ((rr ++ [r]).map V.ref))) t pa d A tbl f sl (rr ++ [r]) ll :=
  have n := h.ne
  ⟨h.k.set (by omega) _, ⟨by rw [set_ne (by omega)]; exact h.tab.here, h.tab.len⟩, by rw [set_ne (by omega)]; exact h.pl, let ⟨n, e⟩ := h.dict; ⟨n, by rw [set_ne (by omega)]; exact e⟩, by rw [set_ne (by omega)]; exact h.s, set_at h.a, by rw [set_ne (by omega)]; exact h.l,
    fun n r' e => by
      by_cases hn : n < rr.length
      · rw [List.getElem?_append_left hn] at e
        have := (h.rows n r' e).1
        exact ⟨this, by rw [set_ne (by omega)]; exact (h.rows n r' e).2⟩
      · have hn' : n = rr.length := by have := (List.getElem?_eq_some_iff.mp e).1; simp at this; omega
        subst hn'
        simp at e; subst e
        exact ⟨hr, by rw [set_ne (by omega)]; exact hr2⟩, h.ne⟩
theorem BZ.setL (h : BZ b σ0 σ' t pa d A tbl f sl rr ll) (ll' : List Bool) : BZ b σ0 (σ'.set (A + 2) (.list (ll'.map V.bool))) t pa d A tbl f sl rr ll' :=
  have n := h.ne
  ⟨h.k.set (by omega) _, ⟨by rw [set_ne (by omega)]; exact h.tab.here, h.tab.len⟩, by rw [set_ne (by omega)]; exact h.pl, let ⟨n, e⟩ := h.dict; ⟨n, by rw [set_ne (by omega)]; exact e⟩, by rw [set_ne (by omega)]; exact h.s, by rw [set_ne (by omega)]; exact h.a, set_at h.l,
    fun n r e => ⟨(h.rows n r e).1, by have := (h.rows n r e).1; rw [set_ne (by omega)]; exact (h.rows n r e).2⟩, h.ne⟩
end

structure BLoc (g t pa d A : Nat) (b : Bd) (m : Loc) : Prop where
  geo : m "geo" = some (.ref g)
  kind : m "kind" = some (.int b.kind)
  half : m "half" = some (.int (b.s * b.s * b.s : Nat))
  table : m "table" = some (.ref t)
  places : m "places" = some (.ref pa)
  where_ : m "where" = some (.ref d)
  sides : m "sides" = some (.ref A)
  after : m "after" = some (.ref (A + 1))
  lost : m "lost" = some (.ref (A + 2))

def bzRow : List S := [
    .assign (.tup ["side", "strong", "piece", "weak"]) (.call (.glob "parts_of") [(.attr "geo" "size"), (.loc "n")]),
    .assign (.name "row") (.lst []),
    .for (.tup ["origin", "goal", "place"]) (.call (.glob "moves_at") [(.loc "geo"), (.loc "table"), (.loc "kind"), (.loc "side"), (.loc "strong"), (.loc "piece"), (.loc "weak")]) [
      .append (.loc "row") (.sub (.loc "where") (.loc "place"))],
    .append (.loc "sides") (.loc "side"),
    .append (.loc "after") (.loc "row"),
    .append (.loc "lost") (.all [(.cmp .Eq (.loc "side") (.glob "WEAK_MOVES")), (.cmp .Eq (.loc "row") (.lst [])), (.cmp .Eq (.sub (.loc "table") (.bin .Sub (.loc "n") (.loc "half"))) (.glob "NOT_A_PLACE"))])]

def bzNames : List String := ["n", "side", "strong", "piece", "weak", "row", "origin", "goal", "place"]
theorem BLoc.of {g t pa d A : Nat} {b : Bd} {m m' : Loc} (h : BLoc g t pa d A b m) (e : ∀ y, y ∉ bzNames → m' y = m y) : BLoc g t pa d A b m' :=
  ⟨by rw [e _ (by decide)]; exact h.geo, by rw [e _ (by decide)]; exact h.kind, by rw [e _ (by decide)]; exact h.half, by rw [e _ (by decide)]; exact h.table, by rw [e _ (by decide)]; exact h.places, by rw [e _ (by decide)]; exact h.where_, by rw [e _ (by decide)]; exact h.sides, by rw [e _ (by decide)]; exact h.after, by rw [e _ (by decide)]; exact h.lost⟩

/-- the dictionary knows each place -/
def WhOk (b : Bd) (f : Int → Option V) : Prop := f (-1) = some (.int (-1)) ∧ ∀ k x : Nat, (placesOf b)[k]? = some x → f (x : Int) = some (.int (k : Int))
theorem WhOk.get {b : Bd} {f : Int → Option V} (h : WhOk b f) {q : Option Pl} (hq : ∀ p, q = some p → p.In b.s ∧ stands b p = true) : f (ixOf b.s q) = some (.int (whI b q)) := by
  cases q with
  | none => exact h.1
  | some p =>
    obtain ⟨h1, h2⟩ := hq p rfl
    exact h.2 _ _ (place_pos h1 h2).2

section
variable {C : Ctx} (P : Prg C) {X : Store → Prop} {σ : Store}
include P

theorem bz_row {σ0 : Store} {g t pa d A : Nat} {b : Bd} (o : b.Ok) (hG : GeoIs σ0 g b.G) {tbl : List Int} (mk : Marks b tbl) {f : Int → Option V} (hf : WhOk b f) {i x : Nat} (hx : (placesOf b)[i]? = some x) {σ' : Store} {rr : List Nat} (hrr : rr.length = i)
    (Z : BZ b σ0 σ' t pa d A tbl f ((sidesOf b).take i) rr ((lostsOf b).take i)) {m : Loc} (L : BLoc g t pa d A b m) (hn : m "n" = some (.int x)) {Q : Fl → Loc → Store → Prop}
    (hQ : ∀ m' σ'' rr', BLoc g t pa d A b m' → rr'.length = i + 1 → BZ b σ0 σ'' t pa d A tbl f ((sidesOf b).take (i + 1)) rr' ((lostsOf b).take (i + 1)) → Q .next m' σ'') : wpSs C 16 X bzRow m σ' Q := by
  have hs : b.s ≤ 12 := o.s12
  have hcube := o.cube
  have hpl := places_len (b := b)
  have hil : i < (placesOf b).length := (List.getElem?_eq_some_iff.mp hx).1
  obtain ⟨p, hp, hxp, hplo, hst, hidx⟩ := place_at hx
  have hne := Z.ne
  have hAl : A + 2 < σ'.length := (List.getElem?_eq_some_iff.mp Z.l).1
  unfold bzRow
  refine step fun K hK hR hC => ?_
  simp only [wpS, wpE, wpEs]
  refine ⟨_, gl_parts_of P, _, L.geo, ?_⟩
  rw [(hG.keep Z.k).a_size]
  refine ⟨_, hn, _, _, rfl, rfl, ?_⟩
  refine SemCall.mono ((s_parts P b.s ⟨o.spos, hs⟩ x).up (b := 15) (by decide)) (fun v σ2 ⟨hv, hσ2⟩ => ?_) fun _ h => h
  subst hv hσ2
  rw [hplo]
  simp only [wpAssign]
  refine ⟨_, by simp only [bndT, Pl.v, bindL]; rfl, hK _ _ (step fun K hK hR hC => ?_)⟩
  simp only [wpS, wpE, wpEs, wpAssign]
  refine hK _ _ (step fun K hK hR hC => ?_)
  have ra := append_here σ2 []
  have kr : Keep σ2 (σ2 ++ [AObj.list []]) := Keep.snoc _ _
  have Lm : BLoc g t pa d A b (upd (upd (upd (upd (upd m "side" (.int p.side)) "strong" (.int p.king)) "piece" (.int p.man)) "weak" (.int p.bare)) "row" (.ref σ2.length)) := L.of fun y hy => by
    simp only [bzNames, List.mem_cons, List.not_mem_nil, or_false, not_or] at hy
    simp [upd, hy]
  have u1 : upd (upd (upd (upd (upd m "side" (.int p.side)) "strong" (.int p.king)) "piece" (.int p.man)) "weak" (.int p.bare)) "row" (.ref σ2.length) "side" = some (.int p.side) := by simp [upd]
  have u2 : upd (upd (upd (upd (upd m "side" (.int p.side)) "strong" (.int p.king)) "piece" (.int p.man)) "weak" (.int p.bare)) "row" (.ref σ2.length) "strong" = some (.int p.king) := by simp [upd]
  have u3 : upd (upd (upd (upd (upd m "side" (.int p.side)) "strong" (.int p.king)) "piece" (.int p.man)) "weak" (.int p.bare)) "row" (.ref σ2.length) "piece" = some (.int p.man) := by simp [upd]
  have u4 : upd (upd (upd (upd (upd m "side" (.int p.side)) "strong" (.int p.king)) "piece" (.int p.man)) "weak" (.int p.bare)) "row" (.ref σ2.length) "weak" = some (.int p.bare) := by simp [upd]
  have u5 : upd (upd (upd (upd (upd m "side" (.int p.side)) "strong" (.int p.king)) "piece" (.int p.man)) "weak" (.int p.bare)) "row" (.ref σ2.length) "row" = some (.ref σ2.length) := by simp [upd]
  have u6 : upd (upd (upd (upd (upd m "side" (.int p.side)) "strong" (.int p.king)) "piece" (.int p.man)) "weak" (.int p.bare)) "row" (.ref σ2.length) "n" = some (.int x) := by simp [upd]; exact hn
  generalize upd (upd (upd (upd (upd m "side" (.int p.side)) "strong" (.int p.king)) "piece" (.int p.man)) "weak" (.int p.bare)) "row" (.ref σ2.length) = m1 at Lm u1 u2 u3 u4 u5 u6 ⊢
  have Zr := Z.keep kr
  generalize hσ3 : σ2 ++ [AObj.list []] = σ3 at ra kr Zr ⊢
  have hl3 : σ3.length = σ2.length + 1 := by rw [← hσ3]; simp
  simp only [wpS, wpE, wpEs]
  refine ⟨_, gl_moves_at P, _, Lm.geo, _, Lm.table, _, Lm.kind, _, u1, _, u2, _, u3, _, u4, _, _, rfl, rfl, ?_⟩
  refine SemCall.mono (s_moves P o (hG.keep Zr.k) Zr.tab mk p hp) (fun v σ4 ⟨hv, hσ4⟩ => ?_) fun _ h => h
  subst hv
  have k4 : Keep σ3 σ4 := by rw [hσ4]; exact Keep.snoc _ _
  have mv4 : σ4[σ3.length]? = some (.list ((moves b p).map (mvV b.s))) := by rw [hσ4]; exact append_here _ _
  have hml := moves_len b p
  refine ⟨(moves b p).map (mvV b.s), by simp [srcItems, mv4], ?_⟩
  refine forW_inv (fun j m σ'' => (∀ y, y ∉ bzNames → m y = m1 y) ∧ m "side" = some (.int p.side) ∧ m "row" = some (.ref σ2.length) ∧ m "n" = some (.int x) ∧ Keep σ2 σ'' ∧ σ''[σ2.length]? = some (.list ((((moves b p).take j).map fun w => whI b w.2.2).map V.int)) ∧ σ''[σ3.length]? = some (.list ((moves b p).map (mvV b.s)))) ?_ ?_ ?_ _ 0 _ _ rfl (Nat.zero_le _)
    ⟨fun _ _ => rfl, u1, u5, u6, kr.trans k4, by simpa using k4 _ _ ra, mv4⟩
  · rintro j m σ'' ⟨_, _, _, _, _, _, h⟩; simp [srcItems, h]
  · rintro j v m2 σ'' hv ⟨e0, e1, e2, e3, kk, hrow, hmv⟩ K k1 k2 k3
    obtain ⟨w, hw, rfl, htk⟩ := map_getElem hv
    have hj : j < (moves b p).length := (List.getElem?_eq_some_iff.mp hw).1
    have hwm : w ∈ moves b p := List.mem_of_getElem? hw
    have Z2 := Z.keep kk
    obtain ⟨dn, hd⟩ := Z2.dict
    refine ⟨_, by simp only [bndT, mvV, bindL]; rfl, step fun K' hK' hR' hC' => ?_⟩
    simp only [wpS, wpE]
    refine ⟨_, by simp [upd]; exact e2, isListV_at hrow, _, by simp [upd]; rw [e0 _ (by decide)]; exact Lm.where_, _, by simp [upd]; rfl, ?_⟩
    simp only [wpItem, hd]
    refine ⟨_, hf.get fun q hq => by have := (ways_is (moves_ways.mp hwm)).in_ hp hq; exact ⟨this.1, this.2.1⟩, ?_⟩
    refine ⟨_, appendV_at hrow (by simp; omega), hK' _ _ (done (k1 _ _ ⟨fun y hy => ?_, by simp [upd, e1], by simp [upd, e2], by simp [upd, e3], kk.set (Nat.le_refl _) _, ?_, ?_⟩))⟩
    · have hy' := hy
      simp only [bzNames, List.mem_cons, List.not_mem_nil, or_false, not_or] at hy'
      simp [upd, hy']; exact e0 y hy
    · rw [set_at hrow, htk]; simp
    · rw [set_ne (by omega)]; exact hmv
  · rintro m2 σ'' ⟨e0, e1, e2, e3, kk, hrow, hmv⟩
    rw [List.length_map, List.take_length] at hrow
    have L2 : BLoc g t pa d A b m2 := Lm.of e0
    have Z2 := Z.keep kk
    have haft : afterOf b i = (moves b p).map fun w => whI b w.2.2 := by unfold afterOf; rw [hx]; simp only [rowAt, hplo]
    have hsl : ((sidesOf b).take i).length = i := by simp [sidesOf]; omega
    have hll : ((lostsOf b).take i).length = i := by simp [lostsOf]; omega
    have hsk : (sidesOf b).take (i + 1) = (sidesOf b).take i ++ [(p.side : Int)] := by
      rw [List.take_add_one]; unfold sidesOf; rw [List.getElem?_map, hx]; simp [hplo]
    have hlk : (lostsOf b).take (i + 1) = (lostsOf b).take i ++ [lostAt b x] := by
      rw [List.take_add_one]; unfold lostsOf; rw [List.getElem?_map, hx]; simp
    refine hK _ _ (step fun K hK hR hC => ?_)
    simp only [wpS, wpE]
    refine ⟨_, L2.sides, isListV_at Z2.s, _, e1, _, appendV_at Z2.s (by rw [List.length_map, hsl]; omega), hK _ _ (step fun K hK hR hC => ?_)⟩
    have Z3 := Z2.setS ((sidesOf b).take (i + 1))
    rw [show ((sidesOf b).take (i + 1)).map V.int = ((sidesOf b).take i).map V.int ++ [V.int p.side] by rw [hsk]; simp] at Z3
    have hrow3 : (σ''.set A (AObj.list (((sidesOf b).take i).map V.int ++ [V.int p.side])))[σ2.length]? = some (.list (((moves b p).map fun w => whI b w.2.2).map V.int)) := by rw [set_ne (by omega)]; exact hrow
    generalize σ''.set A (AObj.list (((sidesOf b).take i).map V.int ++ [V.int p.side])) = σ5 at Z3 hrow3 ⊢
    simp only [wpS, wpE]
    refine ⟨_, L2.after, isListV_at Z3.a, _, e2, _, appendV_at Z3.a (by rw [List.length_map, hrr]; omega), hK _ _ (step fun K hK hR hC => ?_)⟩
    have Z4 := Z3.setA σ2.length (by omega) (by rw [hrr, haft]; exact hrow3)
    rw [show (rr ++ [σ2.length]).map V.ref = rr.map V.ref ++ [V.ref σ2.length] by simp] at Z4
    have hrow4 : (σ5.set (A + 1) (AObj.list (rr.map V.ref ++ [V.ref σ2.length])))[σ2.length]? = some (.list (((moves b p).map fun w => whI b w.2.2).map V.int)) := by rw [set_ne (by omega)]; exact hrow3
    generalize σ5.set (A + 1) (AObj.list (rr.map V.ref ++ [V.ref σ2.length])) = σ6 at Z4 hrow4 ⊢
    have fin : ∀ σ7, Keep σ6 σ7 → ∃ σ8, appendV σ7 (.ref (A + 2)) (.bool (lostAt b x)) = some σ8 ∧ K .next m2 σ8 := by
      intro σ7 k7
      have Z7 := Z4.keep k7
      refine ⟨_, appendV_at Z7.l (by rw [List.length_map, hll]; omega), hK _ _ (done ?_)⟩
      have Z8 := Z7.setL ((lostsOf b).take (i + 1))
      rw [show ((lostsOf b).take (i + 1)).map V.bool = ((lostsOf b).take i).map V.bool ++ [V.bool (lostAt b x)] by rw [hlk]; simp] at Z8
      exact hQ _ _ _ L2 (by simp [hrr]) Z8
    have hlat : lostAt b x = (decide (p.side = 1) && (decide (moves b p = []) && !stands b ⟨0, p.king, p.man, p.bare⟩)) := by unfold lostAt; rw [hplo]
    rw [wpS, wpE]
    refine ⟨_, L2.lost, isListV_at Z4.l, ?_⟩
    rw [wpE, wpAll, wpE, wpE]
    · refine ⟨_, e1, ?_⟩
      simp only [wpE]
      refine ⟨_, gl_WEAK_MOVES P, decide (p.side = 1), by simp only [cmpV, eqV]; congr 1; apply decide_eq_decide.mpr; omega, _, rfl, ?_⟩
      by_cases h1 : p.side = 1
      · rw [decide_eq_true h1]
        simp only [if_true]
        rw [wpAll, wpE, wpE]
        · refine ⟨_, e2, ?_⟩
          simp only [wpE, wpEs]
          have k7 : Keep σ6 (σ6 ++ [AObj.list []]) := Keep.snoc _ _
          have hrow7 := k7 _ _ hrow4
          have h07 : (σ6 ++ [AObj.list []])[σ6.length]? = some (.list []) := append_here _ _
          have Z7 := Z4.keep k7
          generalize hσ7 : σ6 ++ [AObj.list []] = σ7 at k7 hrow7 h07 Z7 ⊢
          refine ⟨decide (moves b p = []), by simp only [cmpV, eqV, hrow7, h07]; cases moves b p <;> rfl, _, rfl, ?_⟩
          by_cases h2 : moves b p = []
          · rw [decide_eq_true h2]
            simp only [if_true]
            rw [wpAll, wpE, wpE]
            simp only [wpE]
            refine ⟨_, L2.table, _, e3, _, L2.half, ?_⟩
            simp only [wpBin]
            have hin : (⟨0, p.king, p.man, p.bare⟩ : Pl).In b.s := ⟨by simp, hp.king, hp.man, hp.bare⟩
            have hx0 : x = b.s * b.s * b.s + idx b.s ⟨0, p.king, p.man, p.bare⟩ := by
              rw [hxp]; unfold idx; rw [h1]
              simp only [Nat.zero_mul, Nat.one_mul, Nat.zero_add, Nat.add_mul]; omega
            have hx1 : ((x : Int) - (b.s * b.s * b.s : Nat)) = (idx b.s ⟨0, p.king, p.man, p.bare⟩ : Nat) := by omega
            rw [hx1, Z7.tab.item o hin]
            refine ⟨_, gl_NOT_A_PLACE P, decide (at_ tbl (idx b.s ⟨0, p.king, p.man, p.bare⟩) = -2), rfl, ?_⟩
            rw [show decide (at_ tbl (idx b.s ⟨0, p.king, p.man, p.bare⟩) = -2) = lostAt b x by
              rw [hlat, decide_eq_true h1, decide_eq_true h2, Bool.true_and, Bool.true_and]
              cases hs0 : stands b ⟨0, p.king, p.man, p.bare⟩
              · simpa using (mk _ hin).mpr hs0
              · rw [decide_eq_false]; rfl
                rw [mk _ hin, hs0]; simp]
            exact fin _ k7
          · rw [decide_eq_false h2]
            simp only [Bool.false_eq_true, if_false]
            rw [show V.bool false = V.bool (lostAt b x) by rw [hlat, decide_eq_false h2]; simp]
            exact fin _ k7
        all_goals nofun
      · rw [decide_eq_false h1]
        simp only [Bool.false_eq_true, if_false]
        rw [show V.bool false = V.bool (lostAt b x) by rw [hlat, decide_eq_false h1]; simp]
        exact fin _ (Keep.refl _)
    all_goals nofun
end
end Mine

end

section
open PySem
set_option linter.unusedVariables false
set_option linter.unusedSimpArgs false
set_option maxRecDepth 100000
namespace Mine

theorem setItemV_dict {σ : Store} {a n : Nat} {f : Int → Option V} {k : Int} {v : V} (h : σ[a]? = some (.dict f n)) (hn : n < 1000000) : setItemV σ (.ref a) (.int k) v = some (σ.set a (.dict (fun j => if j = k then some v else f j) (n + 1))) := by
  simp [setItemV, h, hn]
theorem solve_in {b : Bd} (o : b.Ok) {σ0 σ' : Store} {t pa d A : Nat} {tbl : List Int} {f : Int → Option V} {rr : List Nat} (hrr : rr.length = (placesOf b).length)
    (Z : BZ b σ0 σ' t pa d A tbl f ((sidesOf b).take (placesOf b).length) rr ((lostsOf b).take (placesOf b).length)) : SolveIn σ' A (A + 1) (A + 2) (placesOf b).length (afterOf b) (sidesOf b) (lostsOf b) := by
  have hcube := o.cube
  have hpl := places_len (b := b)
  have hs : b.s ≤ 12 := o.s12
  have l1 : (sidesOf b).length = (placesOf b).length := by simp [sidesOf]
  have l2 : (lostsOf b).length = (placesOf b).length := by simp [lostsOf]
  refine ⟨by omega, l1, l2, ?_, ?_, ⟨rr, hrr, Z.a, fun n hn => ?_⟩, fun n hn => ?_, fun n hn k hk => ?_⟩
  · have := Z.s; rwa [← l1, List.take_length] at this
  · have := Z.l; rwa [← l2, List.take_length] at this
  · have hn' : n < rr.length := by omega
    exact ⟨rr[n], List.getElem?_eq_getElem hn', (Z.rows n _ (List.getElem?_eq_getElem hn')).2⟩
  · unfold afterOf
    rw [List.getElem?_eq_getElem hn]
    simp only [rowAt, List.length_map]
    have := moves_len b (plOf b.s (placesOf b)[n]); omega
  · have hx := List.getElem?_eq_getElem hn
    obtain ⟨p, hp, hxp, hplo, hst, hidx⟩ := place_at hx
    unfold afterOf at hk
    rw [hx] at hk
    simp only [rowAt, hplo] at hk
    obtain ⟨w, hw, rfl⟩ := List.mem_map.mp hk
    have hwi := ways_is (moves_ways.mp hw)
    cases hq : w.2.2 with
    | none => simp only [whI]; omega
    | some q =>
      obtain ⟨q1, q2, _⟩ := hwi.in_ hp hq
      have := (place_pos q1 q2).1
      simp only [whI]; omega

section
variable {C : Ctx} (P : Prg C) {X : Store → Prop} {σ : Store}
include P

theorem s_build {g : Nat} {b : Bd} (o : b.Ok) (hG : GeoIs σ g b.G) {zm : Int} (hz : ∀ a, a < b.s → bit zm a = if a ∈ b.zone then 1 else 0) :
    SemCall C 17 "build_zone" [.ref g, .int b.kind, .int zm] σ (fun v σ' => ∃ t tbl, v = .ref t ∧ Keep σ σ' ∧ Tab b σ' t tbl ∧ TblOk b tbl) X := by
  refine P.call P.f_build_zone rfl ?_
  have hs : b.s ≤ 12 := o.s12
  have hcube := o.cube
  have hpl := places_len (b := b)
  have hkd := o.kind
  refine step fun K hK hR hC => ?_
  rw [wpS, wpT, wpTAny, wpT_cmp, wpE, wpE]
  refine ⟨_, by simp [upd]; rfl, ?_⟩
  simp only [wpE]
  refine ⟨_, gl_KNIGHT P, false, by simp only [cmpV]; congr 1; rw [decide_eq_false_iff_not]; omega, _, rfl, ?_⟩
  simp only [Bool.false_eq_true, if_false]
  rw [wpTAny, wpT_cmp, wpE, wpE]
  refine ⟨_, by simp [upd]; rfl, ?_⟩
  simp only [wpE]
  refine ⟨_, gl_QUEEN P, false, by simp only [cmpV]; congr 1; rw [decide_eq_false_iff_not]; omega, _, rfl, ?_⟩
  simp only [Bool.false_eq_true, if_false]
  rw [wpTAny]
  simp only [Bool.false_eq_true, if_false]
  refine done (hK _ _ (step fun K hK hR hC => ?_))
  have asz := hG.a_size
  simp only [wpS, wpE]
  refine ⟨_, by simp [upd]; rfl, ?_⟩
  rw [asz]
  refine ⟨_, by simp [upd]; rfl, ?_⟩
  rw [asz]
  have hsn : ((b.G.files * b.G.ranks : Nat) : Int).natAbs < 2 ^ 64 := by have : b.G.files * b.G.ranks ≤ 12 := hs; omega
  refine ⟨.inr hsn, _, by simp [upd]; rfl, ?_⟩
  rw [asz]
  refine ⟨.inr hsn, ?_⟩
  rw [show ((b.G.files * b.G.ranks : Nat) : Int) * ((b.G.files * b.G.ranks : Nat) : Int) * ((b.G.files * b.G.ranks : Nat) : Int) = ((b.s * b.s * b.s : Nat) : Int) by push_cast; rfl]
  simp only [wpAssign]
  refine hK _ _ (step fun K hK hR hC => ?_)
  have h2s : 2 * (b.s * b.s * b.s) = 2 * b.s * b.s * b.s := by simp [Nat.mul_assoc]
  simp only [wpS, wpE, wpEs]
  refine ⟨_, gl_NOT_A_PLACE P, _, (show _ = some (V.int (b.s * b.s * b.s : Nat)) from upd_same), ?_⟩
  refine ⟨.inl (by decide), ?_⟩
  refine ⟨.int (-2), append_here _ _, ⟨by omega, by omega⟩, ?_⟩
  rw [show ((2 : Int) * ((b.s * b.s * b.s : Nat) : Int)).toNat = 2 * b.s * b.s * b.s by omega]
  have hts : ((σ ++ [AObj.list [.int (-2)]]) ++ [AObj.list (List.replicate (2 * b.s * b.s * b.s) (V.int (-2)))])[(σ ++ [AObj.list [.int (-2)]]).length]? = some (.list ((List.replicate (2 * b.s * b.s * b.s) (-2)).map V.int)) := by rw [append_here]; simp
  have kts : Keep σ ((σ ++ [AObj.list [.int (-2)]]) ++ [AObj.list (List.replicate (2 * b.s * b.s * b.s) (V.int (-2)))]) := (Keep.snoc _ _).trans (Keep.snoc _ _)
  have ht : σ.length ≤ (σ ++ [AObj.list [.int (-2)]]).length := by simp
  generalize ((σ ++ [AObj.list [.int (-2)]]) ++ [AObj.list (List.replicate (2 * b.s * b.s * b.s) (V.int (-2)))]) = σ1 at hts kts ⊢
  generalize (σ ++ [AObj.list [.int (-2)]]).length = t at hts ht ⊢
  simp only [wpAssign]
  refine hK _ _ (step fun K hK hR hC => ?_)
  simp only [wpS, wpE, wpEs]
  refine ⟨_, gl_mark_places P, _, by simp [upd]; rfl, _, by simp [upd]; rfl, _, by simp [upd]; rfl, _, by simp [upd]; rfl, _, _, rfl, rfl, ?_⟩
  refine SemCall.mono ((s_mark P o kts hG ht hts hz).up (b := 15) (by decide)) (fun v σ2 ⟨pa, tbl, hv, k2, hpat, hpal, hpls, hTab, hat⟩ => ?_) fun _ h => h
  subst hv
  have mk : Marks b tbl := by
    intro p hp
    rw [hat _ (idx_lt hp)]
    cases hst : stands b p
    · rw [if_neg]
      · simp
      · intro hm
        obtain ⟨q, hq, e, hsq⟩ := mem_placesOf.mp hm
        rw [idx_inj hp hq e, hsq] at hst; cases hst
    · rw [if_pos (mem_placesOf.mpr ⟨p, hp, rfl, hst⟩)]; simp
  simp only [wpAssign]
  refine hK _ _ (step fun K hK hR hC => ?_)
  simp only [wpS, wpE]
  refine ⟨_, gl_OUTSIDE P, _, gl_OUTSIDE P, _, rfl, ?_⟩
  simp only [wpAssign]
  have ht2 : t < σ2.length := (List.getElem?_eq_some_iff.mp hTab.here).1
  have hp2 : pa < σ2.length := (List.getElem?_eq_some_iff.mp hpls).1
  have k3 : Keep σ2 (σ2 ++ [AObj.dict (fun j => if j = -1 then some (V.int (-1)) else none) 1]) := Keep.snoc _ _
  have hd3 : (σ2 ++ [AObj.dict (fun j => if j = -1 then some (V.int (-1)) else none) 1])[σ2.length]? = some (AObj.dict (fun j => if j = -1 then some (V.int (-1)) else none) 1) := snoc_at _ _
  refine hK _ _ (step fun K hK hR hC => ?_)
  have hTab3 := hTab.keep k3
  have hpls3 := k3 _ _ hpls
  have k03 := k2.trans k3
  generalize (σ2 ++ [AObj.dict (fun j => if j = -1 then some (V.int (-1)) else none) 1]) = σ3 at hd3 hTab3 hpls3 k03 ⊢
  generalize hdl : σ2.length = d at hd3 ht2 hp2 ⊢
  have hσl : σ.length ≤ d := by have := k2.len; omega
  simp only [wpS, wpE, wpEs]
  refine ⟨_, by simp [upd], wpB_len hpls3 (by simp [nV]; omega) (wpB_range (by simp [nV]; omega) ?_)⟩
  rw [show (nV (placesOf b)).length = (placesOf b).length by simp [nV]]
  refine forW_rng (a := 0) (b := (placesOf b).length) (Nat.zero_le _) (fun i m σ' => (∀ y, y ≠ "k" → m y = upd (upd (upd (upd (upd (upd (upd (fun _ => none) "geo" (.ref g)) "kind" (.int b.kind)) "zone" (.int zm)) "half" (.int (b.s * b.s * b.s : Nat))) "table" (.ref t)) "places" (.ref pa)) "where" (.ref d) y) ∧
      Keep σ σ' ∧ Tab b σ' t tbl ∧ σ'[pa]? = some (.list (nV (placesOf b))) ∧ ∃ f n, σ'[d]? = some (.dict f n) ∧ n = i + 1 ∧ f (-1) = some (.int (-1)) ∧ ∀ k x : Nat, k < i → (placesOf b)[k]? = some x → f (x : Int) = some (.int (k : Int)))
    ⟨fun _ _ => rfl, k03, hTab3, hpls3, _, _, hd3, rfl, by simp, fun k x hk => by omega⟩ ?_ ?_
  · clear hTab3 hpls3 k03 hd3
    rintro i m σ' _ hi ⟨hm, kk, hT, hp, f, n, hd, rfl, hf1, hf2⟩ K k1 k2 k3
    obtain ⟨x, hx⟩ : ∃ x, (placesOf b)[i]? = some x := ⟨_, List.getElem?_eq_getElem hi⟩
    refine step fun K' hK' hR' hC' => ?_
    simp only [wpS, wpE, wpAssign]
    refine ⟨_, upd_same, _, by simp [upd]; rw [hm _ (by decide)]; simp [upd]; rfl, _, by simp [upd]; rw [hm _ (by decide)]; simp [upd]; rfl, _, upd_same, ?_⟩
    refine item_get (x := .int x) hp (nV_get hx) (by omega) ?_
    refine ⟨_, setItemV_dict hd (by omega), hK' _ _ (done (k1 _ _ ⟨fun y hy => by simp [upd, hy]; rw [hm y hy]; simp [upd], kk.set hσl _, ⟨by rw [set_ne (by omega)]; exact hT.here, hT.len⟩, by rw [set_ne (by omega)]; exact hp, _, _, set_at hd, rfl, ?_, ?_⟩))⟩
    · rw [if_neg (by omega)]; exact hf1
    · intro k y hk hy
      by_cases e : k = i
      · subst e
        rw [hx] at hy; cases hy
        simp
      · have hxy : y ≠ x := by
          intro e'; subst e'
          have h1 := (place_at hx).choose_spec.2.2.2.2
          have h2 := (place_at hy).choose_spec.2.2.2.2
          omega
        rw [if_neg (by omega)]
        exact hf2 k y (by omega) hy
  clear hTab3 hpls3 k03 hd3
  rintro m σ4 ⟨hm, kk, hT, hp, f, n, hd, rfl, hf1, hf2⟩
  have hwh : WhOk b f := ⟨hf1, fun k x hx => hf2 k x (List.getElem?_eq_some_iff.mp hx).1 hx⟩
  refine hK _ _ (step fun K hK hR hC => ?_)
  simp only [wpS, wpE, wpEs, wpAssign]
  refine hK _ _ (step fun K hK hR hC => ?_)
  simp only [wpS, wpE, wpEs, wpAssign]
  refine hK _ _ (step fun K hK hR hC => ?_)
  simp only [wpS, wpE, wpEs, wpAssign]
  refine hK _ _ (step fun K hK hR hC => ?_)
  have hdl4 : d < σ4.length := (List.getElem?_eq_some_iff.mp hd).1
  have lA : (σ4 ++ [AObj.list []]).length = σ4.length + 1 := by simp
  have lB : ((σ4 ++ [AObj.list []]) ++ [AObj.list []]).length = σ4.length + 2 := by simp
  rw [lA, lB]
  have kA : Keep σ4 (((σ4 ++ [AObj.list []]) ++ [AObj.list []]) ++ [AObj.list []]) := ((Keep.snoc _ _).trans (Keep.snoc _ _)).trans (Keep.snoc _ _)
  have Z : BZ b σ (((σ4 ++ [AObj.list []]) ++ [AObj.list []]) ++ [AObj.list []]) t pa d σ4.length tbl f ((sidesOf b).take 0) [] ((lostsOf b).take 0) :=
    ⟨kk.trans kA, hT.keep kA, kA _ _ hp, ⟨_, kA _ _ hd⟩, by simp, by simp, by simp, fun n r e => by simp at e, ⟨by omega, by omega, by omega, by have := kk.len; omega⟩⟩
  generalize (((σ4 ++ [AObj.list []]) ++ [AObj.list []]) ++ [AObj.list []]) = σ5 at Z ⊢
  generalize σ4.length = A at Z ⊢
  have L : BLoc g t pa d A b (upd (upd (upd m "sides" (.ref A)) "after" (.ref (A + 1))) "lost" (.ref (A + 2))) := by
    refine ⟨?_, ?_, ?_, ?_, ?_, ?_, by simp [upd], by simp [upd], by simp [upd]⟩ <;> simp only [upd] <;> (rw [if_neg (by decide), if_neg (by decide), if_neg (by decide), hm _ (by decide)]; simp [upd])
  generalize (upd (upd (upd m "sides" (.ref A)) "after" (.ref (A + 1))) "lost" (.ref (A + 2))) = m5 at L ⊢
  rw [wpS, wpE]
  refine ⟨_, L.places, nV (placesOf b), by simp [srcItems, Z.pl], ?_⟩
  refine forW_inv (fun i m σ' => BLoc g t pa d A b m ∧ ∃ rr, rr.length = i ∧ BZ b σ σ' t pa d A tbl f ((sidesOf b).take i) rr ((lostsOf b).take i)) ?_ ?_ ?_ _ 0 _ _ rfl (Nat.zero_le _) ⟨L, [], rfl, Z⟩
  · rintro i m σ' ⟨_, rr, _, Z⟩; simp [srcItems, Z.pl]
  · rintro i v m σ' hv ⟨L, rr, hrr, Z⟩ K k1 k2 k3
    obtain ⟨x, hx, rfl⟩ := nV_get' hv
    refine ⟨_, rfl, ?_⟩
    refine bz_row P o hG mk hwh hx hrr Z (L.of fun y hy => by
      have : y ≠ "n" := fun e => by subst e; exact hy (by decide)
      simp [upd, this]) upd_same fun m' σ'' rr' L' hrr' Z' => ?_
    exact k1 _ _ ⟨L', rr', hrr', Z'⟩
  clear Z L
  rintro m6 σ6 ⟨L, rr, hrr, Z⟩
  rw [show (nV (placesOf b)).length = (placesOf b).length by simp [nV]] at hrr Z
  have hSI := solve_in o hrr Z
  refine hK _ _ (step fun K hK hR hC => ?_)
  simp only [wpS, wpE, wpEs]
  refine ⟨_, gl_solve P, _, L.sides, _, L.after, _, L.lost, _, _, rfl, rfl, ?_⟩
  refine SemCall.mono ((s_solve P hSI).up (b := 15) (by decide)) (fun v σ7 ⟨va, vals, left, D, c, hv, hval, hva, k7, I⟩ => ?_) fun _ h => h
  subst hv
  have Z7 := Z.keep k7
  have hvl := I.lenv
  simp only [wpAssign]
  refine hK _ _ (step fun K hK hR hC => ?_)
  have L7 : BLoc g t pa d A b (upd m6 "values" (.ref va)) := by
    refine ⟨?_, ?_, ?_, ?_, ?_, ?_, ?_, ?_, ?_⟩ <;> simp only [upd] <;> rw [if_neg (by decide)]
    · exact L.geo
    · exact L.kind
    · exact L.half
    · exact L.table
    · exact L.places
    · exact L.where_
    · exact L.sides
    · exact L.after
    · exact L.lost
  have hv7 : upd m6 "values" (.ref va) "values" = some (.ref va) := upd_same
  generalize upd m6 "values" (.ref va) = m7 at L7 hv7 ⊢
  have htva : t ≠ va := by
    have := (List.getElem?_eq_some_iff.mp Z.tab.here).1
    omega
  simp only [wpS, wpE, wpEs]
  refine ⟨_, L7.places, wpB_len Z7.pl (by simp [nV]; omega) (wpB_range (by simp [nV]; omega) ?_)⟩
  rw [show (nV (placesOf b)).length = (placesOf b).length by simp [nV]]
  have htA := Z7.ne
  refine forW_rng (a := 0) (b := (placesOf b).length) (Nat.zero_le _) (fun i m σ' => m "table" = some (.ref t) ∧ m "places" = some (.ref pa) ∧ m "values" = some (.ref va) ∧
      Keep σ σ' ∧ σ'[pa]? = some (.list (nV (placesOf b))) ∧ σ'[va]? = some (.list (vals.map V.int)) ∧ ∃ tbl', Tab b σ' t tbl' ∧ ∀ n, n < 2 * b.s * b.s * b.s → at_ tbl' n = if n ∈ (placesOf b).take i then at_ vals ((placesOf b).idxOf n) else at_ tbl n)
    ⟨L7.table, L7.places, hv7, Z7.k, Z7.pl, hva, tbl, Z7.tab, fun n hn => by simp⟩ ?_ ?_
  · rintro i m σ' _ hi ⟨m1, m2, m3, kk, hp, hva, tbl', hT, hat'⟩ K k1 k2 k3
    obtain ⟨x, hx⟩ : ∃ x, (placesOf b)[i]? = some x := ⟨_, List.getElem?_eq_getElem hi⟩
    have hxl := places_lt (List.mem_of_getElem? hx)
    have hl := hT.len
    refine step fun K' hK' hR' hC' => ?_
    simp only [wpS, wpE, wpAssign]
    refine ⟨_, by simp [upd]; exact m3, _, upd_same, item_get (x := .int (at_ vals i)) hva (at_get (by omega)) (by omega) ?_⟩
    refine ⟨_, by simp [upd]; exact m1, _, by simp [upd]; exact m2, _, upd_same, item_get (x := .int x) hp (nV_get hx) (by omega) ?_⟩
    refine ⟨_, setItemV_at hT.here (by simp; omega) (by simp; omega), hK' _ _ (done (k1 _ _ ⟨by simp [upd, m1], by simp [upd, m2], by simp [upd, m3], kk.set ht _, by rw [set_ne (by omega)]; exact hp, by rw [set_ne htva]; exact hva, tbl'.set x (at_ vals i), ⟨?_, by simp [hl]⟩, ?_⟩))⟩
    · rw [set_at hT.here, List.map_set]
    · intro n hn
      rw [at_set (by omega), hat' n hn]
      have htk : (placesOf b).take (i + 1) = (placesOf b).take i ++ [x] := by rw [List.take_add_one, hx]; rfl
      rw [htk]
      by_cases e : n = x
      · subst e
        have := (place_at hx).choose_spec.2.2.2.2
        simp [this]
      · simp [e]
  · rintro m σ' ⟨m1, m2, m3, kk, hp, hva, tbl', hT, hat'⟩
    refine hK _ _ (step fun K hK hR hC => ?_)
    simp only [wpS, wpE]
    refine ⟨_, m1, hR _ _ _ ⟨t, tbl', rfl, kk, hT, tbl_ok hT.len I fun n hn => ?_⟩⟩
    rw [hat' n hn, List.take_length, hat n hn]
    split <;> simp_all
end
end Mine

end

section
open PySem PyProof.Rows
set_option linter.unusedVariables false
set_option maxRecDepth 100000
namespace Mine

def mskN (f : Nat → Bool) : Nat → Nat
  | 0 => 0
  | n + 1 => if f n then 2 ^ n + mskN f n else mskN f n
theorem mskN_lt (f : Nat → Bool) : ∀ n, mskN f n < 2 ^ n
  | 0 => by simp [mskN]
  | n + 1 => by
    have := mskN_lt f n
    rw [mskN, Nat.pow_succ]
    split <;> omega
theorem mskN_bit (f : Nat → Bool) : ∀ n k, k < n → (mskN f n).testBit k = f k
  | 0, k, h => by omega
  | n + 1, k, h => by
    have hl := mskN_lt f n
    rw [mskN]
    by_cases e : k = n
    · subst e
      split
      · rename_i hf
        have := Nat.testBit_two_pow_mul_add 1 hl k
        rw [Nat.mul_one] at this
        rw [this]; simp [hf]
      · rename_i hf
        rw [Nat.testBit_lt_two_pow hl]; simpa using hf
    · have hk : k < n := by omega
      split
      · have := Nat.testBit_two_pow_mul_add 1 hl k
        rw [Nat.mul_one] at this
        rw [this, if_pos hk]; exact mskN_bit f n k hk
      · exact mskN_bit f n k hk
theorem bit_nat (n k : Nat) : bit (n : Int) k = if n.testBit k then 1 else 0 := by
  unfold bit
  have h1 : ((n : Int) / 2 ^ k) = ((n / 2 ^ k : Nat) : Int) := by push_cast; rfl
  rw [h1, bitAnd_pp (Int.natCast_nonneg _) (by decide)]
  simp only [Int.toNat_natCast]
  rw [show (1 : Int).toNat = 1 from rfl, Nat.and_one_is_mod, Nat.testBit_eq_decide_div_mod_eq]
  have := Nat.mod_lt (n / 2 ^ k) (show 0 < 2 by decide)
  by_cases h : n / 2 ^ k % 2 = 1
  · simp [h]
  · have : n / 2 ^ k % 2 = 0 := by omega
    simp [this]
theorem bit_msk (f : Nat → Bool) {n k : Nat} (h : k < n) : bit (mskN f n : Nat) k = if f k = true then 1 else 0 := by
  rw [bit_nat, mskN_bit f n k h]

theorem strikes_two (f kind o g a c : Int) : strikes f kind o g [a, c] = (strikes f kind o g [a] && strikes f kind o g [c]) := by
  unfold strikes strikesC
  split
  · simp
  · split
    · rw [Bool.eq_iff_iff]
      simp only [Bool.and_eq_true, List.all_eq_true, Bool.not_eq_true', decide_eq_false_iff_not, List.mem_cons, List.not_mem_nil, or_false, not_or]
      constructor
      · intro h; exact ⟨fun x hx => (h x hx).1, fun x hx => (h x hx).2⟩
      · rintro ⟨h1, h2⟩ x hx; exact ⟨h1 x hx, h2 x hx⟩
    · rfl

def allB (n : Nat) (p : Nat → Bool) : Bool := (List.range n).all p
theorem allB_ok {n : Nat} {p : Nat → Bool} (h : allB n p = true) (i : Nat) (hi : i < n) : p i = true := List.all_eq_true.mp h i (List.mem_range.mpr hi)
def cKing (b : Bd) : Bool := allB b.s fun a => b.kingOf a == (mskN (fun c => b.tch a c) b.s : Nat)
def cFree (b : Bd) : Bool := allB b.s fun a => allB b.s fun m => b.freeOf a m == (mskN (fun c => !b.tch a c && !decide (c = a) && !decide (c = m)) b.s : Nat)
def sh (k b : Nat) : Nat := b ||| (b / k)
def rayN (up : Bool) (ray occ : Nat) : Nat :=
  if ray &&& occ = 0 then ray
  else if up then ray &&& (((ray &&& occ) ||| ((ray &&& occ) - 1)) - ((ray &&& occ) &&& ((ray &&& occ) - 1)))
  else ray - (ray &&& sh 4294967296 (sh 65536 (sh 256 (sh 16 (sh 4 (sh 2 ((ray &&& occ) / 2)))))))
theorem or_nat (m n : Nat) : Builtin.bitOr (m : Int) n = (m ||| n : Nat) := by
  rw [bitOr_and, bitAnd_pp (Int.natCast_nonneg _) (Int.natCast_nonneg _)]
  have := nat_or_add_and m n
  simp only [Int.toNat_natCast]
  omega
theorem and_nat (m n : Nat) : Builtin.bitAnd (m : Int) n = (m &&& n : Nat) := by
  rw [bitAnd_pp (Int.natCast_nonneg _) (Int.natCast_nonneg _)]; simp
theorem sh_nat (k b : Nat) : Builtin.bitOr (b : Int) ((b : Int) / (k : Nat)) = (sh k b : Nat) := by
  rw [show (b : Int) / (k : Nat) = ((b / k : Nat) : Int) by push_cast; rfl, or_nat]; rfl
theorem rayAtt_nat (d ray occ : Nat) : rayAtt d (ray : Int) (occ : Int) = (rayN (growing d) ray occ : Nat) := by
  unfold rayAtt rayN
  simp only [and_nat]
  generalize ray &&& occ = s
  by_cases h0 : s = 0
  · simp [h0]
  · have h0' : ¬ (s : Int) = 0 := by omega
    rw [if_neg h0', if_neg h0]
    split
    · have h1 : (s : Int) - 1 = ((s - 1 : Nat) : Int) := by omega
      rw [h1]
      unfold Builtin.bitXor
      rw [or_nat, and_nat]
      have hle : s &&& (s - 1) ≤ s ||| (s - 1) := Nat.le_trans Nat.and_le_left Nat.left_le_or
      rw [show ((s ||| (s - 1) : Nat) : Int) - ((s &&& (s - 1) : Nat) : Int) = (((s ||| (s - 1)) - (s &&& (s - 1)) : Nat) : Int) by omega, and_nat]
    · have e0 : (s : Int) / 2 = ((s / 2 : Nat) : Int) := by omega
      rw [e0]
      have e1 : ∀ b : Nat, Builtin.bitOr (b : Int) ((b : Int) / 2) = (sh 2 b : Nat) := fun b => sh_nat 2 b
      have e2 : ∀ b : Nat, Builtin.bitOr (b : Int) ((b : Int) / 4) = (sh 4 b : Nat) := fun b => sh_nat 4 b
      have e3 : ∀ b : Nat, Builtin.bitOr (b : Int) ((b : Int) / 16) = (sh 16 b : Nat) := fun b => sh_nat 16 b
      have e4 : ∀ b : Nat, Builtin.bitOr (b : Int) ((b : Int) / 256) = (sh 256 b : Nat) := fun b => sh_nat 256 b
      have e5 : ∀ b : Nat, Builtin.bitOr (b : Int) ((b : Int) / 65536) = (sh 65536 b : Nat) := fun b => sh_nat 65536 b
      have e6 : ∀ b : Nat, Builtin.bitOr (b : Int) ((b : Int) / 4294967296) = (sh 4294967296 b : Nat) := fun b => sh_nat 4294967296 b
      rw [e1, e2, e3, e4, e5, e6, bitAnd_not, and_nat]
      have : ray &&& sh 4294967296 (sh 65536 (sh 256 (sh 16 (sh 4 (sh 2 (s / 2)))))) ≤ ray := Nat.and_le_left
      omega
def rayOfN (G : GeoD) (d sq : Nat) : Nat := (rayOf G d sq).toNat
def slideN (G : GeoD) (a n sq occ : Nat) : Nat := (List.range n).foldl (fun acc i => acc ||| rayN (growing (a + i)) (rayOfN G (a + i) sq) occ) 0
def kindN (G : GeoD) (kind sq occ : Nat) : Nat :=
  if kind = 2 then ((G.knight[sq]?).getD 0).toNat
  else if kind = 3 then slideN G 4 4 sq occ
  else if kind = 4 then slideN G 0 4 sq occ
  else if kind = 5 then slideN G 0 4 sq occ ||| slideN G 4 4 sq occ
  else 0
def nonnegG (G : GeoD) : Bool := G.rays.all (fun l => l.all fun x => decide (0 ≤ x)) && G.knight.all fun x => decide (0 ≤ x)
theorem getD_nonneg {l : List Int} (h : l.all (fun x => decide (0 ≤ x)) = true) (i : Nat) : 0 ≤ (l[i]?).getD 0 := by
  cases e : l[i]? with
  | none => simp
  | some x => simpa using List.all_eq_true.mp h x (List.mem_of_getElem? e)
theorem rayOf_nat {G : GeoD} (h : nonnegG G = true) (d sq : Nat) : rayOf G d sq = (rayOfN G d sq : Nat) := by
  unfold nonnegG at h
  rw [Bool.and_eq_true] at h
  have : 0 ≤ rayOf G d sq := by
    unfold rayOf
    refine getD_nonneg ?_ sq
    cases e : G.rays[d]? with
    | none => simp
    | some l => exact List.all_eq_true.mp h.1 l (List.mem_of_getElem? e)
  unfold rayOfN; omega
theorem slide_nat {G : GeoD} (h : nonnegG G = true) (a sq occ : Nat) : ∀ n, slideTo G a n sq (occ : Int) = (slideN G a n sq occ : Nat)
  | 0 => rfl
  | n + 1 => by
    rw [slideTo_succ, slide_nat h a sq occ n, rayOf_nat h, rayAtt_nat, or_nat]
    unfold slideN
    rw [List.range_succ, List.foldl_append]; rfl
theorem kind_nat {G : GeoD} (h : nonnegG G = true) (kind sq occ : Nat) : kindAtt G kind sq (occ : Int) = (kindN G kind sq occ : Nat) := by
  have hk : 0 ≤ (G.knight[sq]?).getD 0 := by
    unfold nonnegG at h
    rw [Bool.and_eq_true] at h
    exact getD_nonneg h.2 sq
  unfold kindAtt kindN
  simp only [slide_nat h, or_nat]
  repeat' split
  all_goals first | rfl | omega

def cChk (b : Bd) : Bool := allB b.s fun a => allB b.s fun m => kindN b.G b.kind m (2 ^ a) == mskN (fun c => b.str m c [(a : Int)]) b.s
def cSlide (b : Bd) : Bool := allB b.s fun a => allB b.s fun m => allB b.s fun c => kindN b.G b.kind m (2 ^ a ||| 2 ^ c) == (kindN b.G b.kind m (2 ^ a) &&& kindN b.G b.kind m (2 ^ c))
theorem two_pow (a : Nat) : (2 : Int) ^ a = ((2 ^ a : Nat) : Int) := by push_cast; rfl
theorem bit_and (f h : Nat → Bool) {n k : Nat} (hk : k < n) : bit ((mskN f n &&& mskN h n : Nat) : Int) k = if (f k && h k) = true then 1 else 0 := by
  rw [bit_nat, Nat.testBit_and, mskN_bit f n k hk, mskN_bit h n k hk]

theorem bd_ok {G : GeoD} {kind : Nat} (ok : G.Ok) (h0 : nonnegG G = true) (hk : 2 ≤ kind ∧ kind ≤ 5) (h1 : cKing ⟨G, 0, []⟩ = true) (h2 : cFree ⟨G, 0, []⟩ = true) (h3 : cChk ⟨G, kind, []⟩ = true) (h4 : cSlide ⟨G, kind, []⟩ = true) {zone : List Nat} (hz : zone.length ≤ 12) : (⟨G, kind, zone⟩ : Bd).Ok where
  geo := ok
  kind := hk
  zone := hz
  king := fun a c ha hc => by
    have := allB_ok h1 a ha
    rw [beq_iff_eq] at this
    show bit ((⟨G, 0, []⟩ : Bd).kingOf a) c = _
    rw [this]; exact bit_msk _ hc
  free := fun a m c ha hm hc => by
    have := allB_ok (allB_ok h2 a ha) m hm
    rw [beq_iff_eq] at this
    show bit ((⟨G, 0, []⟩ : Bd).freeOf a m) c = _
    rw [this, bit_msk _ hc]
    simp only [Bool.and_eq_true, Bool.not_eq_true', decide_eq_false_iff_not, and_assoc]
  chk := fun a m c ha hm hc => by
    have := allB_ok (allB_ok h3 a ha) m hm
    rw [beq_iff_eq] at this
    show bit (kindAtt (⟨G, kind, []⟩ : Bd).G (⟨G, kind, []⟩ : Bd).kind m (2 ^ a)) c = _
    rw [two_pow, kind_nat h0, this, bit_msk _ hc]
  slide := fun a m c g ha hm hc hg => by
    have := allB_ok (allB_ok (allB_ok h4 a ha) m hm) c hc
    rw [beq_iff_eq] at this
    have ea := allB_ok (allB_ok h3 a ha) m hm
    have ec := allB_ok (allB_ok h3 c hc) m hm
    rw [beq_iff_eq] at ea ec
    show bit (kindAtt (⟨G, kind, []⟩ : Bd).G (⟨G, kind, []⟩ : Bd).kind m (Builtin.bitOr (2 ^ a) (2 ^ c))) g = _
    rw [two_pow, two_pow, or_nat, kind_nat h0, this, ea, ec, bit_and _ _ hg]
    show _ = if strikes _ _ _ _ _ = true then _ else _
    rw [strikes_two]
set_option maxHeartbeats 4000000
theorem nn23 : nonnegG g23 = true := by decide +kernel
theorem ck23 : cKing ⟨g23, 0, []⟩ = true := by decide +kernel
theorem cf23 : cFree ⟨g23, 0, []⟩ = true := by decide +kernel
theorem cc23_2 : cChk ⟨g23, 2, []⟩ = true := by decide +kernel
theorem cs23_2 : cSlide ⟨g23, 2, []⟩ = true := by decide +kernel
theorem cc23_3 : cChk ⟨g23, 3, []⟩ = true := by decide +kernel
theorem cs23_3 : cSlide ⟨g23, 3, []⟩ = true := by decide +kernel
theorem cc23_4 : cChk ⟨g23, 4, []⟩ = true := by decide +kernel
theorem cs23_4 : cSlide ⟨g23, 4, []⟩ = true := by decide +kernel
theorem cc23_5 : cChk ⟨g23, 5, []⟩ = true := by decide +kernel
theorem cs23_5 : cSlide ⟨g23, 5, []⟩ = true := by decide +kernel
theorem bd23 (kind : Nat) (hk : 2 ≤ kind ∧ kind ≤ 5) (zone : List Nat) (hz : zone.length ≤ 12) : (⟨g23, kind, zone⟩ : Bd).Ok := by
  have h : kind = 2 ∨ kind = 3 ∨ kind = 4 ∨ kind = 5 := by omega
  rcases h with rfl | rfl | rfl | rfl
  · exact bd_ok ok23 nn23 (by decide) ck23 cf23 cc23_2 cs23_2 hz
  · exact bd_ok ok23 nn23 (by decide) ck23 cf23 cc23_3 cs23_3 hz
  · exact bd_ok ok23 nn23 (by decide) ck23 cf23 cc23_4 cs23_4 hz
  · exact bd_ok ok23 nn23 (by decide) ck23 cf23 cc23_5 cs23_5 hz
theorem nn33 : nonnegG g33 = true := by decide +kernel
theorem ck33 : cKing ⟨g33, 0, []⟩ = true := by decide +kernel
theorem cf33 : cFree ⟨g33, 0, []⟩ = true := by decide +kernel
theorem cc33_2 : cChk ⟨g33, 2, []⟩ = true := by decide +kernel
theorem cs33_2 : cSlide ⟨g33, 2, []⟩ = true := by decide +kernel
theorem cc33_3 : cChk ⟨g33, 3, []⟩ = true := by decide +kernel
theorem cs33_3 : cSlide ⟨g33, 3, []⟩ = true := by decide +kernel
theorem cc33_4 : cChk ⟨g33, 4, []⟩ = true := by decide +kernel
theorem cs33_4 : cSlide ⟨g33, 4, []⟩ = true := by decide +kernel
theorem cc33_5 : cChk ⟨g33, 5, []⟩ = true := by decide +kernel
theorem cs33_5 : cSlide ⟨g33, 5, []⟩ = true := by decide +kernel
theorem bd33 (kind : Nat) (hk : 2 ≤ kind ∧ kind ≤ 5) (zone : List Nat) (hz : zone.length ≤ 12) : (⟨g33, kind, zone⟩ : Bd).Ok := by
  have h : kind = 2 ∨ kind = 3 ∨ kind = 4 ∨ kind = 5 := by omega
  rcases h with rfl | rfl | rfl | rfl
  · exact bd_ok ok33 nn33 (by decide) ck33 cf33 cc33_2 cs33_2 hz
  · exact bd_ok ok33 nn33 (by decide) ck33 cf33 cc33_3 cs33_3 hz
  · exact bd_ok ok33 nn33 (by decide) ck33 cf33 cc33_4 cs33_4 hz
  · exact bd_ok ok33 nn33 (by decide) ck33 cf33 cc33_5 cs33_5 hz
theorem nn24 : nonnegG g24 = true := by decide +kernel
theorem ck24 : cKing ⟨g24, 0, []⟩ = true := by decide +kernel
theorem cf24 : cFree ⟨g24, 0, []⟩ = true := by decide +kernel
theorem cc24_2 : cChk ⟨g24, 2, []⟩ = true := by decide +kernel
theorem cs24_2 : cSlide ⟨g24, 2, []⟩ = true := by decide +kernel
theorem cc24_3 : cChk ⟨g24, 3, []⟩ = true := by decide +kernel
theorem cs24_3 : cSlide ⟨g24, 3, []⟩ = true := by decide +kernel
theorem cc24_4 : cChk ⟨g24, 4, []⟩ = true := by decide +kernel
theorem cs24_4 : cSlide ⟨g24, 4, []⟩ = true := by decide +kernel
theorem cc24_5 : cChk ⟨g24, 5, []⟩ = true := by decide +kernel
theorem cs24_5 : cSlide ⟨g24, 5, []⟩ = true := by decide +kernel
theorem bd24 (kind : Nat) (hk : 2 ≤ kind ∧ kind ≤ 5) (zone : List Nat) (hz : zone.length ≤ 12) : (⟨g24, kind, zone⟩ : Bd).Ok := by
  have h : kind = 2 ∨ kind = 3 ∨ kind = 4 ∨ kind = 5 := by omega
  rcases h with rfl | rfl | rfl | rfl
  · exact bd_ok ok24 nn24 (by decide) ck24 cf24 cc24_2 cs24_2 hz
  · exact bd_ok ok24 nn24 (by decide) ck24 cf24 cc24_3 cs24_3 hz
  · exact bd_ok ok24 nn24 (by decide) ck24 cf24 cc24_4 cs24_4 hz
  · exact bd_ok ok24 nn24 (by decide) ck24 cf24 cc24_5 cs24_5 hz
theorem nn34 : nonnegG g34 = true := by decide +kernel
theorem ck34 : cKing ⟨g34, 0, []⟩ = true := by decide +kernel
theorem cf34 : cFree ⟨g34, 0, []⟩ = true := by decide +kernel
theorem cc34_2 : cChk ⟨g34, 2, []⟩ = true := by decide +kernel
theorem cs34_2 : cSlide ⟨g34, 2, []⟩ = true := by decide +kernel
theorem cc34_3 : cChk ⟨g34, 3, []⟩ = true := by decide +kernel
theorem cs34_3 : cSlide ⟨g34, 3, []⟩ = true := by decide +kernel
theorem cc34_4 : cChk ⟨g34, 4, []⟩ = true := by decide +kernel
theorem cs34_4 : cSlide ⟨g34, 4, []⟩ = true := by decide +kernel
theorem cc34_5 : cChk ⟨g34, 5, []⟩ = true := by decide +kernel
theorem cs34_5 : cSlide ⟨g34, 5, []⟩ = true := by decide +kernel
theorem bd34 (kind : Nat) (hk : 2 ≤ kind ∧ kind ≤ 5) (zone : List Nat) (hz : zone.length ≤ 12) : (⟨g34, kind, zone⟩ : Bd).Ok := by
  have h : kind = 2 ∨ kind = 3 ∨ kind = 4 ∨ kind = 5 := by omega
  rcases h with rfl | rfl | rfl | rfl
  · exact bd_ok ok34 nn34 (by decide) ck34 cf34 cc34_2 cs34_2 hz
  · exact bd_ok ok34 nn34 (by decide) ck34 cf34 cc34_3 cs34_3 hz
  · exact bd_ok ok34 nn34 (by decide) ck34 cf34 cc34_4 cs34_4 hz
  · exact bd_ok ok34 nn34 (by decide) ck34 cf34 cc34_5 cs34_5 hz
end Mine

end

section
open PySem
set_option linter.unusedVariables false
set_option linter.unusedSimpArgs false
set_option maxRecDepth 100000
namespace Mine

def plp (s n : Nat) : Pl := ⟨n / s ^ 3 % 2, n / s ^ 2 % s, n / s % s, n % s⟩
theorem plp_in {s : Nat} (hs : 0 < s) (n : Nat) : (plp s n).In s := ⟨Nat.mod_lt _ (by decide), Nat.mod_lt _ hs, Nat.mod_lt _ hs, Nat.mod_lt _ hs⟩
def natsI (l : List Nat) : List Int := l.map fun (n : Nat) => (n : Int)
theorem nV_ints (l : List Nat) : nV l = (natsI l).map V.int := by simp [nV, natsI]

theorem sum_msk (p : Nat → Bool) : ∀ s, ((List.range s).filter p |>.map fun (n : Nat) => (2 : Int) ^ n).sum = (mskN p s : Nat)
  | 0 => by simp [mskN]
  | s + 1 => by
    rw [List.range_succ, List.filter_append, List.map_append, List.sum_append, sum_msk p s, mskN]
    cases h : p s
    · simp [h]
    · simp [h]; omega

section
variable {C : Ctx} (P : Prg C) {X : Store → Prop} {σ : Store}
include P

theorem s_plp (s : Nat) (hs : 0 < s ∧ s ≤ 12) (n : Nat) : SemCall C 1 "_law_place" [.int s, .int n] σ (fun v σ' => v = (plp s n).v ∧ σ' = σ) X := by
  refine SemCall.mono (s_place P s n (by omega)) (fun v σ' ⟨h1, h2⟩ => ⟨?_, h2⟩) fun _ h => h
  subst h1; simp [plp, Pl.v, placeOf]

def lawAsk : E := .any [(.not (.call (.glob "_law_right") [(.loc "geo"), (.loc "board"), (.loc "table"), (.loc "place")])), (.not (.call (.glob "_law_line_right") [(.loc "geo"), (.loc "board"), (.loc "table"), (.loc "place")]))]

theorem law_ask {g t z : Nat} {b : Bd} (o : b.Ok) (hG : GeoIs σ g b.G) {tbl : List Int} (hT : Tab b σ t tbl) (T : TblOk b tbl) (hB : BrdIs σ z b) (p : Pl) (hp : p.In b.s) {m : Loc} (m1 : m "geo" = some (.ref g)) (m2 : m "board" = some (brdV b z)) (m3 : m "table" = some (.ref t)) (m4 : m "place" = some p.v) {Q : Bool → Store → Prop}
    (hQ : ∀ σ', Keep σ σ' → Q false σ') : wpT C 39 X lawAsk m σ Q := by
  unfold lawAsk
  rw [wpT, wpTAny, wpT, wpT_call, wpE, wpE]
  refine ⟨_, gl_law_right P, ?_⟩
  simp only [wpE, wpEs]
  refine ⟨_, m1, _, m2, _, m3, _, m4, _, _, rfl, rfl, ?_⟩
  refine SemCall.mono ((s_right P o hG hT T hB p hp).up (b := 38) (by decide)) (fun v σ1 ⟨hv, k1⟩ => ?_) fun _ h => h
  subst hv
  refine ⟨_, rfl, ?_⟩
  simp only [Bool.not_true, Bool.false_eq_true, if_false]
  rw [wpTAny, wpT, wpT_call, wpE, wpE]
  refine ⟨_, gl_law_line_right P, ?_⟩
  simp only [wpE, wpEs]
  refine ⟨_, m1, _, m2, _, m3, _, m4, _, _, rfl, rfl, ?_⟩
  refine SemCall.mono ((s_line_right P o (hG.keep k1) (hT.keep k1) T (hB.keep k1) p hp).up (b := 38) (by decide)) (fun v σ2 ⟨hv, k2⟩ => ?_) fun _ h => h
  subst hv
  refine ⟨_, rfl, ?_⟩
  simp only [Bool.not_true, Bool.false_eq_true, if_false]
  rw [wpTAny]
  exact hQ _ (k1.trans k2)

structure LLoc (g t z : Nat) (b : Bd) (ns : List Int) (m : Loc) : Prop where
  script : m "script" = some (.script ns)
  geo : m "geo" = some (.ref g)
  table : m "table" = some (.ref t)
  board : m "board" = some (brdV b z)
  size : m "size" = some (.int b.s)
omit P in
theorem LLoc.of {g t z : Nat} {b : Bd} {ns : List Int} {m m' : Loc} (h : LLoc g t z b ns m) (e : ∀ y, y ≠ "i" → y ≠ "place" → y ≠ "won" → m' y = m y) : LLoc g t z b ns m' :=
  ⟨by rw [e _ (by decide) (by decide) (by decide)]; exact h.script, by rw [e _ (by decide) (by decide) (by decide)]; exact h.geo, by rw [e _ (by decide) (by decide) (by decide)]; exact h.table, by rw [e _ (by decide) (by decide) (by decide)]; exact h.board, by rw [e _ (by decide) (by decide) (by decide)]; exact h.size⟩

theorem law_end_part {g t z : Nat} {b : Bd} (o : b.Ok) (hG : GeoIs σ g b.G) {tbl : List Int} (hT : Tab b σ t tbl) (T : TblOk b tbl) (hB : BrdIs σ z b) {ns : List Int} (hl : ns.length ≤ 63) {m : Loc} (L : LLoc g t z b ns m) {Q : Fl → Loc → Store → Prop}
    (hQ : ∀ m σ', Q (.ret (.bool true)) m σ') : wpSs C 39 X (b_law.drop 8) m σ Q := by
  have hs : b.s ≤ 12 := o.s12
  have hcube := o.cube
  have hsp := o.spos
  have htl := hT.len
  have htp : 0 < 2 * b.s * b.s * b.s := by have := Nat.mul_pos (Nat.mul_pos (Nat.mul_pos (show 0 < 2 by decide) hsp) hsp) hsp; exact this
  simp only [b_law, List.drop]
  refine step fun K hK hR hC => ?_
  rw [wpS, wpE]
  simp only [wpE, wpEs]
  refine ⟨[.int 5, .int 6, .int 7], rfl, ?_⟩
  refine forW_inv (fun i m σ' => LLoc g t z b ns m ∧ Keep σ σ') ?_ ?_ ?_ _ 0 _ _ rfl (Nat.zero_le _) ⟨L, Keep.refl _⟩
  · rintro i m σ' _; rfl
  · clear L
    rintro i v m σ' hv ⟨L, ks⟩ K k1 k2 k3
    obtain ⟨j, rfl, hj⟩ : ∃ j : Nat, v = .int j ∧ j < 100 := by
      have hv' := List.mem_of_getElem? hv
      simp only [List.mem_cons, List.not_mem_nil, or_false] at hv'
      rcases hv' with rfl | rfl | rfl
      · exact ⟨5, rfl, by decide⟩
      · exact ⟨6, rfl, by decide⟩
      · exact ⟨7, rfl, by decide⟩
    refine ⟨_, rfl, step fun K' hK' hR' hC' => ?_⟩
    have L1 : LLoc g t z b ns (upd m "i" (.int j)) := L.of fun y h1 h2 h3 => by simp [upd, h1]
    simp only [wpS, wpE, wpEs]
    refine ⟨_, gl_law_place P, _, L1.size, _, gl_law_number P, _, L1.script, _, upd_same, _, _, rfl, rfl, ?_⟩
    refine SemCall.mono ((s_number P ns hl j hj).up (b := 38) (by decide)) (fun v σ1 ⟨hv, hσ1⟩ => ?_) fun _ h => h
    subst hv hσ1
    refine ⟨_, L1.table, wpB_len (ks _ _ hT.here) (by simp; omega) ?_⟩
    rw [List.length_map, htl]
    refine ⟨⟨by omega, by omega⟩, _, _, rfl, rfl, ?_⟩
    have hn0 : 0 ≤ numAt ns j % ((2 * b.s * b.s * b.s : Nat) : Int) := Int.emod_nonneg _ (by omega)
    obtain ⟨nn, hnn⟩ := Int.eq_ofNat_of_zero_le hn0
    rw [hnn]
    refine SemCall.mono ((s_plp P b.s ⟨hsp, hs⟩ nn).up (b := 38) (by decide)) (fun v σ2 ⟨hv, hσ2⟩ => ?_) fun _ h => h
    subst hv hσ2
    simp only [wpAssign]
    refine hK' _ _ (step fun K' hK' hR' hC' => ?_)
    have L2 : LLoc g t z b ns (upd (upd m "i" (.int j)) "place" (plp b.s nn).v) := L1.of fun y h1 h2 h3 => by simp [upd, h2]
    rw [wpS]
    refine law_ask P o (hG.keep ks) (hT.keep ks) T (hB.keep ks) (plp b.s nn) (plp_in hsp nn) L2.geo L2.board L2.table upd_same fun σ3 k3 => ?_
    simp only [Bool.false_eq_true, if_false]
    exact done (hK' _ _ (done (k1 _ _ ⟨L2, ks.trans k3⟩)))
  clear L
  rintro m σ' ⟨L, ks⟩
  refine hK _ _ (step fun K hK hR hC => ?_)
  have hT' := hT.keep ks
  rw [wpS]
  refine wpE_comp (fun i acc σ'' => σ'' = σ' ∧ acc = nV ((List.range i).filter fun n => decide (0 < at_ tbl n))) (.rng 0 (2 * b.s * b.s * b.s : Nat) 1) ((rngList 0 (2 * b.s * b.s * b.s : Nat) 1).map V.int)
    (fun Q' h => by
      simp only [wpE, wpEs]
      refine ⟨_, L.table, wpB_len hT'.here (by simp; omega) ?_⟩
      rw [List.length_map, htl]
      exact wpB_range (by omega) h) (by simp [srcItems]) (by rw [rng_len]; omega) ⟨rfl, by simp [nV]⟩ ?_ ?_ ?_
  · rintro i acc σ'' ⟨rfl, _⟩; simp [srcItems]
  · rintro i v acc m' σ'' hv ⟨rfl, rfl⟩ hm hx K' hK'
    obtain ⟨rfl, hi⟩ := rng_items hv
    rw [wpCs, wpT_cmp, wpE, wpE]
    simp only [wpE]
    refine ⟨_, by rw [hm _ (by decide) (by decide)]; exact L.table, _, hx, item_get (x := .int (at_ tbl i)) hT'.here (at_get (by omega)) (by omega) ?_⟩
    refine ⟨decide (0 < at_ tbl i), rfl, _, rfl, ?_⟩
    cases hc : decide (0 < at_ tbl i)
    · simp only [Bool.false_eq_true, if_false]
      exact hK' _ _ ⟨rfl, by rw [List.range_succ, List.filter_append]; simp [hc]⟩
    · simp only [if_true]
      refine ⟨_, hx, hK' _ _ ⟨rfl, by rw [List.range_succ, List.filter_append, nV_append]; simp [hc, nV]⟩⟩
  rintro acc σ'' ⟨rfl, rfl⟩
  rw [rng_len]
  simp only [wpAssign]
  have hwlt : ∀ n ∈ (List.range (2 * b.s * b.s * b.s)).filter (fun n => decide (0 < at_ tbl n)), n < 2 * b.s * b.s * b.s := by
    intro n hn; simp at hn; exact hn.1
  have hwl : ((List.range (2 * b.s * b.s * b.s)).filter (fun n => decide (0 < at_ tbl n))).length ≤ 3456 := by
    have := List.length_filter_le (fun n => decide (0 < at_ tbl n)) (List.range (2 * b.s * b.s * b.s))
    rw [List.length_range] at this; omega
  generalize hwon : (List.range (2 * b.s * b.s * b.s)).filter (fun n => decide (0 < at_ tbl n)) = won at hwlt hwl ⊢
  have kw := ks.trans (Keep.snoc σ'' (AObj.list (nV won)))
  have hw1 : (σ'' ++ [AObj.list (nV won)])[σ''.length]? = some (.list (nV won)) := append_here _ _
  generalize (σ'' ++ [AObj.list (nV won)]) = σ1 at kw hw1 ⊢
  generalize σ''.length = wa at hw1 ⊢
  refine hK _ _ (step fun K hK hR hC => ?_)
  have L1 : LLoc g t z b ns (upd m "won" (.ref wa)) := L.of fun y h1 h2 h3 => by simp [upd, h3]
  have mw : upd m "won" (.ref wa) "won" = some (.ref wa) := upd_same
  generalize upd m "won" (.ref wa) = m1 at L1 mw ⊢
  have last : ∀ (m2 : Loc) (σ2 : Store), LLoc g t z b ns m2 → Keep σ σ2 → K .next m2 σ2 := by
    intro m2 σ2 L2 k2
    refine hK _ _ (step fun K hK hR hC => ?_)
    simp only [wpS, wpE, wpEs]
    refine ⟨_, gl_law_refused P, _, L2.geo, _, L2.board, _, L2.table, _, gl_law_number P, _, L2.script, _, _, rfl, rfl, ?_⟩
    refine SemCall.mono ((s_number P ns hl 9 (by decide)).up (b := 38) (by decide)) (fun v σ3 ⟨hv, hσ3⟩ => ?_) fun _ h => h
    subst hv hσ3
    refine ⟨_, _, rfl, rfl, ?_⟩
    refine SemCall.mono ((s_refused P o (hG.keep k2) (hT.keep k2) (z := z) (numAt ns 9)).up (b := 38) (by decide)) (fun v σ4 ⟨hv, _⟩ => ?_) fun _ h => h
    subst hv
    exact hR _ _ _ (hQ _ _)
  have k2 := kw.trans (Keep.snoc σ1 (AObj.list []))
  have hw2 := (Keep.snoc σ1 (AObj.list [])) _ _ hw1
  have h02 : (σ1 ++ [AObj.list []])[σ1.length]? = some (.list []) := append_here _ _
  rw [wpS, wpT_cmp, wpE, wpE]
  refine ⟨_, mw, ?_⟩
  simp only [wpE, wpEs]
  generalize hσ2 : (σ1 ++ [AObj.list []]) = σ2 at k2 hw2 h02 ⊢
  have iw := intsOf_map (natsI won)
  rw [← nV_ints] at iw
  refine ⟨!decide (natsI won = []), by simp only [cmpV, neV, hw2, h02, iw, intsOf], _, rfl, ?_⟩
  by_cases hw0 : natsI won = []
  · simp only [hw0, decide_true, Bool.not_true, Bool.false_eq_true, if_false]
    exact done (last _ _ L1 k2)
  · simp only [hw0, decide_false, Bool.not_false, if_true]
    have hwpos : 0 < won.length := by
      cases won with
      | nil => exact absurd rfl hw0
      | cons _ _ => simp
    refine step fun K' hK' hR' hC' => ?_
    simp only [wpS, wpE, wpEs]
    refine ⟨_, gl_law_place P, _, L1.size, _, mw, _, gl_law_number P, _, L1.script, _, _, rfl, rfl, ?_⟩
    refine SemCall.mono ((s_number P ns hl 8 (by decide)).up (b := 38) (by decide)) (fun v σ3 ⟨hv, hσ3⟩ => ?_) fun _ h => h
    subst hv hσ3
    refine ⟨_, mw, wpB_len hw2 (by simp [nV]; omega) ?_⟩
    rw [show (nV won).length = won.length by simp [nV]]
    refine ⟨⟨by omega, by omega⟩, ?_⟩
    have hn0 : 0 ≤ numAt ns 8 % (won.length : Int) := Int.emod_nonneg _ (by omega)
    have hn1 : numAt ns 8 % (won.length : Int) < won.length := Int.emod_lt_of_pos _ (by omega)
    obtain ⟨nn, hnn⟩ := Int.eq_ofNat_of_zero_le hn0
    rw [hnn] at hn1 ⊢
    have hnl : nn < won.length := by omega
    refine item_get (x := .int (won[nn])) hw2 (nV_get (List.getElem?_eq_getElem hnl)) (by omega) ?_
    refine ⟨_, _, rfl, rfl, ?_⟩
    refine SemCall.mono ((s_plp P b.s ⟨hsp, hs⟩ won[nn]).up (b := 38) (by decide)) (fun v σ4 ⟨hv, hσ4⟩ => ?_) fun _ h => h
    subst hv hσ4
    simp only [wpAssign]
    refine hK' _ _ (step fun K' hK' hR' hC' => ?_)
    have L2 : LLoc g t z b ns (upd m1 "place" (plp b.s won[nn]).v) := L1.of fun y h1 h2 h3 => by simp [upd, h2]
    rw [wpS]
    refine law_ask P o (hG.keep k2) (hT.keep k2) T (hB.keep k2) (plp b.s won[nn]) (plp_in hsp _) L2.geo L2.board L2.table upd_same fun σ5 k5 => ?_
    simp only [Bool.false_eq_true, if_false]
    exact done (hK' _ _ (done (last _ _ L2 (k2.trans k5))))

theorem law_table_part {g z : Nat} {b : Bd} (o : b.Ok) (hG : GeoIs σ g b.G) (hB : BrdIs σ z b) {ns : List Int} (hl : ns.length ≤ 63) {m : Loc} (m1 : m "script" = some (.script ns)) (m2 : m "geo" = some (.ref g)) (m3 : m "files" = some (.int b.G.files)) (m4 : m "size" = some (.int b.s)) (m5 : m "kind" = some (.int b.kind)) (m6 : m "zone" = some (.ref z)) {Q : Fl → Loc → Store → Prop}
    (hQ : ∀ m σ', Q (.ret (.bool true)) m σ') : wpSs C 39 X (b_law.drop 6) m σ Q := by
  have hs : b.s ≤ 12 := o.s12
  simp only [b_law, List.drop]
  refine step fun K hK hR hC => ?_
  have iz := intsOf_map (b.zone.map fun (n : Nat) => (n : Int))
  have zm : ∀ k : Nat, ((k : Int) ∈ b.zone.map fun (n : Nat) => (n : Int)) = (k ∈ b.zone) := by
    intro k; simp only [List.mem_map, eq_iff_iff]
    exact ⟨fun ⟨a, h, e⟩ => by have : a = k := by omega
                               subst this; exact h, fun h => ⟨k, h, rfl⟩⟩
  have hcall : ∀ Q' : V → Store → Prop, (∀ σ', Keep σ σ' → Q' (.int (mskN (fun n => decide (n ∈ b.zone)) b.s : Nat)) σ') → wpE C 39 X (.bcall "sum" [(.comp (.bin .Pow (.cint 2) (.loc "square")) "square" (.bcall "range" [(.loc "size")]) [(.cmp .In (.loc "square") (.loc "zone"))])]) m σ Q' := by
    intro Q' hq
    rw [wpE, wpEs_cons]
    refine wpE_comp (fun i acc σ'' => σ'' = σ ∧ acc = (((List.range i).filter fun n => decide (n ∈ b.zone)).map fun (n : Nat) => (2 : Int) ^ n).map V.int) (.rng 0 b.s 1) ((rngList 0 b.s 1).map V.int)
      (fun Q' h => by
        simp only [wpE, wpEs]
        exact ⟨_, m4, wpB_range (by omega) h⟩) (by simp [srcItems]) (by rw [rng_len]; omega) ⟨rfl, by simp⟩ ?_ ?_ ?_
    · rintro i acc σ'' ⟨rfl, _⟩; simp [srcItems]
    · rintro i v acc m' σ'' hv ⟨rfl, rfl⟩ hm hx K' hK'
      obtain ⟨rfl, hi⟩ := rng_items hv
      rw [wpCs, wpT_cmp, wpE, wpE]
      refine ⟨_, hx, ?_⟩
      simp only [wpE]
      refine ⟨_, by rw [hm _ (by decide) (by decide)]; exact m6, decide (i ∈ b.zone), by simp only [cmpV, memV, hB.zone, iz, zm], _, rfl, ?_⟩
      cases hc : decide (i ∈ b.zone)
      · simp only [Bool.false_eq_true, if_false]
        exact hK' _ _ ⟨rfl, by rw [List.range_succ, List.filter_append]; simp [hc]⟩
      · simp only [if_true]
        refine ⟨_, hx, ⟨by omega, by omega, by decide⟩, hK' _ _ ⟨rfl, ?_⟩⟩
        rw [List.range_succ, List.filter_append, List.map_append, List.map_append]; simp [hc]
    rintro acc σ'' ⟨rfl, rfl⟩
    rw [rng_len, wpEs]
    simp only [wpB]
    rw [append_here]
    simp only
    refine ⟨_, intsOf_map _, ?_, ?_, ?_⟩
    · rw [List.length_map]
      have := List.length_filter_le (fun n => decide (n ∈ b.zone)) (List.range b.s)
      rw [List.length_range] at this; omega
    · intro x hx
      obtain ⟨n, hn, rfl⟩ := List.mem_map.mp hx
      have hn' : n < b.s := by simp at hn; exact hn.1
      have h1 : (2 : Nat) ^ n ≤ 2 ^ 40 := Nat.pow_le_pow_right (by decide) (by omega)
      rw [Int.natAbs_pow]; exact h1
    · rw [sum_msk]; exact hq _ (Keep.snoc _ _)
  simp only [wpS]
  rw [wpE, wpE]
  refine ⟨_, gl_build_zone P, ?_⟩
  rw [wpEs_cons, wpE]
  refine ⟨_, m2, ?_⟩
  rw [wpEs_cons, wpE]
  refine ⟨_, m5, ?_⟩
  rw [wpEs_cons]
  refine hcall _ fun σ1 k1 => ?_
  rw [wpEs]
  refine ⟨_, _, rfl, rfl, ?_⟩
  refine SemCall.mono ((s_build P o (hG.keep k1) (zm := (mskN (fun n => decide (n ∈ b.zone)) b.s : Nat)) (fun a ha => by rw [bit_msk _ ha]; simp)).up (b := 38) (by decide)) (fun v σ2 ⟨t, tbl, hv, k2, hT, T⟩ => ?_) fun _ h => h
  subst hv
  simp only [wpAssign]
  refine hK _ _ (step fun K hK hR hC => ?_)
  simp only [wpS, wpE, wpEs]
  refine ⟨_, by simp [upd]; exact m3, _, by simp [upd]; exact m4, _, by simp [upd]; exact m5, _, by simp [upd]; exact m6, ?_⟩
  simp only [wpAssign]
  refine hK _ _ ?_
  have kk := k1.trans k2
  exact law_end_part P o (hG.keep kk) hT T (hB.keep kk) hl ⟨by simp [upd, m1], by simp [upd, m2], by simp [upd], by simp [upd, brdV], by simp [upd]; exact m4⟩ hQ
end
end Mine

end

section
open PySem
set_option linter.unusedVariables false
set_option linter.unusedSimpArgs false
set_option maxRecDepth 100000
namespace Mine

def BoardCase (F R : Nat) : Prop := (F = 2 ∧ R = 3) ∨ (F = 3 ∧ R = 3) ∨ (F = 2 ∧ R = 4) ∨ (F = 3 ∧ R = 4)

section
variable {C : Ctx} (P : Prg C) {X : Store → Prop} {σ : Store}
include P

theorem num_mod (ns : List Int) (hl : ns.length ≤ 63) (i : Nat) (hi : i < 100) (k : Nat) (hk : 0 < k ∧ k < 100) {m : Loc} (m1 : m "script" = some (.script ns)) {Q : V → Store → Prop} (hQ : ∀ j : Nat, j < k → Q (.int j) σ) :
    wpE C 39 X (.bin .Mod (.call (.glob "_law_number") [(.loc "script"), (.cint (i : Int))]) (.cint (k : Int))) m σ Q := by
  simp only [wpE, wpEs]
  refine ⟨_, gl_law_number P, _, m1, _, _, rfl, rfl, ?_⟩
  refine SemCall.mono ((s_number P ns hl i hi).up (b := 38) (by decide)) (fun v σ1 ⟨hv, hσ1⟩ => ?_) fun _ h => h
  subst hv hσ1
  refine ⟨⟨by omega, by omega⟩, ?_⟩
  have hn0 : 0 ≤ numAt ns i % (k : Int) := Int.emod_nonneg _ (by omega)
  have hn1 : numAt ns i % (k : Int) < k := Int.emod_lt_of_pos _ (by omega)
  obtain ⟨j, hj⟩ := Int.eq_ofNat_of_zero_le hn0
  rw [hj] at hn1 ⊢
  exact hQ j (by omega)

theorem law_head (ns : List Int) (hl : ns.length ≤ 63) {m : Loc} (m1 : m "script" = some (.script ns)) {Q : Fl → Loc → Store → Prop}
    (hQ : ∀ (m : Loc) (σ : Store) (F R kd : Nat) (zl : List Nat), BoardCase F R → 2 ≤ kd ∧ kd ≤ 5 → zl.length = 3 → σ.length = 3 → σ[2]? = some (.list (nV zl)) → m "script" = some (.script ns) → m "files" = some (.int F) → m "ranks" = some (.int R) → m "size" = some (.int (F * R : Nat)) → m "kind" = some (.int kd) → m "zone" = some (.ref 2) → Q .next m σ) :
    wpSs C 39 X (b_law.take 3) m [] Q := by
  simp only [b_law, List.take]
  refine step fun K hK hR hC => ?_
  rw [wpS, wpE, wpE]
  simp only [wpEs, wpE, List.nil_append, List.length_nil]
  have e1 := num_mod P (X := X) (σ := [AObj.list [.tup [.int 2, .int 3], .tup [.int 3, .int 3], .tup [.int 2, .int 4], .tup [.int 3, .int 4]]]) ns hl 0 (by decide) 4 (by decide) m1 (Q := fun vi σ₂ => wpItem (.ref 0) vi σ₂ fun y => wpAssign C 39 X (.tup ["files", "ranks"]) y m σ₂ fun m' σ₃ => K .next m' σ₃)
  simp only [wpE, wpEs] at e1
  refine e1 fun j hj => ?_
  clear e1
  have hit : ∃ F R : Nat, BoardCase F R ∧ ([V.tup [.int 2, .int 3], .tup [.int 3, .int 3], .tup [.int 2, .int 4], .tup [.int 3, .int 4]] : List V)[j]? = some (.tup [.int F, .int R]) := by
    have : j = 0 ∨ j = 1 ∨ j = 2 ∨ j = 3 := by omega
    rcases this with rfl | rfl | rfl | rfl
    · exact ⟨2, 3, .inl ⟨rfl, rfl⟩, rfl⟩
    · exact ⟨3, 3, .inr (.inl ⟨rfl, rfl⟩), rfl⟩
    · exact ⟨2, 4, .inr (.inr (.inl ⟨rfl, rfl⟩)), rfl⟩
    · exact ⟨3, 4, .inr (.inr (.inr ⟨rfl, rfl⟩)), rfl⟩
  obtain ⟨F, R, hFR, hg⟩ := hit
  refine item_get (x := .tup [.int F, .int R]) rfl hg (by omega) ?_
  have hFb : (0 < F ∧ F ≤ 3) ∧ (0 < R ∧ R ≤ 4) := by rcases hFR with ⟨rfl, rfl⟩ | ⟨rfl, rfl⟩ | ⟨rfl, rfl⟩ | ⟨rfl, rfl⟩ <;> decide
  have hS : 0 < F * R ∧ F * R < 100 := by rcases hFR with ⟨rfl, rfl⟩ | ⟨rfl, rfl⟩ | ⟨rfl, rfl⟩ | ⟨rfl, rfl⟩ <;> decide
  simp only [wpAssign]
  refine ⟨_, by simp only [bndT, bindL]; rfl, hK _ _ (step fun K hK hR hC => ?_)⟩
  rw [wpS, wpE, wpEs_cons, wpE, wpE]
  refine ⟨_, by simp [upd]; rfl, ?_⟩
  simp only [wpE]
  refine ⟨_, by simp [upd]; rfl, ?_⟩
  refine ⟨.inr (by omega), ?_⟩
  simp only [wpEs, wpE]
  have m1' : upd (upd m "files" (.int F)) "ranks" (.int R) "script" = some (.script ns) := by simp [upd, m1]
  have mf : upd (upd m "files" (.int F)) "ranks" (.int R) "files" = some (.int F) := by simp [upd]
  have mr : upd (upd m "files" (.int F)) "ranks" (.int R) "ranks" = some (.int R) := by simp [upd]
  generalize upd (upd m "files" (.int F)) "ranks" (.int R) = m2 at m1' mf mr ⊢
  rw [show ((F : Int) * (R : Int)) = ((F * R : Nat) : Int) by push_cast; rfl]
  generalize hs1 : ([AObj.list [.tup [.int 2, .int 3], .tup [.int 3, .int 3], .tup [.int 2, .int 4], .tup [.int 3, .int 4]]] : Store) = σ1
  have l1 : σ1.length = 1 := by rw [← hs1]; rfl
  have e1 := num_mod P (X := X) (σ := σ1 ++ [AObj.list [.int 5, .int 4, .int 2, .int 3]]) ns hl 1 (by decide) 4 (by decide) m1' (Q := fun vi σ₂ => wpItem (.ref σ1.length) vi σ₂ fun y => wpAssign C 39 X (.tup ["size", "kind"]) (.tup [.int (F * R : Nat), y]) m2 σ₂ fun m' σ₃ => K .next m' σ₃)
  simp only [wpE, wpEs] at e1
  refine e1 fun j2 hj2 => ?_
  clear e1
  have hit : ∃ kd : Nat, (2 ≤ kd ∧ kd ≤ 5) ∧ ([V.int 5, .int 4, .int 2, .int 3] : List V)[j2]? = some (.int kd) := by
    have : j2 = 0 ∨ j2 = 1 ∨ j2 = 2 ∨ j2 = 3 := by omega
    rcases this with rfl | rfl | rfl | rfl
    · exact ⟨5, by decide, rfl⟩
    · exact ⟨4, by decide, rfl⟩
    · exact ⟨2, by decide, rfl⟩
    · exact ⟨3, by decide, rfl⟩
  obtain ⟨kd, hkd, hg2⟩ := hit
  refine item_get (x := .int kd) (append_here _ _) hg2 (by omega) ?_
  simp only [wpAssign]
  refine ⟨_, by simp only [bndT, bindL]; rfl, hK _ _ (step fun K hK hR hC => ?_)⟩
  have l2 : (σ1 ++ [AObj.list [.int 5, .int 4, .int 2, .int 3]]).length = 2 := by simp [l1]
  generalize (σ1 ++ [AObj.list [.int 5, .int 4, .int 2, .int 3]]) = σ2 at l2 ⊢
  have hm3 : ∀ y, y ≠ "size" → y ≠ "kind" → upd (upd m2 "size" (.int (F * R : Nat))) "kind" (.int kd) y = m2 y := fun y h1 h2 => by simp [upd, h1, h2]
  have hms : upd (upd m2 "size" (.int (F * R : Nat))) "kind" (.int kd) "size" = some (.int (F * R : Nat)) := by simp [upd]
  have hmk : upd (upd m2 "size" (.int (F * R : Nat))) "kind" (.int kd) "kind" = some (.int kd) := by simp [upd]
  generalize upd (upd m2 "size" (.int (F * R : Nat))) "kind" (.int kd) = m3 at hm3 hms hmk ⊢
  rw [wpS]
  refine wpE_comp (fun i acc σ' => σ' = σ2 ∧ ∃ zl : List Nat, zl.length = i ∧ acc = nV zl) (.tup [.int 2, .int 3, .int 4]) [.int 2, .int 3, .int 4] (fun Q' h => by simp only [wpE, wpEs]; exact h) rfl (by decide) ⟨rfl, [], rfl, rfl⟩ ?_ ?_ ?_
  · rintro i acc σ' _; rfl
  · rintro i v acc m' σ' hv ⟨rfl, zl, hzl, rfl⟩ hm hx K' hK'
    obtain ⟨j, rfl, hj⟩ : ∃ j : Nat, v = .int j ∧ j < 100 := by
      have hv' := List.mem_of_getElem? hv
      simp only [List.mem_cons, List.not_mem_nil, or_false] at hv'
      rcases hv' with rfl | rfl | rfl
      · exact ⟨2, rfl, by decide⟩
      · exact ⟨3, rfl, by decide⟩
      · exact ⟨4, rfl, by decide⟩
    rw [wpCs]
    simp only [if_true, wpE, wpEs]
    refine ⟨_, gl_law_number P, _, by rw [hm _ (by decide) (by decide), hm3 _ (by decide) (by decide)]; exact m1', _, hx, _, _, rfl, rfl, ?_⟩
    refine SemCall.mono ((s_number P ns hl j hj).up (b := 38) (by decide)) (fun v σ4 ⟨hv, hσ4⟩ => ?_) fun _ h => h
    subst hv hσ4
    refine ⟨_, by rw [hm _ (by decide) (by decide)]; exact hms, ?_⟩
    refine ⟨⟨by omega, by omega⟩, ?_⟩
    have hn0 : 0 ≤ numAt ns j % ((F * R : Nat) : Int) := Int.emod_nonneg _ (by omega)
    obtain ⟨q, hq⟩ := Int.eq_ofNat_of_zero_le hn0
    rw [hq]
    exact hK' _ _ ⟨rfl, zl ++ [q], by simp [hzl], by rw [nV_append]; rfl⟩
  rintro acc σ' ⟨rfl, zl, hzl, rfl⟩
  simp only [wpAssign]
  refine hK _ _ (done ?_)
  rw [l2]
  refine hQ _ _ F R kd zl hFR hkd hzl (by simp [l2]) ?_ (by simp [upd]; rw [hm3 _ (by decide) (by decide)]; exact m1') (by simp [upd]; rw [hm3 _ (by decide) (by decide)]; exact mf) (by simp [upd]; rw [hm3 _ (by decide) (by decide)]; exact mr) (by simp only [upd]; rw [if_neg (by decide)]; exact hms) (by simp only [upd]; rw [if_neg (by decide)]; exact hmk) (by simp [upd])
  rw [← l2]; exact append_here _ _

theorem law_geo {p : Nat} (hp : σ.length = p) {G : GeoD} (hc : chk p G = true) {kd : Nat} {zone : List Nat} (o : (⟨G, kd, zone⟩ : Bd).Ok) {z : Nat} (hz : σ[z]? = some (.list (nV zone))) {ns : List Int} (hl : ns.length ≤ 63) {m : Loc} (m1 : m "script" = some (.script ns)) (m2 : m "ranks" = some (.int G.ranks)) (m3 : m "files" = some (.int G.files)) (m4 : m "size" = some (.int (G.files * G.ranks : Nat))) (m5 : m "kind" = some (.int kd)) (m6 : m "zone" = some (.ref z)) {Q : Fl → Loc → Store → Prop}
    (hQ : ∀ m σ', Q (.ret (.bool true)) m σ') : wpSs C 39 X (b_law.drop 5) m σ Q := by
  simp only [b_law, List.drop]
  refine step fun K hK hR hC => ?_
  simp only [wpS, wpE, wpEs]
  refine ⟨_, gl_make_geometry P, _, m3, _, m2, _, _, rfl, rfl, ?_⟩
  refine SemCall.mono (s_make P hp hc) (fun v σ1 ⟨g, hv, hG, k1⟩ => ?_) fun _ h => h
  subst hv
  simp only [wpAssign]
  refine hK _ _ ?_
  have hB : BrdIs σ1 z ⟨G, kd, zone⟩ := ⟨by
    have := k1 _ _ hz
    rw [nV_ints] at this; exact this⟩
  exact law_table_part P o hG hB hl (m := upd m "geo" (.ref g)) (by simp [upd, m1]) (by simp [upd]) (by simp [upd, m3]) (by simp only [upd]; rw [if_neg (by decide)]; exact m4) (by simp [upd, m5]) (by simp [upd, m6]) hQ

theorem law_sem' (ns : List Int) (hl : ns.length ≤ 63) : SemCall C 40 "law" [.script ns] [] (fun v _ => v = .bool true) X := by
  refine P.call P.f_law rfl ?_
  rw [show b_law = b_law.take 3 ++ b_law.drop 3 from rfl, wpSs_append]
  refine law_head P ns hl (by simp [upd, bindL]) ?_
  intro m σ F R kd zl hFR hkd hzl hσ hz m1 m2 m3 m4 m5 m6
  simp only
  show wpSs C 39 X (.ite (.cmp .Eq (.loc "size") (.cint 6)) [.assign (.name "zone") (.bcall "list" [(.bcall "range" [(.loc "size")])])] [] :: .ite (.cmp .Eq (.loc "size") (.cint 12)) [.assign (.name "zone") (.upto (.loc "zone") 1)] [] :: b_law.drop 5) m σ _
  have hS : F * R < 100 := by rcases hFR with ⟨rfl, rfl⟩ | ⟨rfl, rfl⟩ | ⟨rfl, rfl⟩ | ⟨rfl, rfl⟩ <;> decide
  refine step fun K hK hR hC => ?_
  rw [wpS, wpT_cmp, wpE, wpE]
  refine ⟨_, m4, ?_⟩
  simp only [wpE]
  refine ⟨decide (F * R = 6), by simp only [cmpV, eqV]; congr 1; apply decide_eq_decide.mpr; omega, _, rfl, ?_⟩
  by_cases h6 : F * R = 6
  · rw [decide_eq_true h6]
    simp only [if_true]
    have hc : F = 2 ∧ R = 3 := by rcases hFR with ⟨rfl, rfl⟩ | ⟨rfl, rfl⟩ | ⟨rfl, rfl⟩ | ⟨rfl, rfl⟩ <;> simp at h6 ⊢
    obtain ⟨rfl, rfl⟩ := hc
    refine step fun K' hK' hR' hC' => ?_
    simp only [wpS, wpE, wpEs]
    refine ⟨_, m4, wpB_range (by decide) ?_⟩
    simp only [wpB]
    refine ⟨trivial, by omega, ?_⟩
    simp only [wpAssign]
    refine hK' _ _ (done (hK _ _ (step fun K hK hR hC => ?_)))
    rw [wpS, wpT_cmp, wpE, wpE]
    refine ⟨_, by simp only [upd]; rw [if_neg (by decide)]; exact m4, ?_⟩
    simp only [wpE]
    refine ⟨false, rfl, _, rfl, ?_⟩
    simp only [Bool.false_eq_true, if_false]
    refine done (hK _ _ ?_)
    have hzz : (rngList 0 ((2 * 3 : Nat) : Int) 1).map V.int = nV (List.range 6) := by
      have := rngList_up 0 6
      rw [show ((0 : Nat) : Int) = 0 from rfl] at this
      rw [show ((2 * 3 : Nat) : Int) = ((6 : Nat) : Int) from rfl, this]
      simp [nV]
    rw [hzz]
    refine law_geo P (p := 4) (G := g23) (kd := kd) (zone := List.range 6) (z := σ.length) (by simp [hσ]) chk23 (bd23 kd hkd _ (by decide)) (append_here _ _) hl (by simp [upd, m1]) (by simp [upd]; exact m3) (by simp [upd]; exact m2) (by simp only [upd]; rw [if_neg (by decide)]; exact m4) (by simp [upd, m5]) (by simp [upd]) fun m σ' => rfl
  · rw [decide_eq_false h6]
    simp only [Bool.false_eq_true, if_false]
    refine done (hK _ _ (step fun K hK hR hC => ?_))
    rw [wpS, wpT_cmp, wpE, wpE]
    refine ⟨_, m4, ?_⟩
    simp only [wpE]
    refine ⟨decide (F * R = 12), by simp only [cmpV, eqV]; congr 1; apply decide_eq_decide.mpr; omega, _, rfl, ?_⟩
    by_cases h12 : F * R = 12
    · rw [decide_eq_true h12]
      simp only [if_true]
      have hc : F = 3 ∧ R = 4 := by rcases hFR with ⟨rfl, rfl⟩ | ⟨rfl, rfl⟩ | ⟨rfl, rfl⟩ | ⟨rfl, rfl⟩ <;> simp at h12 ⊢
      obtain ⟨rfl, rfl⟩ := hc
      refine step fun K' hK' hR' hC' => ?_
      simp only [wpS, wpE, wpEs]
      refine ⟨_, m6, ?_⟩
      simp only [wpUpto, hz]
      refine ⟨by decide, by decide, by simp [nV, hzl], ?_⟩
      simp only [wpAssign]
      refine hK' _ _ (done (hK _ _ ?_))
      have hzz : (nV zl).take (1 : Int).toNat = nV (zl.take 1) := by simp [nV, List.map_take]
      rw [hzz]
      refine law_geo P (p := 4) (G := g34) (kd := kd) (zone := zl.take 1) (z := σ.length) (by simp [hσ]) chk34 (bd34 kd hkd _ (by simp; omega)) (append_here _ _) hl (by simp [upd, m1]) (by simp [upd]; exact m3) (by simp [upd]; exact m2) (by simp only [upd]; rw [if_neg (by decide)]; exact m4) (by simp [upd, m5]) (by simp [upd]) fun m σ' => rfl
    · rw [decide_eq_false h12]
      simp only [Bool.false_eq_true, if_false]
      refine done (hK _ _ ?_)
      rcases hFR with ⟨rfl, rfl⟩ | ⟨rfl, rfl⟩ | ⟨rfl, rfl⟩ | ⟨rfl, rfl⟩
      · exact absurd rfl h6
      · exact law_geo P (p := 3) (G := g33) (kd := kd) (zone := zl) (z := 2) hσ chk33 (bd33 kd hkd _ (by omega)) hz hl m1 m3 m2 m4 m5 m6 fun m σ' => rfl
      · exact law_geo P (p := 3) (G := g24) (kd := kd) (zone := zl) (z := 2) hσ chk24 (bd24 kd hkd _ (by omega)) hz hl m1 m3 m2 m4 m5 m6 fun m σ' => rfl
      · exact absurd rfl h12
end
end Mine

end

section
open PySem PySem.W PyProof.Rows
set_option linter.unusedVariables false
set_option maxRecDepth 1000000
set_option maxHeartbeats 0
namespace Mine

theorem law_sem {C : Ctx} (P : Prg C) {c : Value} (hlaw : C.fnv "law" = some c) (ns : List Int) (hl : ns.length ≤ 63) : SemCall C 40 "law" [.script ns] [] (fun v _ => v = .bool true) (fun _ => False) := law_sem' P ns hl

theorem mk_gr {w : World} {B : Heap} {p : Program} {loose : List Str} {mean : ExcName → Option Value} {mg mb : Str → Option Value} (T : Top p loose mean mg mb B) (X : (KP w.params).In B) : Gr w B :=
  ⟨X, ⟨mg, mb, T.g, T.b, T.builtins⟩, T.nolimit⟩

theorem law_end {prog : Program} {w : World} {s : Shared} (G : Gr w s.heap) {fa : Addr} (hfa : fa = 325) {a : Addr} {vs : List Value} {ns : List Int} (hl : s.heap.IsList a vs.toArray) (hi : IntsAre vs ns) (hlen : ns.length ≤ 63)
    {Q E : Value → Shared → Prop} (h : ∀ s', (∀ b o, s.heap.get? b = some o → s'.heap.get? b = some o) → s'.gens = s.gens → s'.os = s.os → Q (.bool true) s') : wpAny (model prog w) callerA (call (.ref fa) [.ref a]) Q E s := by
  subst hfa
  have P := mk_prg prog G
  have hs := law_sem (C := mkC prog w s.heap) P (c := .ref 325) rfl ns hlen
  have sr : SR (mkC prog w s.heap) [] [] s.heap := ⟨rfl, fun i o a e => by simp at e, fun i j a e => by simp at e, fun a h => by simp at h, fun b o e => e⟩
  refine wpAny_mono (hs callerA [] [] s (.ref 325) [.ref a] ⟨rfl, by decide +kernel, by decide +kernel⟩ rfl (fun e he => by simp at he) sr (.cons (.script hl hi) .nil) rfl) (fun r s' ⟨v, σ', ρ', hv, hr, hsr, hp⟩ => ?_) fun e s' x => ?_
  · subst hv
    cases hr
    exact h s' (fun b o e => hsr.base b o e) hp.gens hp.os
  · obtain ⟨_, _, _, _, _, _, hX, _⟩ := x
    exact hX.elim

theorem X : PySem.Challenge.rw_pb0076_01.Holds := hd (by
  k_fill
  intro w s₀ s₁ mg mb G Y fa o pm cd doc dV kV ho hd hcd hD hmg hg args vals as hpre hlay hrd hwl hlo
  have KX := kIn_of Y
  have GR : Gr w s₁.heap := mk_gr G.T KX
  have hfa : fa = 325 := by
    have h1 := ns_of_nsIn GR.X G.T.g (nsIn_fn GR (x := "law") (a := 325) (mem_of_lookup' rfl))
    have h2 : mg (Str.ofString "law") = some (.ref fa) := hmg
    rw [h1] at h2; cases h2; rfl
  clear hd hcd hD hmg ho
  wrow_args hpre hlay hrd hwl hlo
  rename_i ns _ _ _ _ _ _ _ a vs _ hL _ _ _ hI _ hlen _
  refine law_end GR hfa hL hI (by omega) fun s' hk hg' hos => ?_
  refine GoodW.toG ⟨.inl ⟨.bool true, .bool true, [], rfl, fun cls => ?_, .bool true, ?_, unshared_nil⟩, hk, hos, hg'.trans hg⟩
  · rfl
  · wrow_post)
end Mine

end

theorem PySem.Challenge.cw_pb0076_01_holds : PySem.Challenge.rw_pb0076_01.Holds :=
  Mine.X
