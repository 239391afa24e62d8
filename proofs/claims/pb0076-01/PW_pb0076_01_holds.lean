import PyProof.Rows.All
import Wide.All
import Open.Line
import OpenK.KWalk
import OpenK.KMake
import OpenK.KMeth
import OpenK.KCls
import OpenK.KGet
import OpenK.KList
import OpenK.KOps
import OpenK.KDict
import OpenK.KMore
import OpenK.KFacts
import OpenK.KTop
import OpenK.KDescr
import OpenK.KCell
import OpenK.KCall
import OpenK.Peek
import OpenK.TopRead
import OpenK.Lit
import Wide.FinOn
import PySem.Challenge.RW_pb0076_01
set_option Elab.async false
section
open PySem PySem.W PyProof.Rows
set_option linter.unusedVariables false
set_option maxRecDepth 1000000
set_option maxHeartbeats 0
set_option tactic.hygienic false
namespace Mine
noncomputable def rq : Program := view PySem.Challenge.rw_pb0076_01.row.prog ((List.range 60).filter fun i => ![0, 10, 22, 29, 46].contains i)
noncomputable def endHeap (w : World) : Option Heap := (openEnds treeTable PySem.Challenge.rw_pb0076_01.row.prog w 4516).map (·.heap)
noncomputable def rX (s : Shared) : Bool := xlAt rq [] s && recOk (RowW.records PySem.Challenge.rw_pb0076_01.row.toRowW) s
theorem rSeen (w : World) : (openEnds treeTable PySem.Challenge.rw_pb0076_01.row.prog w 4516).map (fun s => openSeen rq [] (importedModules PySem.Challenge.rw_pb0076_01.row.prog.main.body) rX true s) = some (openGood rq []) := by kernel_rfl
theorem rLeft : LeftO PySem.Challenge.rw_pb0076_01.row.prog rq [] rX (fun s => some s.heap) endHeap 4516 := fun w => by
  obtain ⟨s, h1, h2⟩ := Option.map_eq_some_iff.mp (rSeen w)
  unfold endHeap
  rw [h1, Option.map_some, Option.map_some, h2]
theorem said : PySem.Challenge.rw_pb0076_01.wellSaid = true := by kernel_rfl
noncomputable def rSays (w : World) (h : Heap) : Prop := ∃ h0, endHeap w = some h0 ∧ h0.StaysIn h
theorem rDefd : (defOf rq PySem.Challenge.rw_pb0076_01.row.name).isSome = true := by kernel_rfl
noncomputable def rDef : DefRec × List (Str × Expr) := (defOf rq PySem.Challenge.rw_pb0076_01.row.name).get rDefd
theorem rDef1 : defOf rq PySem.Challenge.rw_pb0076_01.row.name = some (rDef.1, rDef.2) := by kernel_rfl
theorem rDef2 : PySem.Challenge.rw_pb0076_01.row.prog.theDef PySem.Challenge.rw_pb0076_01.row.name = some (rDef.1.params, rDef.1.body, rDef.1.scope) := by kernel_rfl
theorem rDef3 : kwWritten? rDef.1.params.kwonlyargs rDef.1.params.kw_defaults = some rDef.2 := by kernel_rfl
theorem rOk : (chainsOk rq && opensWell PySem.Challenge.rw_pb0076_01.row.prog && (frees PySem.Challenge.rw_pb0076_01.row.toRowW && PySem.Challenge.rw_pb0076_01.row.within.isEmpty)) = true := by kernel_rfl
theorem rBare : PySem.Challenge.rw_pb0076_01.row.prog.bare := ⟨rfl, rfl, rfl, rfl, rfl, by kernel_rfl⟩
theorem rHead (hw : PySem.Challenge.rw_pb0076_01.row.toRowW.promised) (call : WalkO rq [] (XL rq []) rSays PySem.Challenge.rw_pb0076_01.row.toRowW rDef.1 rDef.2 fun f vs => PySem.call f vs) : PySem.Challenge.rw_pb0076_01.Holds :=
  holds_law said fun said => holds_open rLeft (fun w s e => ⟨s.heap, e.symm, fun _ _ h => h⟩) (fun w h h' Y hk => Y.elim fun h0 y => ⟨h0, y.1, fun c o q => hk c o (y.2 c o q)⟩) (fun s e => xl_of s (Bool.and_eq_true_iff.mp e).1) XL.keeps rDef1 rDef2 rDef3 (fun s e => recFacts_of (Bool.and_eq_true_iff.mp e).2) (by kernel_rfl) said rOk rBare hw call
end Mine

end

section
open PySem PySem.W PyProof.Rows
set_option linter.unusedVariables false
set_option tactic.hygienic false
namespace Mine

/-- abstract values -/
inductive V where
  | none
  | bool (b : Bool)
  | int (i : Int)
  | str (s : String)
  | tup (xs : List V)
  | ref (a : Nat)
  | rng (lo hi step : Int)
  | fn (name : String)
  | script (ns : List Int)
  deriving Inhabited

/-- abstract objects -/
inductive AObj where
  | list (xs : List V)
  | dict (f : Int → Option V) (n : Nat)
  | inst (cls : String) (d : Nat)
  | ns (f : String → Option V)
  deriving Inhabited

noncomputable def fnNames : List String := ["is_growing", "add_masks", "inner_squares", "add_rays", "add_pawns", "add_knights", "add_castles", "make_geometry", "ray_attacks", "rook_attacks", "bishop_attacks", "queen_attacks", "slider_attacks", "piece_attacks",
  "solve", "index_of", "parts_of", "mark_places", "weak_moves", "strong_moves", "moves_at", "build_zone", "probe", "best_move", "mate_line",
  "_law_number", "_law_apart", "_law_touch", "_law_strikes", "_law_stands", "_law_ways", "_law_word", "_law_due", "_law_right", "_law_line_right", "_law_place", "_law_refused", "Geometry"]

noncomputable def glbTab (x : String) : Option V :=
  if x = "STEP_FILES" then some (.tup [.int 0, .int 1, .int 0, .int (-1), .int 1, .int 1, .int (-1), .int (-1)])
  else if x = "STEP_RANKS" then some (.tup [.int 1, .int 0, .int (-1), .int 0, .int 1, .int (-1), .int (-1), .int 1])
  else if x = "WHITE" then some (.int 0) else if x = "PAWN" then some (.int 1) else if x = "KNIGHT" then some (.int 2) else if x = "BISHOP" then some (.int 3) else if x = "ROOK" then some (.int 4)
  else if x = "QUEEN" then some (.int 5) else if x = "KING" then some (.int 6) else if x = "NOT_A_PLACE" then some (.int (-2)) else if x = "NO_MATE" then some (.int (-1)) else if x = "OUTSIDE" then some (.int (-1))
  else if x = "STRONG_MOVES" then some (.int 0) else if x = "WEAK_MOVES" then some (.int 1)
  else if x ∈ fnNames then some (.fn x) else none

abbrev Store := List AObj

structure St where
  loc : String → Option V
  σ : Store

structure Ctx where
  prog : Program
  w : World
  B : Heap
  fnv : String → Option Value
  K : Frag

noncomputable def Imm (o : Obj) : Prop := (o.cls = .type "tuple" ∧ ∃ xs n, o.data = .seq xs n) ∨ (o.cls = .type "range" ∧ ∃ vs, o.data = .fields vs)

section
variable (C : Ctx) (ρ : List Addr) (h : Heap)
mutual
/-- a value of the model for an abstract one -/
noncomputable def VR : V → Value → Prop
  | .none, c => c = .none
  | .bool b, c => c = .bool b
  | .int i, c => ∃ t, c = .int i t
  | .str x, c => ∃ t, c = .str (Str.ofString x) t
  | .tup xs, c => ∃ a cs, c = .ref a ∧ h.IsTuple a cs.toArray ∧ VRs xs cs
  | .ref i, c => ∃ a, c = .ref a ∧ ρ[i]? = some a
  | .rng p q r, c => ∃ a t u v, c = .ref a ∧ IsRange h a p q r t u v ∧ Builtin.Range.small p q r = true
  | .fn x, c => C.fnv x = some c
  | .script ns, c => ∃ a vs, c = .ref a ∧ C.B.IsList a vs.toArray ∧ IntsAre vs ns
noncomputable def VRs : List V → List Value → Prop
  | [], cs => cs = []
  | x :: xs, cs => ∃ c r, cs = c :: r ∧ VR x c ∧ VRs xs r
end
end

section
variable {C : Ctx} {ρ ρ' : List Addr} {h h' : Heap}
theorem VR.none : VR C ρ h .none .none := rfl
theorem VR.bool (b : Bool) : VR C ρ h (.bool b) (.bool b) := rfl
theorem VR.int (i : Int) (t : Tok) : VR C ρ h (.int i) (.int i t) := ⟨t, rfl⟩
theorem VR.str (x : String) (t : Tok) : VR C ρ h (.str x) (.str (Str.ofString x) t) := ⟨t, rfl⟩
theorem VR.tup {xs : List V} {a : Addr} {cs : List Value} (x : h.IsTuple a cs.toArray) (y : VRs C ρ h xs cs) : VR C ρ h (.tup xs) (.ref a) := ⟨a, cs, rfl, x, y⟩
theorem VR.ref {i : Nat} {a : Addr} (e : ρ[i]? = some a) : VR C ρ h (.ref i) (.ref a) := ⟨a, rfl, e⟩
theorem VR.rng {r : Addr} {a b c : Int} {t u v : Tok} (x : IsRange h r a b c t u v) (y : Builtin.Range.small a b c = true) : VR C ρ h (.rng a b c) (.ref r) := ⟨r, t, u, v, rfl, x, y⟩
theorem VR.fn {x : String} {c : Value} (e : C.fnv x = some c) : VR C ρ h (.fn x) c := e
theorem VRs.nil : VRs C ρ h [] [] := rfl
theorem VRs.cons {x : V} {c : Value} {xs : List V} {cs : List Value} (a : VR C ρ h x c) (b : VRs C ρ h xs cs) : VRs C ρ h (x :: xs) (c :: cs) := ⟨c, cs, rfl, a, b⟩
theorem VRs.of1 {x : V} {cs : List Value} (a : VRs C ρ h [x] cs) : ∃ c, cs = [c] ∧ VR C ρ h x c := by obtain ⟨c, r, e, b, d⟩ := a; exact ⟨c, (show r = [] from d) ▸ e, b⟩

theorem VR.mono_all (hρ : ∀ (i : Nat) (a : Addr), ρ[i]? = some a → ρ'[i]? = some a) (hk : ∀ b o, h.get? b = some o → Imm o → h'.get? b = some o) (v : V) : ∀ c, VR C ρ h v c → VR C ρ' h' v c :=
  V.rec (motive_1 := fun v => ∀ c, VR C ρ h v c → VR C ρ' h' v c) (motive_2 := fun l => ∀ c, VRs C ρ h l c → VRs C ρ' h' l c) (fun c e => e) (fun b c e => e) (fun b c e => e) (fun b c e => e)
    (fun xs ih c e => by obtain ⟨a, cs, e, ⟨o, ho, hc, r⟩, y⟩ := e; exact ⟨a, cs, e, ⟨o, hk a o ho (.inl ⟨hc, _, r⟩), hc, r⟩, ih cs y⟩) (fun i c e => by obtain ⟨a, e, r⟩ := e; exact ⟨a, e, hρ i a r⟩)
    (fun i j k c e => by obtain ⟨a, t, u, v, e, x, y⟩ := e; exact ⟨a, t, u, v, e, hk a _ x (.inr ⟨rfl, _, rfl⟩), y⟩) (fun x c e => e) (fun ns c e => e) (fun c e => e)
    (fun x xs i1 i2 c e => by obtain ⟨c, r, e, a, b⟩ := e; exact ⟨c, r, e, i1 c a, i2 r b⟩) v
theorem VR.mono (hρ : ∀ (i : Nat) (a : Addr), ρ[i]? = some a → ρ'[i]? = some a) (hk : ∀ b o, h.get? b = some o → Imm o → h'.get? b = some o) {v : V} {c : Value} (x : VR C ρ h v c) : VR C ρ' h' v c := VR.mono_all hρ hk v c x
theorem VRs.mono (hρ : ∀ (i : Nat) (a : Addr), ρ[i]? = some a → ρ'[i]? = some a) (hk : ∀ b o, h.get? b = some o → Imm o → h'.get? b = some o) {v : List V} : ∀ {c : List Value}, VRs C ρ h v c → VRs C ρ' h' v c :=
  List.rec (motive := fun v => ∀ {c : List Value}, VRs C ρ h v c → VRs C ρ' h' v c) (fun e => e) (fun x xs ih c e => by obtain ⟨c, r, e, a, b⟩ := e; exact ⟨c, r, e, a.mono hρ hk, ih b⟩) v

theorem VRs.length {xs : List V} : ∀ {cs : List Value}, VRs C ρ h xs cs → xs.length = cs.length := by
  induction xs with
  | nil => intro cs a; rw [show cs = [] from a]; rfl
  | cons x xs ih => intro cs a; obtain ⟨c, r, rfl, a, b⟩ := a; exact congrArg Nat.succ (ih b)
theorem VRs.get {xs : List V} : ∀ {cs : List Value} {i : Nat} {v : V}, VRs C ρ h xs cs → xs[i]? = some v → ∃ c, cs[i]? = some c ∧ VR C ρ h v c := by
  induction xs with
  | nil => intro cs i v a e; cases e
  | cons x xs ih =>
    intro cs i v a e
    obtain ⟨c, r, rfl, a, b⟩ := a
    cases i with
    | zero => exact ⟨c, rfl, Option.some.inj e ▸ a⟩
    | succ i => exact ih (cs := r) (i := i) b e
theorem VRs.get' {xs : List V} : ∀ {cs : List Value} {i : Nat} {c : Value}, VRs C ρ h xs cs → cs[i]? = some c → ∃ v, xs[i]? = some v ∧ VR C ρ h v c := by
  induction xs with
  | nil => intro cs i v a e; rw [show cs = [] from a] at e; cases e
  | cons x xs ih =>
    intro cs i v a e
    obtain ⟨c, r, rfl, a, b⟩ := a
    cases i with
    | zero => exact ⟨x, rfl, Option.some.inj e ▸ a⟩
    | succ i => exact ih (cs := r) (i := i) b e
theorem VRs.append {xs ys : List V} {ds : List Value} : ∀ {cs : List Value}, VRs C ρ h xs cs → VRs C ρ h ys ds → VRs C ρ h (xs ++ ys) (cs ++ ds) := by
  induction xs with
  | nil => intro cs a b; rw [show cs = [] from a]; exact b
  | cons x xs ih => intro cs a b; obtain ⟨c, r, rfl, a, d⟩ := a; exact ⟨c, r ++ ds, rfl, a, ih d b⟩
theorem VRs.set {xs : List V} : ∀ {cs : List Value} {i : Nat} {v : V} {c : Value}, VRs C ρ h xs cs → VR C ρ h v c → VRs C ρ h (xs.set i v) (cs.set i c) := by
  induction xs with
  | nil => intro cs i v c a b; rw [show cs = [] from a]; exact .nil
  | cons x xs ih =>
    intro cs i v c a b; obtain ⟨c', r, rfl, a, d⟩ := a
    cases i with
    | zero => exact ⟨c, r, rfl, b, d⟩
    | succ i => exact ⟨c', _, rfl, a, ih d b⟩
theorem VRs.take {xs : List V} : ∀ {cs : List Value} (i : Nat), VRs C ρ h xs cs → VRs C ρ h (xs.take i) (cs.take i) := by
  induction xs with
  | nil => intro cs i a; rw [show cs = [] from a, List.take_nil, List.take_nil]; exact .nil
  | cons x xs ih =>
    intro cs i a; obtain ⟨c', r, rfl, a, d⟩ := a
    cases i with
    | zero => exact .nil
    | succ i => exact ⟨c', _, rfl, a, ih i d⟩
theorem VRs.replicate {v : V} {c : Value} (hv : VR C ρ h v c) : ∀ n, VRs C ρ h (List.replicate n v) (List.replicate n c) :=
  Nat.rec .nil fun n ih => .cons hv ih
theorem VRs.ints {ns : List Int} : ∀ {cs : List Value}, VRs C ρ h (ns.map .int) cs → IntsAre cs ns := by
  induction ns with
  | nil => intro cs a; rw [show cs = [] from a]; exact .nil
  | cons n ns ih => intro cs a; obtain ⟨c, r, rfl, ⟨t, rfl⟩, b⟩ := a; exact .cons n t (ih b)
theorem VRs.of_ints {ns : List Int} {cs : List Value} (x : IntsAre cs ns) : VRs C ρ h (ns.map .int) cs := by
  induction x with
  | nil => exact .nil
  | cons i t b ih => exact .cons ⟨t, rfl⟩ ih
end

/-- the names of an own object's fields -/
noncomputable def geoAttrs : List String := ["files", "ranks", "size", "full", "has_double", "has_castling", "file_masks", "rank_masks", "rays", "king", "knight", "pawn", "castles", "rights_lost"]

theorem plainAt {h h' : Heap} {a : Addr} {its : Array Value} (x : PlainL h a its) (e : ∀ o, h.get? a = some o → h'.get? a = some o) : PlainL h' a its := by obtain ⟨o, n, q, r⟩ := x; exact ⟨o, n, e _ q, r⟩

/-- what the heap holds at an owned address -/
noncomputable def OR (C : Ctx) (ρ : List Addr) (h : Heap) : AObj → Addr → Prop
  | .list xs, a => ∃ cs : List Value, PlainL h a cs.toArray ∧ VRs C ρ h xs cs
  | .dict f n, a => ∃ g, h.IntMap a g ∧ h.DictLe a n ∧ ∀ k v, f k = some v → ∃ c, g k = some c ∧ VR C ρ h v c
  | .inst cls d, a => ∃ D K, C.fnv cls = some (.ref K) ∧ ρ[d]? = some D ∧ h.get? a = some (instObj K D)
  | .ns f, a => ∃ m, h.Ns1 a m ∧ Within m (geoAttrs.map Str.ofString) ∧ ∀ x v, f x = some v → ∃ c, m (Str.ofString x) = some c ∧ VR C ρ h v c
theorem OR.list {C : Ctx} {ρ : List Addr} {h : Heap} {xs : List V} {cs : List Value} {a : Addr} (x : PlainL h a cs.toArray) (y : VRs C ρ h xs cs) : OR C ρ h (.list xs) a := ⟨cs, x, y⟩

theorem not_imm_dict {o : Obj} {es n} (hd : o.data = .dict es n) : ¬ Imm o := by
  rintro (⟨_, _, _, q⟩ | ⟨_, _, q⟩) <;> rw [hd] at q <;> cases q
theorem not_imm_cell {o : Obj} {v} (hd : o.data = .cell v) : ¬ Imm o := by
  rintro (⟨_, _, _, q⟩ | ⟨_, _, q⟩) <;> rw [hd] at q <;> cases q

theorem OR.there {C : Ctx} {ρ : List Addr} {h : Heap} {o : AObj} {a : Addr} (x : OR C ρ h o a) : ∃ ob, h.get? a = some ob ∧ ¬ Imm ob ∧ ∀ vs, ob.data ≠ .fields vs := by
  cases o with
  | list xs =>
    obtain ⟨cs, ⟨ob, n, ho, hc, _, hd⟩, _⟩ := x
    refine ⟨ob, ho, ?_, fun vs q => nomatch hd.symm.trans q⟩
    rintro (⟨q, _⟩ | ⟨q, _⟩) <;> rw [hc] at q <;> exact absurd q (by decide)
  | dict f n => obtain ⟨g, ⟨ob, es, ep, ho, hc, hd, _⟩, _⟩ := x; exact ⟨ob, ho, not_imm_dict hd, fun vs q => nomatch hd.symm.trans q⟩
  | inst c d => obtain ⟨D, K, _, _, ho⟩ := x; exact ⟨_, ho, (by rintro (⟨q, _⟩ | ⟨q, _⟩) <;> cases q), fun vs q => by cases q⟩
  | ns f => obtain ⟨m, ⟨ob, es, ep, ho, hd, _⟩, _⟩ := x; exact ⟨ob, ho, not_imm_dict hd, fun vs q => nomatch hd.symm.trans q⟩

theorem OR.mono {C : Ctx} {ρ ρ' : List Addr} {h h' : Heap} {o : AObj} {a : Addr} (hρ : ∀ (i : Nat) (a : Addr), ρ[i]? = some a → ρ'[i]? = some a)
    (hk : ∀ b o, h.get? b = some o → Imm o → h'.get? b = some o) (ha : ∀ o, h.get? a = some o → h'.get? a = some o) (x : OR C ρ h o a) : OR C ρ' h' o a := by
  cases o with
  | list xs => obtain ⟨cs, ⟨o, n, e, r⟩, hv⟩ := x; exact ⟨cs, ⟨o, n, ha _ e, r⟩, hv.mono hρ hk⟩
  | dict f n => obtain ⟨g, ⟨ob, es, ep, ho, r⟩, hz, hf⟩ := x; exact ⟨g, ⟨ob, es, ep, ha _ ho, r⟩, hz.of_same ho (ha _ ho), fun k v e => by obtain ⟨c, e1, e2⟩ := hf k v e; exact ⟨c, e1, e2.mono hρ hk⟩⟩
  | inst c d => obtain ⟨D, K, hc, hd, ho⟩ := x; exact ⟨D, K, hc, hρ _ _ hd, ha _ ho⟩
  | ns f => obtain ⟨m, ⟨ob, es, ep, ho, r⟩, hw, hf⟩ := x; exact ⟨m, ⟨ob, es, ep, ha _ ho, r⟩, hw, fun k v e => by obtain ⟨c, e1, e2⟩ := hf k v e; exact ⟨c, e1, e2.mono hρ hk⟩⟩

/-- the store lies in the heap -/
structure SR (C : Ctx) (σ : Store) (ρ : List Addr) (h : Heap) : Prop where
  len : ρ.length = σ.length
  obj : ∀ (i : Nat) (o : AObj) (a : Addr), σ[i]? = some o → ρ[i]? = some a → OR C ρ h o a
  inj : ∀ (i j : Nat) (a : Addr), ρ[i]? = some a → ρ[j]? = some a → i = j
  new : ∀ a, a ∈ ρ → C.B.get? a = none
  base : C.B.StaysIn h

theorem SR.addr {C : Ctx} {σ : Store} {ρ : List Addr} {h : Heap} (x : SR C σ ρ h) {i : Nat} {o : AObj} (e : σ[i]? = some o) : ∃ a, ρ[i]? = some a ∧ OR C ρ h o a := by
  have hi : i < ρ.length := by rw [x.len]; exact (List.getElem?_eq_some_iff.mp e).1
  exact ⟨ρ[i], List.getElem?_eq_getElem hi, x.obj i o _ e (List.getElem?_eq_getElem hi)⟩
theorem SR.owned {C : Ctx} {σ : Store} {ρ : List Addr} {h : Heap} (x : SR C σ ρ h) {a : Addr} (ha : a ∈ ρ) : ∃ i : Nat, ∃ o, σ[i]? = some o ∧ ρ[i]? = some a ∧ OR C ρ h o a := by
  obtain ⟨i, hi, rfl⟩ := List.mem_iff_getElem.mp ha
  have hi' : i < σ.length := by rw [← x.len]; exact hi
  exact ⟨i, σ[i], List.getElem?_eq_getElem hi', List.getElem?_eq_getElem hi, x.obj i _ _ (List.getElem?_eq_getElem hi') (List.getElem?_eq_getElem hi)⟩
theorem SR.not_imm {C : Ctx} {σ : Store} {ρ : List Addr} {h : Heap} (x : SR C σ ρ h) {b : Addr} {o : Obj} (ho : h.get? b = some o) (hi : Imm o) : b ∉ ρ := fun hb => by
  obtain ⟨i, o', _, _, r⟩ := x.owned hb
  obtain ⟨ob, h1, h2, _⟩ := r.there
  rw [ho] at h1; cases h1; exact h2 hi
theorem SR.lt {C : Ctx} {σ : Store} {ρ : List Addr} {h : Heap} (x : SR C σ ρ h) {a : Addr} (ha : a ∈ ρ) : a < h.objs.size := by
  obtain ⟨_, _, _, _, r⟩ := x.owned ha
  obtain ⟨_, h1, _⟩ := r.there
  exact Heap.lt_size h1

/-- an object kept; a frame may change its slots -/
noncomputable def Kept (C : Ctx) (b : Addr) (o : Obj) (h' : Heap) : Prop :=
  h'.get? b = some o ∨ (C.B.get? b = none ∧ (∃ es ep, o.data = .dict es ep) ∧ ∃ sl, h'.get? b = some { o with slots := sl })

section
variable {C : Ctx} {b : Addr} {o : Obj} {h₁ h₂ : Heap}
theorem Kept.there (x : Kept C b o h₁) : ∃ sl, h₁.get? b = some { o with slots := sl } := by
  rcases x with e | ⟨_, _, sl, e⟩
  · exact ⟨o.slots, e⟩
  · exact ⟨sl, e⟩
theorem Kept.not_none (x : Kept C b o h₁) (e : h₁.get? b = none) : False := by
  obtain ⟨sl, e'⟩ := x.there
  rw [e] at e'; cases e'
theorem Kept.same (x : Kept C b o h₁) (hd : ¬ ∃ es ep, o.data = .dict es ep) : h₁.get? b = some o := by
  rcases x with e | ⟨_, q, _⟩
  · exact e
  · exact absurd q hd
theorem Kept.imm (x : Kept C b o h₁) (hi : Imm o) : h₁.get? b = some o := x.same fun ⟨es, ep, q⟩ => not_imm_dict q hi
theorem Kept.cell (x : Kept C b o h₁) {v} (hi : o.data = .cell v) : h₁.get? b = some o := x.same fun ⟨es, ep, q⟩ => by rw [hi] at q; cases q
theorem Kept.trans (x : Kept C b o h₁) (y : ∀ o₁, h₁.get? b = some o₁ → Kept C b o₁ h₂) : Kept C b o h₂ := by
  rcases x with e | ⟨q1, q2, sl, e⟩
  · exact y _ e
  · rcases y _ e with e' | ⟨_, _, sl', e'⟩
    · exact .inr ⟨q1, q2, sl, e'⟩
    · exact .inr ⟨q1, q2, sl', e'⟩
theorem Kept.now (e : h₁.get? b = some o) : Kept C b o h₁ := .inl e
end
theorem ns_kept {C : Ctx} {h h' : Heap} {a : Addr} {f : Str → Option Value} (x : h.Ns a f) (k : ∀ o, h.get? a = some o → Kept C a o h') : h'.Ns a f := by
  obtain ⟨o, es, ep, e, hd, r⟩ := x
  obtain ⟨sl, e'⟩ := (k o e).there
  exact ⟨_, es, ep, e', hd, r⟩

/-- from one state to a later one: what lies outside the owned and ex stays -/
structure Post (C : Ctx) (ex : Addr → Prop) (ρ ρ' : List Addr) (s s' : Shared) : Prop where
  gens : s'.gens = s.gens
  os : s'.os = s.os
  pre : ∀ (i : Nat) (a : Addr), ρ[i]? = some a → ρ'[i]? = some a
  fresh : ∀ a, a ∈ ρ' → a ∉ ρ → s.heap.get? a = none ∧ ¬ ex a
  keep : ∀ b o, s.heap.get? b = some o → b ∉ ρ → ¬ ex b → Kept C b o s'.heap

theorem Post.refl {C : Ctx} {ex ρ s} : Post C ex ρ ρ s s := ⟨rfl, rfl, fun _ _ e => e, fun _ h h' => absurd h h', fun _ _ e _ _ => .inl e⟩
theorem Post.tok {C : Ctx} {ex ρ s} {t : Nat} : Post C ex ρ ρ s { s with toks := t } := ⟨rfl, rfl, fun _ _ e => e, fun _ h h' => absurd h h', fun _ _ e _ _ => .inl e⟩
theorem Post.trans {C : Ctx} {ex : Addr → Prop} {ρ ρ₁ ρ₂ : List Addr} {s s₁ s₂ : Shared} (x : Post C ex ρ ρ₁ s s₁) (y : Post C ex ρ₁ ρ₂ s₁ s₂) : Post C ex ρ ρ₂ s s₂ where
  gens := y.gens.trans x.gens
  os := y.os.trans x.os
  pre := fun i a e => y.pre i a (x.pre i a e)
  fresh := fun a h h' => by
    by_cases h1 : a ∈ ρ₁
    · exact x.fresh a h1 h'
    · obtain ⟨f1, f2⟩ := y.fresh a h h1
      refine ⟨?_, f2⟩
      cases q : s.heap.get? a with
      | none => rfl
      | some o => exact ((x.keep a o q h' f2).not_none f1).elim
  keep := fun b o e h h' => (x.keep b o e h h').trans fun o₁ e₁ => y.keep b o₁ e₁ (fun h1 => by
    have := (x.fresh b h1 h).1; rw [e] at this; cases this) h'

/-- outer frames -/
noncomputable def FrOk (C : Ctx) (ρ : List Addr) (h : Heap) (fr : List Env) : Prop :=
  ∀ e ∈ fr, e.scope.kind ≠ .module ∧ ∃ L o, e.frame = some L ∧ C.B.get? L = none ∧ h.get? L = some o ∧ (∃ es ep, o.data = .dict es ep) ∧ L ∉ ρ

theorem FrOk.fun {C : Ctx} {ρ : List Addr} {h : Heap} : ∀ {fr : List Env}, FrOk C ρ h fr → h.FunFrames C.B fr
  | [], _ => trivial
  | e :: r, x => by
    obtain ⟨hk, L, o, a1, a2, a3, a4, _⟩ := x e (.head _)
    exact ⟨hk, ⟨L, o, a1, a2, a3, fun vs q => by obtain ⟨es, ep, h⟩ := a4; rw [h] at q; cases q⟩, FrOk.fun fun e' he => x e' (.tail _ he)⟩

theorem FrOk.post {C : Ctx} {ex : Addr → Prop} {ρ ρ' : List Addr} {s s' : Shared} {fr : List Env} (x : FrOk C ρ s.heap fr) (y : Post C ex ρ ρ' s s')
    (hex : ∀ b o, ex b → s.heap.get? b = some o → (∃ es ep, o.data = .dict es ep) → ∃ o', s'.heap.get? b = some o' ∧ ∃ es ep, o'.data = .dict es ep) : FrOk C ρ' s'.heap fr := fun e he => by
  obtain ⟨hk, L, o, a1, a2, a3, a4, a5⟩ := x e he
  have a6 : L ∉ ρ' := fun h => by have := (y.fresh L h a5).1; rw [a3] at this; cases this
  by_cases hL : ex L
  · obtain ⟨o', b1, b2⟩ := hex L o hL a3 a4
    exact ⟨hk, L, o', a1, a2, b1, b2, a6⟩
  · obtain ⟨sl, e'⟩ := (y.keep L o a3 a5 hL).there
    exact ⟨hk, L, _, a1, a2, e', a4, a6⟩

noncomputable def exOf (env : Env) (b : Addr) : Prop := b = env.locals ∨ ∃ n, (n, b) ∈ env.cells

/-- the frame at hand and the store -/
structure Rel (C : Ctx) (env : Env) (st : St) (ρ : List Addr) (h : Heap) : Prop where
  sr : SR C st.σ ρ h
  ns : ∃ m, h.Ns env.locals m ∧ ∀ x v, st.loc x = some v → env.kindOf (Str.ofString x) = some .local → ∃ c, m (Str.ofString x) = some c ∧ VR C ρ h v c
  cell : ∀ n a, (n, a) ∈ env.cells → ∃ ov, h.IsCell a ov
  cellv : ∀ x v, st.loc x = some v → env.kindOf (Str.ofString x) = some .cell →
    ∃ a c, env.cells.lookup (Str.ofString x) = some a ∧ h.IsCell a (some c) ∧ VR C ρ h v c
  locNew : C.B.get? env.locals = none ∧ env.locals ∉ ρ
  cellNew : ∀ n a, (n, a) ∈ env.cells → C.B.get? a = none ∧ a ∉ ρ ∧ a ≠ env.locals
  apart : ∀ n n' a, (n, a) ∈ env.cells → (n', a) ∈ env.cells → n = n'

theorem Rel.ex_not_imm {C : Ctx} {env : Env} {st : St} {ρ : List Addr} {h : Heap} (R : Rel C env st ρ h) {b : Addr} {o : Obj} (ho : h.get? b = some o) (hi : Imm o) : ¬ exOf env b := by
  rintro (rfl | ⟨n, hn⟩)
  · obtain ⟨m, ⟨ob, es, ep, e1, e2, _⟩, _⟩ := R.ns
    rw [ho] at e1; cases e1; exact not_imm_dict e2 hi
  · obtain ⟨ov, ob, e1, e2⟩ := R.cell n b hn
    rw [ho] at e1; cases e1; exact not_imm_cell e2 hi
theorem Rel.ex_there {C : Ctx} {env : Env} {st : St} {ρ : List Addr} {h : Heap} (R : Rel C env st ρ h) (b : Addr) (hb : exOf env b) : ∃ o, h.get? b = some o ∧ ∀ vs, o.data ≠ .fields vs := by
  rcases hb with rfl | ⟨n, hn⟩
  · obtain ⟨m, ⟨ob, es, ep, e1, e2, _⟩, _⟩ := R.ns
    exact ⟨ob, e1, fun vs q => by rw [e2] at q; cases q⟩
  · obtain ⟨ov, ob, e1, e2⟩ := R.cell n b hn
    exact ⟨ob, e1, fun vs q => by rw [e2] at q; cases q⟩
theorem Rel.fr_there {C : Ctx} {env : Env} {st st' : St} {ρ ρ' : List Addr} {h h' : Heap} (R : Rel C env st ρ h) (R' : Rel C env st' ρ' h') (b : Addr) (o : Obj) (hb : exOf env b) (ho : h.get? b = some o) (hd : ∃ es ep, o.data = .dict es ep) :
    ∃ o', h'.get? b = some o' ∧ ∃ es ep, o'.data = .dict es ep := by
  rcases hb with rfl | ⟨n, hn⟩
  · obtain ⟨m, ⟨ob, es, ep, e1, e2, _⟩, _⟩ := R'.ns
    exact ⟨ob, e1, es, ep, e2⟩
  · obtain ⟨ov, ob, e1, e2⟩ := R.cell n b hn
    obtain ⟨es, ep, q⟩ := hd
    rw [ho] at e1; cases e1; rw [q] at e2; cases e2
theorem Rel.imm {C : Ctx} {env : Env} {st : St} {ρ ρ' : List Addr} {s s' : Shared} (R : Rel C env st ρ s.heap) (y : Post C (exOf env) ρ ρ' s s') :
    ∀ b o, s.heap.get? b = some o → Imm o → s'.heap.get? b = some o := fun b o ho hi => (y.keep b o ho (R.sr.not_imm ho hi) (R.ex_not_imm ho hi)).imm hi
theorem VR.post {C : Ctx} {env : Env} {st : St} {ρ ρ' : List Addr} {s s' : Shared} {v : V} {c : Value} (hv : VR C ρ s.heap v c) (R : Rel C env st ρ s.heap) (y : Post C (exOf env) ρ ρ' s s') : VR C ρ' s'.heap v c :=
  hv.mono y.pre (R.imm y)
theorem VRs.post {C : Ctx} {env : Env} {st : St} {ρ ρ' : List Addr} {s s' : Shared} {v : List V} {c : List Value} (hv : VRs C ρ s.heap v c) (R : Rel C env st ρ s.heap) (y : Post C (exOf env) ρ ρ' s s') : VRs C ρ' s'.heap v c :=
  hv.mono y.pre (R.imm y)

/-- a change that keeps all that is owned and the frame: a new object, a token -/
theorem Rel.grow {C : Ctx} {env : Env} {st : St} {ρ : List Addr} {h h' : Heap} (R : Rel C env st ρ h) (hk : ∀ b o, h.get? b = some o → h'.get? b = some o) : Rel C env st ρ h' where
  sr := ⟨R.sr.len, fun i o a e1 e2 => (R.sr.obj i o a e1 e2).mono (fun _ _ e => e) (fun b o e _ => hk b o e) (hk a), R.sr.inj, R.sr.new, fun b o e => hk b o (R.sr.base b o e)⟩
  ns := by obtain ⟨m, h1, h2⟩ := R.ns; exact ⟨m, h1.keeps hk, fun x v e1 e2 => by obtain ⟨c, e3, e4⟩ := h2 x v e1 e2; exact ⟨c, e3, e4.mono (fun _ _ e => e) fun b o e _ => hk b o e⟩⟩
  cell := fun n a hm => by obtain ⟨ov, x⟩ := R.cell n a hm; exact ⟨ov, x.keeps hk⟩
  cellv := fun x v e1 e2 => by obtain ⟨a, c, e3, e4, e5⟩ := R.cellv x v e1 e2; exact ⟨a, c, e3, e4.keeps hk, e5.mono (fun _ _ e => e) fun b o e _ => hk b o e⟩
  locNew := R.locNew
  cellNew := R.cellNew
  apart := R.apart
theorem Post.grow {C : Ctx} {ex ρ} {s s' : Shared} (hk : ∀ b o, s.heap.get? b = some o → s'.heap.get? b = some o) (hg : s'.gens = s.gens) (ho : s'.os = s.os) : Post C ex ρ ρ s s' :=
  ⟨hg, ho, fun _ _ e => e, fun _ h h' => absurd h h', fun b o e _ _ => .inl (hk b o e)⟩

end Mine

end

section
open PySem PySem.W PyProof.Rows
set_option linter.unusedVariables false
set_option tactic.hygienic false
namespace Mine

set_option genInjectivity false
set_option genSizeOfSpec false
/-- the inner form of expressions and statements -/
inductive E where
  | cint (i : Int) | cbool (b : Bool) | cnone | cstr (s : String)
  | loc (x : String) | glob (x : String)
  | bin (op : Operator) (a b : E)
  | neg (a : E) | inv (a : E) | not (a : E)
  | cmp (op : CmpOp) (a b : E)
  | all (es : List E) | any (es : List E)
  | ite (t b o : E)
  | call (f : E) (args : List E)
  | bcall (f : String) (args : List E)
  | attr (x : String) (n : String)
  | sub (a i : E)
  | upto (a : E) (k : Int)
  | tup (es : List E) | lst (es : List E)
  | dct (k v : E)
  | comp (elt : E) (x : String) (src : E) (conds : List E)

inductive T where
  | name (x : String)
  | tup (xs : List String)
  | sub (a i : E)
  | attr (x : String) (n : String)

inductive S where
  | assign (t : T) (e : E)
  | aug (x : String) (op : Operator) (e : E)
  | augsub (a i : E) (op : Operator) (e : E)
  | expr (e : E)
  | append (a : E) (e : E)
  | ite (t : E) (b o : List S)
  | for (t : T) (src : E) (body : List S)
  | while (t : E) (body : List S)
  | ret (e : E)
  | pass | cont
  | raise (c : String) (m : String)
  | try (f : E) (args : List E) (c : String)

noncomputable def bnames : List String := ["len", "abs", "max", "min", "sum", "sorted", "list", "range"]

/-- the translation -/
abbrev Kinds := Str → Option NameKind

noncomputable def nameOk (x : Str) : Bool := Str.ofString x.toString == x && x != ("__debug__" : Str)
noncomputable def obd {α β : Type} (o : Option α) (f : α → Option β) : Option β := match o with
  | some a => f a
  | none => none
theorem obd_el {α β : Type} {o : Option α} {f : α → Option β} {b : β} {G : Prop} (h : obd o f = some b) (k : ∀ a, o = some a → f a = some b → G) : G := by
  cases o with
  | none => cases h
  | some a => exact k a rfl h
noncomputable def grd {β : Type} (c : Bool) (r : Option β) : Option β := match c with
  | true => r
  | false => none
theorem grd_el {β : Type} {c : Bool} {r : Option β} {b : β} {G : Prop} (h : grd c r = some b) (k : c = true → r = some b → G) : G := by
  cases c with
  | false => cases h
  | true => exact k rfl h
noncomputable def isLoc (k : Kinds) (x : Str) : Bool := (k x == some .local || k x == some .cell) || k x == some .free
noncomputable def trLoc (k : Kinds) (x : Str) : Option String := grd (nameOk x) (grd (k x == some .local || k x == some .cell) (some x.toString))
noncomputable def trName (k : Kinds) (x : Str) : Option E := grd (nameOk x) (if k x == some .globalImplicit then some (.glob x.toString) else grd (isLoc k x) (some (.loc x.toString)))
theorem or_beq {α : Type} [BEq α] [LawfulBEq α] {a b c : α} (h : (a == b || a == c) = true) : a = b ∨ a = c := by
  rw [Bool.or_eq_true, beq_iff_eq, beq_iff_eq] at h; exact h
theorem isLoc_ok {k : Kinds} {x : Str} (h : isLoc k x = true) : k x = some .local ∨ k x = some .cell ∨ k x = some .free := by
  unfold isLoc at h
  rw [Bool.or_eq_true, beq_iff_eq] at h
  exact h.elim (fun h => (or_beq h).elim .inl fun h => .inr (.inl h)) fun h => .inr (.inr h)
theorem trLoc_ok {k : Kinds} {x : Str} {y : String} {G : Prop} (h : trLoc k x = some y) (g : nameOk x = true → (k x = some .local ∨ k x = some .cell) → y = x.toString → G) : G :=
  grd_el h fun h1 h => grd_el h fun h2 h => g h1 (or_beq h2) (Option.some.inj h).symm
theorem trLoc_isLoc {k : Kinds} {x : Str} {y : String} (h : trLoc k x = some y) : nameOk x = true ∧ y = x.toString ∧ isLoc k x = true :=
  trLoc_ok h fun h1 h2 h3 => ⟨h1, h3, by unfold isLoc; rcases h2 with h | h <;> rw [h] <;> rfl⟩
theorem trName_cases {k : Kinds} {x : Str} {e : E} (h : trName k x = some e) : nameOk x = true ∧ ((k x = some .globalImplicit ∧ e = .glob x.toString) ∨ (isLoc k x = true ∧ e = .loc x.toString)) :=
  grd_el h fun h1 h => ⟨h1, by
    by_cases hg : (k x == some .globalImplicit) = true
    · rw [if_pos hg] at h; exact .inl ⟨beq_iff_eq.mp hg, (Option.some.inj h).symm⟩
    · rw [if_neg hg] at h; exact grd_el h fun h2 h => .inr ⟨h2, (Option.some.inj h).symm⟩⟩
theorem noB {G : Prop} (h : false = true) : G := nomatch h
theorem noT {G : Prop} (h : true = false) : G := nomatch h

theorem no {α : Type} {a : α} {G : Prop} (h : none = some a) : G := nomatch h
theorem not_true {b : Bool} (h : (!b) = true) : b = false := by
  cases b with
  | false => rfl
  | true => cases h
noncomputable def vOne {α : Type} (l : List α) : Option α := match l with
  | [] => none
  | a :: r => grd r.isEmpty (some a)
theorem vOne_ok {α : Type} {l : List α} {a : α} (h : vOne l = some a) : l = [a] := by
  cases l with
  | nil => cases h
  | cons b r =>
    refine grd_el h fun h1 h2 => ?_
    rw [List.isEmpty_iff.mp h1, Option.some.inj h2]

/-- what an expression looks like -/
inductive EV where
  | name (x : Str) (p : Pos)
  | const (c : Const) (k : Nat) (p : Pos)
  | call (f : Expr) (a : List Expr) (k : List Keyword) (p : Pos)
  | attr (o : Expr) (a : Str) (p : Pos)
  | sub (v i : Expr) (p : Pos)
  | slice (lo up st : Option Expr) (p : Pos)
  | tup (es : List Expr)
  | star | set | comp | other
noncomputable def ev (e : Expr) : EV := match e with
  | .Name x p => .name x p
  | .Constant c k p => .const c k p
  | .Call f a k p => .call f a k p
  | .Attribute o a p => .attr o a p
  | .Subscript v i p => .sub v i p
  | .Slice lo up st p => .slice lo up st p
  | .Tuple es _ _ => .tup es
  | .Starred .. => .star
  | .Set .. => .set
  | .ListComp .. => .comp
  | .SetComp .. => .comp
  | .DictComp .. => .comp
  | _ => .other
noncomputable def EV.back (v : EV) (e : Expr) : Prop := match v with
  | .name x p => e = .Name x p
  | .const c k p => e = .Constant c k p
  | .call f a k p => e = .Call f a k p
  | .attr o a p => e = .Attribute o a p
  | .sub v i p => e = .Subscript v i p
  | .slice lo up st p => e = .Slice lo up st p
  | _ => True
theorem ev_back (e : Expr) : (ev e).back e := by
  cases e <;> first | exact rfl | exact trivial
noncomputable def EV.nm (v : EV) : Option Str := match v with
  | .name x _ => some x
  | _ => none
noncomputable def EV.cst (v : EV) : Option Const := match v with
  | .const x _ _ => some x
  | _ => none
structure CallV where
  f : Expr
  args : List Expr
  kws : List Keyword
  pos : Pos
noncomputable def EV.cal (v : EV) : Option CallV := match v with
  | .call f a k p => some ⟨f, a, k, p⟩
  | _ => none
structure AttrV where
  o : Expr
  a : Str
  pos : Pos
noncomputable def EV.att (v : EV) : Option AttrV := match v with
  | .attr o a p => some ⟨o, a, p⟩
  | _ => none
noncomputable def EV.subs (v : EV) : Option (Expr × Expr) := match v with
  | .sub v i _ => some (v, i)
  | _ => none
theorem EV.nm_ok {v : EV} {x : Str} {e : Expr} (b : v.back e) (h : v.nm = some x) : ∃ p, e = .Name x p := by
  cases v with
  | name y p => cases h; exact ⟨p, b⟩
  | _ => exact no h
theorem EV.cst_ok {v : EV} {x : Const} {e : Expr} (b : v.back e) (h : v.cst = some x) : ∃ k p, e = .Constant x k p := by
  cases v with
  | const y k p => cases h; exact ⟨k, p, b⟩
  | _ => exact no h
theorem EV.cal_ok {v : EV} {c : CallV} {e : Expr} (b : v.back e) (h : v.cal = some c) : e = .Call c.f c.args c.kws c.pos := by
  cases v with
  | call f a k p => cases h; exact b
  | _ => exact no h
theorem EV.att_ok {v : EV} {c : AttrV} {e : Expr} (b : v.back e) (h : v.att = some c) : e = .Attribute c.o c.a c.pos := by
  cases v with
  | attr f a k => cases h; exact b
  | _ => exact no h
theorem EV.subs_ok {v : EV} {c : Expr × Expr} {e : Expr} (b : v.back e) (h : v.subs = some c) : ∃ p, e = .Subscript c.1 c.2 p := by
  cases v with
  | sub f a k => cases h; exact ⟨k, b⟩
  | _ => exact no h
noncomputable def vName (e : Expr) : Option Str := (ev e).nm
noncomputable def vConst (e : Expr) : Option Const := (ev e).cst
noncomputable def vCall (e : Expr) : Option CallV := (ev e).cal
noncomputable def vAttr (e : Expr) : Option AttrV := (ev e).att
noncomputable def vSub (e : Expr) : Option (Expr × Expr) := (ev e).subs
theorem vName_ok {e : Expr} {x : Str} (h : vName e = some x) : ∃ p, e = .Name x p := (ev e).nm_ok (ev_back e) h
theorem vConst_ok {e : Expr} {x : Const} (h : vConst e = some x) : ∃ k p, e = .Constant x k p := (ev e).cst_ok (ev_back e) h
theorem vCall_ok {e : Expr} {c : CallV} (h : vCall e = some c) : e = .Call c.f c.args c.kws c.pos := (ev e).cal_ok (ev_back e) h
theorem vAttr_ok {e : Expr} {c : AttrV} (h : vAttr e = some c) : e = .Attribute c.o c.a c.pos := (ev e).att_ok (ev_back e) h
theorem vSub_ok {e : Expr} {c : Expr × Expr} (h : vSub e = some c) : ∃ p, e = .Subscript c.1 c.2 p := (ev e).subs_ok (ev_back e) h
noncomputable def cInt (c : Const) : Option Int := match c with
  | .int i => some i
  | _ => none
theorem cInt_ok {c : Const} {i : Int} (h : cInt c = some i) : c = .int i := by
  cases c with
  | int j => cases h; rfl
  | _ => exact no h
noncomputable def cStr (c : Const) : Option Str := match c with
  | .str i => some i
  | _ => none
theorem cStr_ok {c : Const} {i : Str} (h : cStr c = some i) : c = .str i := by
  cases c with
  | str j => cases h; rfl
  | _ => exact no h
noncomputable def cFalse (c : Const) : Bool := match c with
  | .bool b => !b
  | _ => false
theorem cFalse_ok {c : Const} (h : cFalse c = true) : c = .bool false := by
  cases c with
  | bool b => cases b with
    | false => rfl
    | true => cases h
  | _ => cases h
/-- v[:u] -/
noncomputable def EV.up (v : EV) : Option Int := match v with
  | .slice lo up st _ => grd (lo.isNone && st.isNone) (obd up fun c => obd (vConst c) cInt)
  | _ => none
noncomputable def vUp (e : Expr) : Option Int := (ev e).up
theorem EV.up_ok {v : EV} {e : Expr} {u : Int} (b : v.back e) (h : v.up = some u) : ∃ k p q, e = .Slice none (some (.Constant (.int u) k p)) none q := by
  cases v with
  | slice lo up st q =>
    refine grd_el h fun h1 h2 => obd_el h2 fun c e1 h3 => obd_el h3 fun c' h4 h5 => ?_
    obtain ⟨k, p, e2⟩ := vConst_ok h4
    rw [Bool.and_eq_true, Option.isNone_iff_eq_none, Option.isNone_iff_eq_none] at h1
    refine ⟨k, p, q, b.trans ?_⟩
    rw [h1.1, h1.2, e1, e2, cInt_ok h5]
  | _ => exact no h
theorem vUp_ok {e : Expr} {u : Int} (h : vUp e = some u) : ∃ k p q, e = .Slice none (some (.Constant (.int u) k p)) none q := (ev e).up_ok (ev_back e) h

/-- what a statement looks like -/
inductive SV where
  | expr (e : Expr) (p : Pos)
  | ret (v : Option Expr) (p : Pos)
  | asg (ts : List Expr) (v : Expr) (p : Pos)
  | pass (p : Pos)
  | other
noncomputable def sv (s : Stmt) : SV := match s with
  | .Expr e p => .expr e p
  | .Return v p => .ret v p
  | .Assign ts v p => .asg ts v p
  | .Pass p => .pass p
  | _ => .other
noncomputable def SV.back (v : SV) (s : Stmt) : Prop := match v with
  | .expr e p => s = .Expr e p
  | .ret v p => s = .Return v p
  | .asg ts v p => s = .Assign ts v p
  | .pass p => s = .Pass p
  | .other => True
theorem sv_back (s : Stmt) : (sv s).back s := by
  cases s <;> first | exact rfl | exact trivial
noncomputable def SV.ex (v : SV) : Option Expr := match v with
  | .expr e _ => some e
  | _ => none
noncomputable def SV.re (v : SV) : Option Expr := match v with
  | .ret e _ => e
  | _ => none
noncomputable def SV.pa (v : SV) : Bool := match v with
  | .pass _ => true
  | _ => false
theorem SV.ex_ok {v : SV} {s : Stmt} {e : Expr} (b : v.back s) (h : v.ex = some e) : ∃ p, s = .Expr e p := by
  cases v with
  | expr e p => cases h; exact ⟨p, b⟩
  | _ => exact no h
theorem SV.re_ok {v : SV} {s : Stmt} {e : Expr} (b : v.back s) (h : v.re = some e) : ∃ p, s = .Return (some e) p := by
  cases v with
  | ret v p => exact ⟨p, (show v = some e from h) ▸ b⟩
  | _ => exact no h
theorem SV.pa_ok {v : SV} {s : Stmt} (b : v.back s) (h : v.pa = true) : ∃ p, s = .Pass p := by
  cases v with
  | pass p => exact ⟨p, b⟩
  | _ => cases h

noncomputable def trList (f : Expr → Option E) (l : List Expr) : Option (List E) := match l with
  | [] => some []
  | e :: r => obd (f e) fun a => obd (trList f r) fun b => some (a :: b)

noncomputable def isSl (e : Expr) : Bool := match ev e with
  | .slice .. => true
  | _ => false
noncomputable def isStar (e : Expr) : Bool := match ev e with
  | .star => true
  | _ => false
noncomputable def isSetE (e : Expr) : Bool := match ev e with
  | .set => true
  | _ => false

noncomputable def unE (op : UnaryOp) (a : E) : Option E := match op with
  | .USub => some (.neg a)
  | .Not => some (.not a)
  | .Invert => some (.inv a)
  | _ => none
noncomputable def boolE (op : BoolOp) (es : List E) : E := match op with
  | .And => .all es
  | .Or => .any es
noncomputable def constE (c : Const) : Option E := match c with
  | .int i => some (.cint i)
  | .bool b => some (.cbool b)
  | .none => some .cnone
  | .str s => grd (Str.ofString s.toString == s) (some (.cstr s.toString))
  | _ => none
noncomputable def callE (g : E) (es : List E) : Option E := match g with
  | .glob g => some (if bnames.contains g then .bcall g es else .call (.glob g) es)
  | .loc g => some (.call (.loc g) es)
  | _ => none
noncomputable def globOk (k : Kinds) (x : Str) : Bool := nameOk x && k x == some .globalImplicit

noncomputable def trE : Nat → Kinds → Expr → Option E
  | 0, _, _ => none
  | n + 1, k, e => match e with
    | .Constant c _ _ => constE c
    | .Name x _ => trName k x
    | .BinOp l op r _ => obd (trE n k l) fun a => obd (trE n k r) fun b => some (.bin op a b)
    | .UnaryOp op x _ => obd (trE n k x) fun a => unE op a
    | .Compare l ops rs _ => obd (vOne ops) fun op => obd (vOne rs) fun r => grd (!isSetE r) (obd (trE n k l) fun a => obd (trE n k r) fun b => some (.cmp op a b))
    | .BoolOp op vs _ => grd (!vs.isEmpty) (obd (trList (trE n k) vs) fun es => some (boolE op es))
    | .IfExp t b o _ => obd (trE n k t) fun t => obd (trE n k b) fun b => obd (trE n k o) fun o => some (.ite t b o)
    | .Call f args kws _ => grd (kws.isEmpty && (!args.any isStar && !args.isEmpty)) (obd (vName f) fun x => obd (trName k x) fun g => obd (trList (trE n k) args) fun es => callE g es)
    | .Attribute o a _ => obd (vName o) fun x => grd (nameOk x && (isLoc k x && Str.ofString a.toString == a)) (some (.attr x.toString a.toString))
    | .Subscript v i _ => if isSl i then obd (vUp i) fun u => obd (trE n k v) fun a => some (.upto a u) else obd (trE n k v) fun a => obd (trE n k i) fun b => some (.sub a b)
    | .Tuple es _ _ => grd (!es.any isStar && !decide (1000 < es.length)) (obd (trList (trE n k) es) fun xs => some (.tup xs))
    | .List es _ => grd (!es.any isStar && !decide (1000 < es.length)) (obd (trList (trE n k) es) fun xs => some (.lst xs))
    | .Dict ks vs _ => obd (vOne ks) fun ke => obd ke fun ke => obd (vName ke) fun x => obd (vOne vs) fun v => obd (vName v) fun y => grd (globOk k x && globOk k y) (some (.dct (.glob x.toString) (.glob y.toString)))
    | .ListComp elt gens sc _ => obd (vOne gens) fun g => obd (vName g.target) fun x => grd (g.is_async == 0 && (compOk k sc x && (sc.names.lookup x == some .local && (nameOk x && !isSetE g.iter))))
        (obd (trE n (fun y => sc.names.lookup y) elt) fun a => obd (trE n k g.iter) fun b => obd (trList (trE n fun y => sc.names.lookup y) g.ifs) fun cs => grd (decide (cs.length ≤ 1)) (some (.comp a x.toString b cs)))
    | _ => none
where
  /-- the block's own names: the target alone (and .0) are local; what is free is a cell outside -/
  compOk (k : Kinds) (sc : Scope) (x : Str) : Bool :=
    sc.kind == .function && sc.names.all (fun p => p.2 != .cell) &&
    sc.names.all (fun p => p.2 != .local || ((p.1 == x || p.1 == (".0" : Str)) && sc.names.lookup p.1 == some .local)) &&
    sc.names.all (fun p => p.2 != .free || (k p.1 == some .cell && sc.names.lookup p.1 == some .free && p.1 != (".0" : Str))) &&
    !sc.isGenerator && !sc.isCoroutine

noncomputable def noDup : List String → Bool
  | [] => true
  | x :: r => !r.contains x && noDup r

noncomputable def trT (n : Nat) (k : Kinds) (t : Expr) : Option T := match t with
  | .Name x _ => obd (trLoc k x) fun y => some (.name y)
  | .Tuple es _ _ => obd (names es) fun xs => grd (noDup xs) (some (.tup xs))
  | .Subscript v i _ => grd (!isSl i) (obd (trE n k v) fun a => obd (trE n k i) fun b => some (.sub a b))
  | .Attribute o a _ => obd (vName o) fun x => grd (nameOk x && (isLoc k x && Str.ofString a.toString == a)) (some (.attr x.toString a.toString))
  | _ => none
where
  names (l : List Expr) : Option (List String) := match l with
    | [] => some []
    | e :: r => obd (vName e) fun x => obd (trLoc k x) fun a => obd (names r) fun b => some (a :: b)

noncomputable def isListComp (e : Expr) : Bool := match ev e with
  | .comp => true
  | _ => false

/-- what append is called on -/
noncomputable def notSuper (e : Expr) : Bool := match ev e with
  | .name .. => true
  | .attr .. => true
  | .sub .. => true
  | _ => false

noncomputable def isNameE (e : Expr) : Bool := match ev e with
  | .name .. => true
  | _ => false
noncomputable def isTupE (e : Expr) : Bool := match ev e with
  | .tup _ => true
  | _ => false

/-- a display of constants alone -/
noncomputable def constTup (e : Expr) : Bool := match ev e with
  | .tup vs => vs.all (constantsAlone 8)
  | _ => false

structure TryV where
  x : Str
  args : List Expr
  c : Str
/-- try: f(args); return False / except C: pass -/
noncomputable def vTry (b : List Stmt) (hs : List ExceptHandler) : Option TryV := match b with
  | [] => none
  | s1 :: b' => obd (vOne b') fun s2 => obd (sv s1).ex fun e1 => obd (vCall e1) fun q => obd (vName q.f) fun x => obd (sv s2).re fun r => obd (vConst r) fun cf => obd (vOne hs) fun h => (match h with
    | .ExceptHandler te nm body _ => obd te fun te => obd (vName te) fun c => obd (vOne body) fun ps => grd (q.kws.isEmpty && (cFalse cf && (nm.isNone && (sv ps).pa))) (some ⟨x, q.args, c⟩))
theorem vTry_ok {b : List Stmt} {hs : List ExceptHandler} {v : TryV} (h : vTry b hs = some v) : ∃ np callp ep kd vp rp cp pp hp,
    b = [.Expr (.Call (.Name v.x np) v.args [] callp) ep, .Return (some (.Constant (.bool false) kd vp)) rp] ∧ hs = [.ExceptHandler (some (.Name v.c cp)) none [.Pass pp] hp] := by
  cases b with
  | nil => exact no h
  | cons s1 b' =>
    refine obd_el h fun s2 h1 h => obd_el h fun e1 h2 h => obd_el h fun q h3 h => obd_el h fun x h4 h => obd_el h fun r h5 h => obd_el h fun cf h6 h => obd_el h fun hd h7 h => ?_
    cases hd with
    | ExceptHandler te nm body hp =>
      refine obd_el h fun te' h8 h => obd_el h fun c h9 h => obd_el h fun ps ha h => grd_el h fun hb h => ?_
      rw [Bool.and_eq_true, Bool.and_eq_true, Bool.and_eq_true] at hb
      have e1' := vOne_ok h1
      obtain ⟨p1, e2⟩ := SV.ex_ok (sv_back s1) h2
      have e3 := vCall_ok h3
      obtain ⟨p2, e4⟩ := vName_ok h4
      obtain ⟨p3, e5⟩ := SV.re_ok (sv_back s2) h5
      obtain ⟨p4, p5, e6⟩ := vConst_ok h6
      obtain ⟨p6, e9⟩ := vName_ok h9
      obtain ⟨p7, eb⟩ := SV.pa_ok (sv_back ps) hb.2.2.2
      refine ⟨p2, q.pos, p1, p4, p5, p3, p6, p7, hp, ?_, ?_⟩
      · rw [e1', e2, e3, e4, e5, e6, List.isEmpty_iff.mp hb.1, cFalse_ok hb.2.1, ← Option.some.inj h]
      · rw [vOne_ok h7, h8, e9, vOne_ok ha, eb, Option.isNone_iff_eq_none.mp hb.2.2.1, ← Option.some.inj h]

structure MethV where
  o : Expr
  m : Str
  apos : Pos
  args : List Expr
  kws : List Keyword
  pos : Pos
noncomputable def vMeth (e : Expr) : Option MethV := obd (vCall e) fun q => obd (vAttr q.f) fun a => some ⟨a.o, a.a, a.pos, q.args, q.kws, q.pos⟩
theorem vMeth_ok {e : Expr} {c : MethV} (h : vMeth e = some c) : e = .Call (.Attribute c.o c.m c.apos) c.args c.kws c.pos := by
  refine obd_el h fun q h1 h => obd_el h fun a h2 h => ?_
  rw [vCall_ok h1, vAttr_ok h2, ← Option.some.inj h]
noncomputable def raiseV (k : Kinds) (e c : Option Expr) : Option S := grd c.isNone (obd e fun r => obd (vCall r) fun q => obd (vName q.f) fun x => obd (vOne q.args) fun a => obd (vConst a) fun ct => obd (cStr ct) fun m =>
  grd (q.kws.isEmpty && (nameOk x && (k x == some .globalImplicit && Str.ofString m.toString == m))) (some (.raise x.toString m.toString)))

mutual
noncomputable def trS : Nat → Kinds → Stmt → Option S
  | 0, _, _ => none
  | n + 1, k, s => match s with
    | .Assign ts v _ => obd (vOne ts) fun t => grd (!((isTupE t && constTup v) || (isListComp v && !isNameE t))) (obd (trT n k t) fun a => obd (trE n k v) fun b => some (.assign a b))
    | .AugAssign t op v _ => if isNameE t then obd (vName t) fun x => obd (trLoc k x) fun a => obd (trE n k v) fun b => some (.aug a op b)
        else obd (vSub t) fun p => grd (!isSl p.2) (obd (trE n k p.1) fun a => obd (trE n k p.2) fun i => obd (trE n k v) fun b => some (.augsub a i op b))
    | .Expr e _ => if (vMeth e).isSome then obd (vMeth e) fun c => grd (c.m == ("append" : Str) && (c.kws.isEmpty && (!c.args.any isStar && (notSuper c.o && c.apos.endLine == c.pos.line)))) (obd (vOne c.args) fun x => obd (trE n k c.o) fun a => obd (trE n k x) fun b => some (.append a b))
        else grd (!isListComp e) (obd (trE n k e) fun a => some (.expr a))
    | .If t b o _ => obd (trE n k t) fun t => obd (trSs n k b) fun b => obd (trSs n k o) fun o => some (.ite t b o)
    | .For t it b o _ => grd (!isSetE it && o.isEmpty) (obd (trT n k t) fun t => obd (trE n k it) fun e => obd (trSs n k b) fun b => some (.for t e b))
    | .While t b o _ => grd o.isEmpty (obd (trE n k t) fun t => obd (trSs n k b) fun b => some (.while t b))
    | .Return v _ => obd v fun e => obd (trE n k e) fun a => some (.ret a)
    | .Pass _ => some .pass
    | .Continue _ => some .cont
    | .Raise e c _ => raiseV k e c
    | .Try b hs o f _ => grd (o.isEmpty && f.isEmpty) (obd (vTry b hs) fun v => grd (!v.args.any isStar && (!v.args.isEmpty && globOk k v.c)) (obd (trName k v.x) fun g => obd (trList (trE n k) v.args) fun es => (match g with
        | .loc g => some (.try (.loc g) es v.c.toString)
        | _ => none)))
    | _ => none
noncomputable def trSs : Nat → Kinds → List Stmt → Option (List S)
  | 0, _, _ => none
  | n + 1, k, l => match l with
    | [] => some []
    | s :: r => obd (trS n k s) fun a => obd (trSs n k r) fun b => some (a :: b)
end

end Mine

end

section
open PySem PySem.W PyProof.Rows
set_option linter.unusedVariables false
set_option tactic.hygienic false
namespace Mine

noncomputable def ob {α : Type} (o : Option α) (f : α → Prop) : Prop := match o with
  | some a => f a
  | none => False
theorem ob_el {α : Type} {o : Option α} {f : α → Prop} {G : Prop} (h : ob o f) (k : ∀ a, o = some a → f a → G) : G := by
  cases o with
  | none => exact h.elim
  | some a => exact k a rfl h
theorem ob_i {α : Type} {o : Option α} {f : α → Prop} {a : α} (h : o = some a) (q : f a) : ob o f := by rw [h]; exact q
noncomputable def chk (c : Bool) (p : Prop) : Prop := match c with
  | true => p
  | false => False
theorem chk_el {c : Bool} {p G : Prop} (h : chk c p) (k : c = true → p → G) : G := by
  cases c with
  | false => exact h.elim
  | true => exact k rfl h
theorem chk_i {c : Bool} {p : Prop} (h : c = true) (q : p) : chk c p := by rw [h]; exact q
noncomputable def natP (n : Nat) (f : Nat → Prop) : Prop := match n with
  | k + 1 => f k
  | 0 => False
theorem natP_el {n : Nat} {f : Nat → Prop} {G : Prop} (h : natP n f) (k : ∀ k, n = k + 1 → f k → G) : G := by
  cases n with
  | zero => exact h.elim
  | succ n => exact k n rfl h

structure Room (A : Around) (n : Nat) : Prop where
  handled : A.handled = none
  depth : A.depth + n + 60 < recursionLimit
  units : A.units + 4 * n + 200 < cLine

/-- no frame at hand -/
noncomputable def noEx : Addr → Prop := fun _ => False

noncomputable def frAt (fr : List Env) : List Addr := fr.filterMap (·.frame)

/-- an exception of the class BadTable is at hand; the store that is left fits X -/
inductive ExcG (W : Heap → List Env → Addr → Value → Value → Heap → Prop) (C : Ctx) (fr : List Env) (X : Store → Prop) (ex : Addr → Prop) (ρ : List Addr) (s : Shared) (e : Value) (s' : Shared) : Prop
  | mk (σ' : Store) (ρ' : List Addr) (ea : Addr) (a0 : Value) (Bx : Heap) (K : Addr) (h1 : X σ') (h2 : e = .ref ea) (h3 : C.fnv "BadTable" = some (.ref K)) (h4 : W Bx fr ea (.ref K) a0 s'.heap) (h5 : SR C σ' ρ' Bx)
    (h6 : s'.gens = s.gens) (h7 : s'.os = s.os) (h8 : ∀ (i : Nat) (a : Addr), ρ[i]? = some a → ρ'[i]? = some a) (h9 : ∀ a, a ∈ ρ' → a ∉ ρ → s.heap.get? a = none ∧ ¬ ex a)
    (h10 : ∀ b o, s.heap.get? b = some o → b ∉ ρ → ¬ ex b → b ∉ frAt fr → Kept C b o Bx)
    (h11 : ∀ L o, L ∈ frAt fr → ¬ ex L → s.heap.get? L = some o → ∃ sl, s'.heap.get? L = some { o with slots := sl }) : ExcG W C fr X ex ρ s e s'

/-- it flies -/
abbrev ExcP := ExcG Heap.FlyingW
/-- it is made, and nobody has noted it yet -/
noncomputable def MadeW (base : Heap) (l : List Env) (e : Addr) (cls a0 : Value) (h : Heap) : Prop :=
  base.StaysIn h ∧ base.get? e = none ∧ h.FunFrames base l ∧ ∃ oe vs, h.get? e = some oe ∧ oe.cls = cls ∧ oe.data = .fields vs ∧ vs[1]? = some .none ∧ vs[0]? = some a0

theorem ExcG.after {W : Heap → List Env → Addr → Value → Value → Heap → Prop} {C : Ctx} {fr : List Env} {X : Store → Prop} {ex : Addr → Prop} {ρ ρ₁ : List Addr} {s s₁ s' : Shared} {e : Value}
    (x : ExcG W C fr X ex ρ₁ s₁ e s') (p : Post C ex ρ ρ₁ s s₁) (hfr : FrOk C ρ s.heap fr) : ExcG W C fr X ex ρ s e s' := by
  obtain ⟨σ', ρ', ea, a0, Bx, K, h1, h2, h3, h4, h5, h6, h7, h8, h9, h10, h11⟩ := x
  have low : ∀ b o, s.heap.get? b = some o → b ∉ ρ → b ∉ ρ₁ := fun b o e h hb => by
    have := (p.fresh b hb h).1; rw [e] at this; cases this
  refine ⟨σ', ρ', ea, a0, Bx, K, h1, h2, h3, h4, h5, h6.trans p.gens, h7.trans p.os, fun i a e => h8 i a (p.pre i a e), fun a ha hn => ?_, fun b o e h1 h2 h3 => ?_, fun L o hL h1 e => ?_⟩
  · by_cases hq : a ∈ ρ₁
    · exact p.fresh a hq hn
    · obtain ⟨f1, f2⟩ := h9 a ha hq
      refine ⟨?_, f2⟩
      cases q : s.heap.get? a with
      | none => rfl
      | some o => exact ((p.keep a o q hn f2).not_none f1).elim
  · exact (p.keep b o e h1 h2).trans fun o₁ e₁ => h10 b o₁ e₁ (low b o e h1) h2 h3
  · obtain ⟨env, he, hf⟩ := List.mem_filterMap.mp hL
    obtain ⟨_, L', o', a1, _, a3, _, a5⟩ := hfr env he
    obtain rfl : L' = L := Option.some.inj (a1.symm.trans hf)
    obtain ⟨sl, e'⟩ := (p.keep L' o e a5 h1).there
    obtain ⟨sl', e''⟩ := h11 L' _ hL h1 e'
    exact ⟨sl', e''⟩

theorem ExcG.mono {W : Heap → List Env → Addr → Value → Value → Heap → Prop} {C : Ctx} {fr : List Env} {X X' : Store → Prop} {ex : Addr → Prop} {ρ : List Addr} {s s' : Shared} {e : Value}
    (x : ExcG W C fr X ex ρ s e s') (h : ∀ σ, X σ → X' σ) : ExcG W C fr X' ex ρ s e s' := by
  obtain ⟨σ', ρ', ea, a0, Bx, K, h1, h2, h3, h4, h5, h6, h7, h8, h9, h10, h11⟩ := x
  exact ⟨σ', ρ', ea, a0, Bx, K, h _ h1, h2, h3, h4, h5, h6, h7, h8, h9, h10, h11⟩

/-- what a call leaves -/
inductive PC (C : Ctx) (ρ : List Addr) (s : Shared) (Q : V → Store → Prop) (r : Value) (s' : Shared) : Prop
  | mk (v : V) (σ' : Store) (ρ' : List Addr) (q : Q v σ') (hv : VR C ρ' s'.heap v r) (sr : SR C σ' ρ' s'.heap) (p : Post C noEx ρ ρ' s s') : PC C ρ s Q r s'
/-- a call of the global f on abstract values -/
noncomputable def SemCall (C : Ctx) (n : Nat) (f : String) (vs : List V) (σ : Store) (Q : V → Store → Prop) (X : Store → Prop) : Prop :=
  ∀ (A : Around) (fr : List Env) (ρ : List Addr) (s : Shared) (c : Value) (cs : List Value),
    Room A n → A.frames = some fr → FrOk C ρ s.heap fr → SR C σ ρ s.heap → VRs C ρ s.heap vs cs → C.fnv f = some c →
    wpAny (model C.prog C.w) A (call c cs)
      (PC C ρ s Q)
      (ExcP C fr X noEx ρ s) s

theorem SemCall.mono {C : Ctx} {n : Nat} {f : String} {vs : List V} {σ : Store} {Q Q' : V → Store → Prop} {X X' : Store → Prop} (h : SemCall C n f vs σ Q X)
    (hQ : ∀ v σ', Q v σ' → Q' v σ') (hX : ∀ σ', X σ' → X' σ') : SemCall C n f vs σ Q' X' := fun A fr ρ s c cs h1 h2 h3 h4 h5 h6 =>
  wpAny_mono (h A fr ρ s c cs h1 h2 h3 h4 h5 h6) (fun r s' x => by obtain ⟨v, σ', ρ', a, b, d, e⟩ := x; exact ⟨v, σ', ρ', hQ _ _ a, b, d, e⟩) fun e s' x => x.mono hX

noncomputable def intV (v : V) : Option Int := match v with
  | .int i => some i
  | _ => none
noncomputable def boolV (v : V) : Option Bool := match v with
  | .bool i => some i
  | _ => none
noncomputable def tupV (v : V) : Option (List V) := match v with
  | .tup i => some i
  | _ => none
noncomputable def refV (v : V) : Option Nat := match v with
  | .ref i => some i
  | _ => none
noncomputable def fnV (v : V) : Option String := match v with
  | .fn i => some i
  | _ => none
theorem intV_ok {v : V} {i : Int} (h : intV v = some i) : v = .int i := by
  cases v with
  | int j => rw [Option.some.inj h]
  | _ => exact no h
theorem boolV_ok {v : V} {i : Bool} (h : boolV v = some i) : v = .bool i := by
  cases v with
  | bool j => rw [Option.some.inj h]
  | _ => exact no h
theorem tupV_ok {v : V} {i : List V} (h : tupV v = some i) : v = .tup i := by
  cases v with
  | tup j => rw [Option.some.inj h]
  | _ => exact no h
theorem refV_ok {v : V} {i : Nat} (h : refV v = some i) : v = .ref i := by
  cases v with
  | ref j => rw [Option.some.inj h]
  | _ => exact no h
theorem fnV_ok {v : V} {i : String} (h : fnV v = some i) : v = .fn i := by
  cases v with
  | fn j => rw [Option.some.inj h]
  | _ => exact no h
noncomputable def lstO (o : AObj) : Option (List V) := match o with
  | .list xs => some xs
  | _ => none
noncomputable def listAt (σ : Store) (i : Nat) : Option (List V) := obd σ[i]? lstO
theorem lstO_ok {o : AObj} {xs : List V} (h : lstO o = some xs) : o = .list xs := by
  cases o with
  | list j => rw [Option.some.inj h]
  | _ => exact no h
theorem listAt_ok {σ : Store} {i : Nat} {xs : List V} (h : listAt σ i = some xs) : σ[i]? = some (.list xs) :=
  obd_el h fun o h1 h2 => by rw [h1, lstO_ok h2]
theorem listAt_of {σ : Store} {i : Nat} {xs : List V} (h : σ[i]? = some (.list xs)) : listAt σ i = some xs := by unfold listAt; rw [h]; rfl

/-- ints of a list of values -/
noncomputable def intsOf (l : List V) : Option (List Int) := match l with
  | [] => some []
  | v :: r => obd (intV v) fun i => obd (intsOf r) fun l => some (i :: l)
theorem intsOf_map (l : List Int) : intsOf (l.map .int) = some l := by
  induction l with
  | nil => rfl
  | cons a r ih => show obd (intsOf (r.map .int)) _ = _; rw [ih]; rfl
theorem intsOf_eq {xs : List V} : ∀ {l : List Int}, intsOf xs = some l → xs = l.map .int := by
  induction xs with
  | nil => intro l h; rw [← Option.some.inj h]; rfl
  | cons v r ih =>
    intro l h
    refine obd_el h fun i h1 h => obd_el h fun l' h2 h => ?_
    rw [← Option.some.inj h, intV_ok h1, ih h2]; rfl

noncomputable def eqV (σ : Store) (v w : V) : Option Bool := match v with
  | .int a => obd (intV w) fun b => some (decide (a = b))
  | .bool a => obd (boolV w) fun b => some (decide (a = b))
  | .tup xs => obd (tupV w) fun ys => obd (intsOf xs) fun a => obd (intsOf ys) fun b => some (decide (a = b))
  | .ref i => obd (refV w) fun j => obd (listAt σ i) fun xs => obd (listAt σ j) fun ys => if ys.isEmpty then some xs.isEmpty else obd (intsOf xs) fun a => obd (intsOf ys) fun b => some (decide (a = b))
  | _ => none

noncomputable def neV (σ : Store) (v w : V) : Option Bool := match v with
  | .int a => obd (intV w) fun b => some (!decide (a = b))
  | .bool a => obd (boolV w) fun b => some (!decide (a = b))
  | .ref i => obd (refV w) fun j => obd (listAt σ i) fun xs => obd (listAt σ j) fun ys => obd (intsOf xs) fun a => obd (intsOf ys) fun b => some (!decide (a = b))
  | _ => none

noncomputable def truthV (v : V) : Option Bool := match v with
  | .bool b => some b
  | .int i => some (decide (i ≠ 0))
  | _ => none

noncomputable def isNoneV (v : V) : Option Bool := match v with
  | .none => some true
  | .tup _ => some false
  | .int _ => some false
  | .ref _ => some false
  | _ => none

noncomputable def memV (σ : Store) (a : Int) (v : V) : Option Bool := match v with
  | .tup xs => obd (intsOf xs) fun l => some (decide (a ∈ l))
  | .ref i => obd (listAt σ i) fun xs => obd (intsOf xs) fun l => some (decide (a ∈ l))
  | _ => none
noncomputable def isV (v w : V) : Option Bool := match w with
  | .none => isNoneV v
  | _ => none

noncomputable def cmpV (σ : Store) (op : CmpOp) (v w : V) : Option Bool := match op with
  | .Eq => eqV σ v w
  | .NotEq => neV σ v w
  | .Lt => obd (intV v) fun a => obd (intV w) fun b => some (decide (a < b))
  | .LtE => obd (intV v) fun a => obd (intV w) fun b => some (decide (a ≤ b))
  | .Gt => obd (intV v) fun a => obd (intV w) fun b => some (decide (b < a))
  | .GtE => obd (intV v) fun a => obd (intV w) fun b => some (decide (b ≤ a))
  | .Is => isV v w
  | .In => obd (intV v) fun a => memV σ a w
  | .NotIn => obd (intV v) fun a => obd (memV σ a w) fun r => some (!r)
  | _ => none

/-- an operator; Q takes the value and the store behind it -/
noncomputable def wpBinI (op : Operator) (a b : Int) (σ : Store) (Q : V → Store → Prop) : Prop := match op with
  | .Add => Q (.int (a + b)) σ
  | .Sub => Q (.int (a - b)) σ
  | .Mult => (a.natAbs < 2 ^ 64 ∨ b.natAbs < 2 ^ 64) ∧ Q (.int (a * b)) σ
  | .FloorDiv => (0 < b ∧ b < 1073741824) ∧ Q (.int (a / b)) σ
  | .Mod => (0 < b ∧ b < 1073741824) ∧ Q (.int (a % b)) σ
  | .Pow => (0 ≤ b ∧ b ≤ 1000000 ∧ a.natAbs < 2 ^ 64) ∧ Q (.int (a ^ b.toNat)) σ
  | .LShift => (0 ≤ b ∧ b ≤ 1000000 ∧ a.natAbs < 2 ^ 64) ∧ Q (.int (a * 2 ^ b.toNat)) σ
  | .RShift => chk (decide (0 ≤ b)) (Q (.int (a / 2 ^ b.toNat)) σ)
  | .BitAnd => Q (.int (Builtin.bitAnd a b)) σ
  | .BitOr => Q (.int (Builtin.bitOr a b)) σ
  | .BitXor => Q (.int (Builtin.bitXor a b)) σ
  | _ => False
noncomputable def wpMulL (op : Operator) (i : Nat) (n : Int) (σ : Store) (Q : V → Store → Prop) : Prop := match op with
  | .Mult => ob (obd (listAt σ i) vOne) fun x => (0 ≤ n ∧ n ≤ 1000000) ∧ Q (.ref σ.length) (σ ++ [.list (List.replicate n.toNat x)])
  | _ => False
noncomputable def wpAddL (op : Operator) (i j : Nat) (σ : Store) (Q : V → Store → Prop) : Prop := match op with
  | .Add => ob (listAt σ i) fun xs => ob (listAt σ j) fun ys => xs.length + ys.length ≤ 1000000 ∧ Q (.ref σ.length) (σ ++ [.list (xs ++ ys)])
  | _ => False
noncomputable def wpBin (op : Operator) (v w : V) (σ : Store) (Q : V → Store → Prop) : Prop := match v with
  | .int a => (match w with
    | .int b => wpBinI op a b σ Q
    | _ => False)
  | .ref i => (match w with
    | .int n => wpMulL op i n σ Q
    | .ref j => wpAddL op i j σ Q
    | _ => False)
  | _ => False

/-- an operator in place: numbers alone -/
noncomputable def wpAug (op : Operator) (v w : V) (Q : V → Prop) : Prop := match op with
  | .Add => ob (intV v) fun a => ob (intV w) fun b => Q (.int (a + b))
  | .Sub => ob (intV v) fun a => ob (intV w) fun b => Q (.int (a - b))
  | .BitOr => ob (intV v) fun a => ob (intV w) fun b => Q (.int (Builtin.bitOr a b))
  | _ => False

noncomputable def fitIx (k : Int) (n : Nat) : Prop := 0 ≤ k ∧ k < n ∧ k < 2 ^ 63

/-- a[i] -/
noncomputable def ixOk (k : Int) : Bool := match k with
  | .ofNat n => Nat.ble n 1000000
  | .negSucc _ => false
theorem ixOk_ok {k : Int} (h : ixOk k = true) : 0 ≤ k ∧ k < 2 ^ 63 := by
  cases k with
  | ofNat n => exact ⟨Int.natCast_nonneg n, Int.lt_of_le_of_lt (Int.ofNat_le.mpr (Nat.le_of_ble_eq_true h)) (by decide)⟩
  | negSucc => exact noB h
noncomputable def wpAt {α : Type} (xs : List α) (k : Int) (Q : α → Prop) : Prop := chk (ixOk k) (ob xs[k.toNat]? Q)
noncomputable def wpItemO (o : AObj) (k : Int) (Q : V → Prop) : Prop := match o with
  | .list xs => wpAt xs k Q
  | .dict f _ => ob (f k) Q
  | _ => False
noncomputable def wpItemV (v : V) (k : Int) (σ : Store) (Q : V → Prop) : Prop := match v with
  | .tup xs => wpAt xs k Q
  | .script ns => wpAt ns k fun x => Q (.int x)
  | .ref i => ob σ[i]? fun o => wpItemO o k Q
  | _ => False
noncomputable def wpItem (v w : V) (σ : Store) (Q : V → Prop) : Prop := ob (intV w) fun k => wpItemV v k σ Q

noncomputable def wpUpto (v : V) (k : Int) (σ : Store) (Q : V → Store → Prop) : Prop := match v with
  | .tup xs => chk (decide (0 ≤ k)) (k < xs.length ∧ xs.length < 1000000 ∧ Q (.tup (xs.take k.toNat)) σ)
  | .ref i => ob (listAt σ i) fun xs => chk (decide (0 ≤ k)) (k < 1000000 ∧ xs.length < 1000000 ∧ Q (.ref σ.length) (σ ++ [.list (xs.take k.toNat)]))
  | _ => False

noncomputable def isFnV (v : V) : Bool := match v with
  | .fn _ => true
  | _ => false
noncomputable def instO (o : AObj) : Option Nat := match o with
  | .inst c d => grd (c == "Geometry") (some d)
  | _ => none
noncomputable def nsO (o : AObj) : Option (String → Option V) := match o with
  | .ns f => some f
  | _ => none
theorem instO_ok {o : AObj} {d : Nat} (h : instO o = some d) : o = .inst "Geometry" d := by
  cases o with
  | inst c d => exact grd_el h fun h1 h2 => by rw [beq_iff_eq.mp h1, Option.some.inj h2]
  | _ => exact no h
theorem nsO_ok {o : AObj} {f : String → Option V} (h : nsO o = some f) : o = .ns f := by
  cases o with
  | ns f => rw [Option.some.inj h]
  | _ => exact no h
/-- an own object's address of fields, and the fields -/
noncomputable def geoAt (σ : Store) (v : V) : Option (Nat × (String → Option V)) := obd (refV v) fun i => obd σ[i]? fun o => obd (instO o) fun d => obd σ[d]? fun o => obd (nsO o) fun f => some (d, f)
noncomputable def wpAttr (v : V) (n : String) (σ : Store) (Q : V → Prop) : Prop := ob (geoAt σ v) fun p => chk (geoAttrs.contains n) (ob (p.2 n) fun x => chk (!isFnV x) (Q x))

noncomputable def rngList (a b c : Int) : List Int := (List.range (Builtin.Range.rangeSize a b c).toNat).map fun (i : Nat) => a + (i : Int) * c

noncomputable def srcItems (σ : Store) (v : V) : Option (List V) := match v with
  | .rng a b c => some ((rngList a b c).map .int)
  | .tup xs => some xs
  | .ref i => listAt σ i
  | _ => none

/-- the built-in functions -/
inductive WB (σ : Store) (Q : V → Store → Prop) : String → List V → Prop
  | lenT {xs : List V} (h : xs.length < 1000000) (q : Q (.int xs.length) σ) : WB σ Q "len" [.tup xs]
  | lenS {ns : List Int} (h : ns.length < 1000000) (q : Q (.int ns.length) σ) : WB σ Q "len" [.script ns]
  | lenL {i : Nat} {xs : List V} (ho : σ[i]? = some (.list xs)) (h : xs.length < 1000000) (q : Q (.int xs.length) σ) : WB σ Q "len" [.ref i]
  | abs {a : Int} (q : Q (.int a.natAbs) σ) : WB σ Q "abs" [.int a]
  | max2 {a b : Int} (q : Q (.int (max a b)) σ) : WB σ Q "max" [.int a, .int b]
  | maxT {xs : List V} {l : List Int} (h1 : intsOf xs = some l) (h2 : l ≠ []) (q : ∀ M, M ∈ l → (∀ a ∈ l, a ≤ M) → Q (.int M) σ) : WB σ Q "max" [.tup xs]
  | maxL {i : Nat} {xs : List V} {l : List Int} (ho : σ[i]? = some (.list xs)) (h1 : intsOf xs = some l) (h2 : l ≠ []) (q : ∀ M, M ∈ l → (∀ a ∈ l, a ≤ M) → Q (.int M) σ) : WB σ Q "max" [.ref i]
  | minL {i : Nat} {xs : List V} {l : List Int} (ho : σ[i]? = some (.list xs)) (h1 : intsOf xs = some l) (h2 : l ≠ []) (q : ∀ M, M ∈ l → (∀ a ∈ l, M ≤ a) → Q (.int M) σ) : WB σ Q "min" [.ref i]
  | sumL {i : Nat} {xs : List V} {l : List Int} (ho : σ[i]? = some (.list xs)) (h1 : intsOf xs = some l) (q : Q (.int l.sum) σ) : WB σ Q "sum" [.ref i]
  | sort2 {i : Nat} {a b : Int} (ho : σ[i]? = some (.list [.int a, .int b])) (q : Q (.ref σ.length) (σ ++ [.list (if b < a then [.int b, .int a] else [.int a, .int b])])) : WB σ Q "sorted" [.ref i]
  | listR {a b : Int} (h : 0 ≤ a ∧ a < 1000000 ∧ 0 ≤ b ∧ b < 1000000) (q : Q (.ref σ.length) (σ ++ [.list ((rngList a b 1).map .int)])) : WB σ Q "list" [.rng a b 1]
  | range1 {b : Int} (h : b.natAbs < 2 ^ 40) (q : Q (.rng 0 b 1) σ) : WB σ Q "range" [.int b]
  | range2 {a b : Int} (h : a.natAbs < 2 ^ 40 ∧ b.natAbs < 2 ^ 40) (q : Q (.rng a b 1) σ) : WB σ Q "range" [.int a, .int b]
  | range3 {a b c : Int} (h : c = -1 ∧ Builtin.Range.small a b c = true) (q : Q (.rng a b c) σ) : WB σ Q "range" [.int a, .int b, .int c]
noncomputable def wpB (f : String) (vs : List V) (σ : Store) (Q : V → Store → Prop) : Prop := WB σ Q f vs

abbrev Loc := String → Option V
noncomputable def upd (m : Loc) (x : String) (v : V) : Loc := fun y => if y = x then some v else m y
noncomputable def clr (m : Loc) (x : String) : Loc := fun y => if y = x then none else m y

/-- a comprehension's turns over what is left; acc: what has been taken -/
noncomputable def compW (src : V) (items : List V) (x : String) (conds : Loc → Store → (Bool → Store → Prop) → Prop) (elt : Loc → Store → (V → Store → Prop) → Prop) :
    List V → List V → Loc → Store → (List V → Store → Prop) → Prop
  | [], acc, m, σ, Q => srcItems σ src = some items ∧ Q acc σ
  | v :: r, acc, m, σ, Q => srcItems σ src = some items ∧ conds (upd m x v) σ fun b σ₁ =>
      if b then elt (upd m x v) σ₁ fun y σ₂ => compW src items x conds elt r (acc ++ [y]) (upd m x v) σ₂ Q
      else compW src items x conds elt r acc (upd m x v) σ₁ Q

noncomputable def truthQ (Q : Bool → Store → Prop) (v : V) (σ : Store) : Prop := ob (truthV v) fun b => Q b σ

section
variable (C : Ctx) (n : Nat)

mutual
noncomputable def wpE (X : Store → Prop) : E → Loc → Store → (V → Store → Prop) → Prop
  | .cint i, _, σ, Q => Q (.int i) σ
  | .cbool b, _, σ, Q => Q (.bool b) σ
  | .cnone, _, σ, Q => Q .none σ
  | .cstr x, _, σ, Q => Q (.str x) σ
  | .loc x, m, σ, Q => ob (m x) fun v => Q v σ
  | .glob x, _, σ, Q => ob (glbTab x) fun v => Q v σ
  | .bin op a b, m, σ, Q => wpE X a m σ fun va σ₁ => wpE X b m σ₁ fun vb σ₂ => wpBin op va vb σ₂ Q
  | .neg a, m, σ, Q => wpE X a m σ fun va σ₁ => ob (intV va) fun i => Q (.int (-i)) σ₁
  | .inv a, m, σ, Q => wpE X a m σ fun va σ₁ => ob (intV va) fun i => Q (.int (Builtin.bitNot i)) σ₁
  | .not a, m, σ, Q => wpE X a m σ fun va σ₁ => ob (truthV va) fun b => Q (.bool (!b)) σ₁
  | .cmp op a b, m, σ, Q => wpE X a m σ fun va σ₁ => wpE X b m σ₁ fun vb σ₂ => ob (cmpV σ₂ op va vb) fun r => Q (.bool r) σ₂
  | .all es, m, σ, Q => wpAll X es m σ Q
  | .any es, m, σ, Q => wpAnyL X es m σ Q
  | .ite t b o, m, σ, Q => wpT X t m σ fun c σ₁ => if c then wpE X b m σ₁ Q else wpE X o m σ₁ Q
  | .call f as, m, σ, Q => wpE X f m σ fun fv σ₁ => wpEs X as m σ₁ fun vs σ₂ => ob (fnV fv) fun g => natP n fun k => SemCall C k g vs σ₂ Q X
  | .bcall f as, m, σ, Q => wpEs X as m σ fun vs σ₁ => wpB f vs σ₁ Q
  | .attr x a, m, σ, Q => ob (m x) fun v => wpAttr v a σ fun y => Q y σ
  | .sub a i, m, σ, Q => wpE X a m σ fun va σ₁ => wpE X i m σ₁ fun vi σ₂ => wpItem va vi σ₂ fun y => Q y σ₂
  | .upto a k, m, σ, Q => wpE X a m σ fun va σ₁ => wpUpto va k σ₁ Q
  | .tup es, m, σ, Q => wpEs X es m σ fun vs σ₁ => Q (.tup vs) σ₁
  | .lst es, m, σ, Q => wpEs X es m σ fun vs σ₁ => Q (.ref σ₁.length) (σ₁ ++ [.list vs])
  | .dct k v, m, σ, Q => wpE X k m σ fun vk σ₁ => wpE X v m σ₁ fun vv σ₂ => ob (intV vk) fun i => Q (.ref σ₂.length) (σ₂ ++ [.dict (fun j => if j = i then some vv else none) 1])
  | .comp elt x src conds, m, σ, Q => wpE X src m σ fun sv σ₁ => ob (srcItems σ₁ sv) fun items => items.length < 1000000 ∧
      compW sv items x (fun m σ Q => wpCs (fun _ => False) conds m σ Q) (fun m σ Q => wpE (fun _ => False) elt m σ Q) items [] (clr (clr m x) ".0") σ₁ fun vs σ₂ => Q (.ref σ₂.length) (σ₂ ++ [.list vs])
termination_by structural e => e
noncomputable def wpT (X : Store → Prop) : E → Loc → Store → (Bool → Store → Prop) → Prop
  | .not a, m, σ, Q => wpT X a m σ fun b σ₁ => Q (!b) σ₁
  | .all es, m, σ, Q => wpTAll X es m σ Q
  | .any es, m, σ, Q => wpTAny X es m σ Q
  | .ite t b o, m, σ, Q => wpT X t m σ fun c σ₁ => if c then wpT X b m σ₁ Q else wpT X o m σ₁ Q
  | .cint i, _, σ, Q => truthQ Q (.int i) σ
  | .cbool b, _, σ, Q => truthQ Q (.bool b) σ
  | .cnone, _, σ, Q => truthQ Q .none σ
  | .cstr x, _, σ, Q => truthQ Q (.str x) σ
  | .loc x, m, σ, Q => ob (m x) fun v => truthQ Q v σ
  | .glob x, _, σ, Q => ob (glbTab x) fun v => truthQ Q v σ
  | .bin op a b, m, σ, Q => wpE X a m σ fun va σ₁ => wpE X b m σ₁ fun vb σ₂ => wpBin op va vb σ₂ (truthQ Q)
  | .neg a, m, σ, Q => wpE X a m σ fun va σ₁ => ob (intV va) fun i => truthQ Q (.int (-i)) σ₁
  | .inv a, m, σ, Q => wpE X a m σ fun va σ₁ => ob (intV va) fun i => truthQ Q (.int (Builtin.bitNot i)) σ₁
  | .cmp op a b, m, σ, Q => wpE X a m σ fun va σ₁ => wpE X b m σ₁ fun vb σ₂ => ob (cmpV σ₂ op va vb) fun r => Q r σ₂
  | .call f as, m, σ, Q => wpE X f m σ fun fv σ₁ => wpEs X as m σ₁ fun vs σ₂ => ob (fnV fv) fun g => natP n fun k => SemCall C k g vs σ₂ (truthQ Q) X
  | .bcall f as, m, σ, Q => wpEs X as m σ fun vs σ₁ => wpB f vs σ₁ (truthQ Q)
  | .attr x a, m, σ, Q => ob (m x) fun v => wpAttr v a σ fun y => truthQ Q y σ
  | .sub a i, m, σ, Q => wpE X a m σ fun va σ₁ => wpE X i m σ₁ fun vi σ₂ => wpItem va vi σ₂ fun y => truthQ Q y σ₂
  | .upto a k, m, σ, Q => wpE X a m σ fun va σ₁ => wpUpto va k σ₁ (truthQ Q)
  | .tup es, m, σ, Q => wpEs X es m σ fun vs σ₁ => truthQ Q (.tup vs) σ₁
  | .lst es, m, σ, Q => wpEs X es m σ fun vs σ₁ => truthQ Q (.ref σ₁.length) (σ₁ ++ [.list vs])
  | .dct _ _, _, _, _ => False
  | .comp _ _ _ _, _, _, _ => False
termination_by structural e => e
noncomputable def wpEs (X : Store → Prop) : List E → Loc → Store → (List V → Store → Prop) → Prop
  | [], _, σ, Q => Q [] σ
  | e :: r, m, σ, Q => wpE X e m σ fun v σ₁ => wpEs X r m σ₁ fun vs σ₂ => Q (v :: vs) σ₂
termination_by structural e => e
noncomputable def wpAll (X : Store → Prop) : List E → Loc → Store → (V → Store → Prop) → Prop
  | [], _, _, _ => False
  | e :: r, m, σ, Q => wpE X e m σ fun v σ₁ => match r with
    | [] => Q v σ₁
    | _ :: _ => ob (truthV v) fun b => if b then wpAll X r m σ₁ Q else Q v σ₁
termination_by structural e => e
noncomputable def wpAnyL (X : Store → Prop) : List E → Loc → Store → (V → Store → Prop) → Prop
  | [], _, _, _ => False
  | e :: r, m, σ, Q => wpE X e m σ fun v σ₁ => match r with
    | [] => Q v σ₁
    | _ :: _ => ob (truthV v) fun b => if b then Q v σ₁ else wpAnyL X r m σ₁ Q
termination_by structural e => e
noncomputable def wpTAll (X : Store → Prop) : List E → Loc → Store → (Bool → Store → Prop) → Prop
  | [], _, σ, Q => Q true σ
  | e :: r, m, σ, Q => wpT X e m σ fun b σ₁ => if b then wpTAll X r m σ₁ Q else Q false σ₁
termination_by structural e => e
noncomputable def wpTAny (X : Store → Prop) : List E → Loc → Store → (Bool → Store → Prop) → Prop
  | [], _, σ, Q => Q false σ
  | e :: r, m, σ, Q => wpT X e m σ fun b σ₁ => if b then Q true σ₁ else wpTAny X r m σ₁ Q
termination_by structural e => e
noncomputable def wpCs (X : Store → Prop) : List E → Loc → Store → (Bool → Store → Prop) → Prop
  | [], _, σ, Q => Q true σ
  | e :: _, m, σ, Q => wpT X e m σ Q
termination_by structural e => e
end
end

inductive Fl where
  | next | cont | ret (v : V)

/-- names bound from a value -/
noncomputable def bindL : List String → List V → Loc → Option Loc
  | [], [], m => some m
  | x :: xs, v :: vs, m => bindL xs vs (upd m x v)
  | _, _, _ => none
noncomputable def setO (k : Int) (v : V) (o : AObj) : Option AObj := match o with
  | .list xs => grd (decide (0 ≤ k ∧ k < xs.length ∧ xs.length < 1000000)) (some (.list (xs.set k.toNat v)))
  | .dict f n => grd (decide (n < 1000000)) (some (.dict (fun j => if j = k then some v else f j) (n + 1)))
  | _ => none
noncomputable def setItemV (σ : Store) (va vi v : V) : Option Store := obd (refV va) fun i => obd (intV vi) fun k => obd σ[i]? fun o => obd (setO k v o) fun o' => some (σ.set i o')
noncomputable def setAttrV (σ : Store) (va : V) (a : String) (v : V) : Option Store := obd (geoAt σ va) fun p => grd (geoAttrs.contains a) (some (σ.set p.1 (.ns (fun y => if y = a then some v else p.2 y))))
noncomputable def appendV (σ : Store) (va v : V) : Option Store := obd (refV va) fun i => obd (listAt σ i) fun xs => grd (decide (xs.length < 1000000)) (some (σ.set i (.list (xs ++ [v]))))

noncomputable def isListV (σ : Store) (va : V) : Prop := ∃ i xs, va = .ref i ∧ σ[i]? = some (.list xs)

/-- for: bnd binds an item; body walks the body -/
noncomputable def forW (src : V) (items : List V) (bnd : V → Loc → Option Loc) (body : Loc → Store → (Fl → Loc → Store → Prop) → Prop) :
    List V → Loc → Store → (Fl → Loc → Store → Prop) → Prop
  | [], m, σ, Q => srcItems σ src = some items ∧ Q .next m σ
  | v :: r, m, σ, Q => srcItems σ src = some items ∧ ob (bnd v m) fun m' => body m' σ fun fl m₁ σ₁ => match fl with
      | .ret v => Q (.ret v) m₁ σ₁
      | _ => forW src items bnd body r m₁ σ₁ Q

noncomputable def whileW (test : Loc → Store → (Bool → Store → Prop) → Prop) (body : Loc → Store → (Fl → Loc → Store → Prop) → Prop) :
    Nat → Loc → Store → (Fl → Loc → Store → Prop) → Prop
  | 0, _, _, _ => False
  | k + 1, m, σ, Q => test m σ fun b σ₁ => if b then body m σ₁ fun fl m₁ σ₂ => (match fl with
      | .ret v => Q (.ret v) m₁ σ₂
      | _ => whileW test body k m₁ σ₂ Q)
    else Q .next m σ₁

noncomputable def bndT : T → V → Loc → Option Loc
  | .name x, v, m => some (upd m x v)
  | .tup xs, .tup vs, m => bindL xs vs m
  | _, _, _ => none

section
variable (C : Ctx) (n : Nat)

noncomputable def wpAssign (X : Store → Prop) (t : T) (v : V) (m : Loc) (σ : Store) (Q : Loc → Store → Prop) : Prop :=
  match t with
  | .name x => Q (upd m x v) σ
  | .tup xs => ob (bndT (.tup xs) v m) fun m' => Q m' σ
  | .sub a i => wpE C n X a m σ fun va σ₁ => wpE C n X i m σ₁ fun vi σ₂ => ob (setItemV σ₂ va vi v) fun σ' => Q m σ'
  | .attr x a => ob (m x) fun va => ob (setAttrV σ va a v) fun σ' => Q m σ'

mutual
noncomputable def wpS (X : Store → Prop) : S → Loc → Store → (Fl → Loc → Store → Prop) → Prop
  | .assign t e, m, σ, Q => wpE C n X e m σ fun v σ₁ => wpAssign C n X t v m σ₁ fun m' σ₂ => Q .next m' σ₂
  | .aug x op e, m, σ, Q => ob (m x) fun old => wpE C n X e m σ fun v σ₁ => wpAug op old v fun r => Q .next (upd m x r) σ₁
  | .augsub a i op e, m, σ, Q => wpE C n X a m σ fun va σ₁ => wpE C n X i m σ₁ fun vi σ₂ => wpItem va vi σ₂ fun old => wpE C n X e m σ₂ fun v σ₃ =>
      wpAug op old v fun r => ob (setItemV σ₃ va vi r) fun σ' => Q .next m σ'
  | .expr e, m, σ, Q => wpE C n X e m σ fun _ σ₁ => Q .next m σ₁
  | .append a e, m, σ, Q => wpE C n X a m σ fun va σ₁ => isListV σ₁ va ∧ wpE C n X e m σ₁ fun v σ₂ => ob (appendV σ₂ va v) fun σ' => Q .next m σ'
  | .ite t b o, m, σ, Q => wpT C n X t m σ fun c σ₁ => if c then wpSs X b m σ₁ Q else wpSs X o m σ₁ Q
  | .for t src body, m, σ, Q => wpE C n X src m σ fun sv σ₁ => ob (srcItems σ₁ sv) fun items =>
      forW sv items (bndT t) (fun m σ Q => wpSs X body m σ Q) items m σ₁ Q
  | .while t body, m, σ, Q => ∃ k, whileW (fun m σ Q => wpT C n X t m σ Q) (fun m σ Q => wpSs X body m σ Q) k m σ Q
  | .ret e, m, σ, Q => wpE C n X e m σ fun v σ₁ => Q (.ret v) m σ₁
  | .pass, m, σ, Q => Q .next m σ
  | .cont, m, σ, Q => Q .cont m σ
  | .raise c _, _, σ, _ => chk (c == "BadTable") (X σ)
  | .try f as c, m, σ, Q => chk (c == "BadTable") (wpE C n (fun _ => False) f m σ fun fv σ₁ => wpEs C n (fun _ => False) as m σ₁ fun vs σ₂ => ob (fnV fv) fun g => natP n fun k =>
      SemCall C k g vs σ₂ (fun _ σ₃ => Q (.ret (.bool false)) m σ₃) (fun σ₃ => Q .next m σ₃))
noncomputable def wpSs (X : Store → Prop) : List S → Loc → Store → (Fl → Loc → Store → Prop) → Prop
  | [], m, σ, Q => Q .next m σ
  | s :: r, m, σ, Q => wpS X s m σ fun fl m₁ σ₁ => match fl with
      | .next => wpSs X r m₁ σ₁ Q
      | fl => Q fl m₁ σ₁
end
end

end Mine

end

section
open PySem PySem.W PyProof.Rows
set_option linter.unusedVariables false
set_option tactic.hygienic false
namespace Mine

noncomputable def GlobAt (C : Ctx) (x : String) (c : Value) : Prop :=
  ∃ mg mb, C.B.Ns mainGlobals mg ∧ C.B.Ns builtinsNs mb ∧ (mg (Str.ofString x) = some c ∨ (mg (Str.ofString x) = none ∧ mb (Str.ofString x) = some c))

noncomputable def bval (f : String) : Value := if f = "list" ∨ f = "range" then .type f else .builtin f

structure ClsOk (C : Ctx) (a : Addr) : Prop where
  get : findIn C.K (.ref a) "__getattribute__" = some (some (.builtin "object.__getattribute__"))
  set : findIn C.K (.ref a) "__setattr__" = some (some (.builtin "object.__setattr__"))
  dict : ∃ cd, clsIn C.K a = some cd ∧ cd.hasDict = true
  over : plainOver C.K a = true
  attrs : ∀ n ∈ geoAttrs, findIn C.K (.ref a) (Str.ofString n) = some none

/-- a value that a call may take: who keeps its arguments is told -/
noncomputable def KeeperOk (C : Ctx) (c : Value) : Prop :=
  ∀ (A : Around) (E : Value → Shared → Prop) (Q : Keeper → Shared → Prop) (s : Shared), C.B.StaysIn s.heap → (∀ kp, Q kp s) → wpAny (model C.prog C.w) A (keeperOf c) Q E s

structure Ctx.Ok (C : Ctx) : Prop where
  keeper : ∀ x c, C.fnv x = some c → KeeperOk C c
  KB : C.K.In C.B
  geo : ∀ a, C.fnv "Geometry" = some (.ref a) → ClsOk C a
  glb : ∀ x v, glbTab x = some v → ∃ c, GlobAt C x c ∧ VR C [] C.B v c
  blt : ∀ f ∈ bnames, GlobAt C f (bval f)
  nolimit : C.B.NoLimit

structure EnvOk (k : Kinds) (env : Env) : Prop where
  kind : env.scope.kind = .function
  globals : env.globals = mainGlobals
  builtins : env.builtins = builtinsNs
  glob : ∀ x, k x = some .globalImplicit → env.kindOf x = some .globalImplicit
  loc : ∀ x, k x = some .local → env.kindOf x = some .local
  cell : ∀ x, k x = some .cell → env.kindOf x = some .cell
  free : ∀ x, k x = some .free → env.kindOf x = some .cell
  cellAt : ∀ x, env.kindOf x = some .cell → ∃ a, env.cells.lookup x = some a

structure Sit (C : Ctx) (n : Nat) (A : Around) (fr : List Env) (env : Env) (m : Loc) (σ : Store) (ρ : List Addr) (s : Shared) : Prop where
  room : Room A n
  frs : A.frames = some fr
  fok : FrOk C ρ s.heap fr
  rel : Rel C env ⟨m, σ⟩ ρ s.heap

theorem Sit.tok {C n A fr env m σ ρ} {s : Shared} (x : Sit C n A fr env m σ ρ s) (t : Nat) : Sit C n A fr env m σ ρ { s with toks := t } := ⟨x.room, x.frs, x.fok, x.rel⟩

theorem getElem?_snoc_of {α : Type} {l : List α} {i : Nat} {a b : α} (e : l[i]? = some a) : (l ++ [b])[i]? = some a := by
  rw [List.getElem?_append_left (List.getElem?_eq_some_iff.mp e).1]; exact e

/-- what lies apart stays: the store by a change of one owned object -/
theorem SR.update {C : Ctx} {σ : Store} {ρ : List Addr} {h h' : Heap} {i : Nat} {o o' : AObj} {a : Addr} (x : SR C σ ρ h) (hi : σ[i]? = some o) (ha : ρ[i]? = some a)
    (hs : Heap.SameBut a h h') (ho : OR C ρ h' o' a) : SR C (σ.set i o') ρ h' where
  len := by rw [List.length_set]; exact x.len
  obj := fun j oj aj e1 e2 => by
    by_cases hj : i = j
    · subst hj
      rw [List.getElem?_set_self (by exact (List.getElem?_eq_some_iff.mp hi).1)] at e1
      rw [ha] at e2; cases e1; cases e2; exact ho
    · rw [List.getElem?_set_ne hj] at e1
      have hne : aj ≠ a := fun q => hj (x.inj i j a ha (q ▸ e2))
      refine (x.obj j oj aj e1 e2).mono (fun _ _ e => e) (fun b ob e hb => ?_) (fun ob e => (hs.2 aj hne).trans e)
      refine (hs.2 b fun q => ?_).trans e
      subst q
      exact x.not_imm e hb (List.mem_of_getElem? ha)
  inj := x.inj
  new := x.new
  base := fun b ob e => (hs.2 b fun q => by subst q; rw [x.new _ (List.mem_of_getElem? ha)] at e; cases e).trans (x.base b ob e)

theorem SR.alloc {C : Ctx} {σ : Store} {ρ : List Addr} {h h' : Heap} {o : AObj} {a : Addr} (x : SR C σ ρ h) (hn : h.get? a = none)
    (hk : ∀ b o, h.get? b = some o → h'.get? b = some o) (ho : OR C (ρ ++ [a]) h' o a) : SR C (σ ++ [o]) (ρ ++ [a]) h' := by
  have low : ∀ i : Nat, ρ[i]? ≠ some a := fun i e => by
    obtain ⟨_, _, _, _, r⟩ := x.owned (List.mem_of_getElem? e)
    obtain ⟨_, h1, _⟩ := r.there
    rw [hn] at h1; cases h1
  have cut : ∀ (j : Nat) (b : Addr), (ρ ++ [a])[j]? = some b → (ρ[j]? = some b) ∨ (j = ρ.length ∧ b = a) := fun j b e => by
    rw [List.getElem?_append] at e
    split at e
    · exact .inl e
    · rename_i hj
      have : j - ρ.length = 0 := by
        have := (List.getElem?_eq_some_iff.mp e).1
        simp at this; omega
      rw [this] at e
      simp at e
      exact .inr ⟨by omega, e.symm⟩
  refine ⟨by simp [x.len], fun j oj aj e1 e2 => ?_, fun i j b e1 e2 => ?_, fun b hb => ?_, fun b ob e => hk _ _ (x.base b ob e)⟩
  · rcases cut j aj e2 with e | ⟨rfl, rfl⟩
    · have hj : j < σ.length := by rw [← x.len]; exact (List.getElem?_eq_some_iff.mp e).1
      rw [List.getElem?_append_left hj] at e1
      exact (x.obj j oj aj e1 e).mono (fun _ _ e => getElem?_snoc_of e) (fun b ob e _ => hk b ob e) (fun ob e => hk _ _ e)
    · rw [x.len, List.getElem?_append_right (Nat.le_refl _)] at e1
      simp at e1; subst e1; exact ho
  · rcases cut i b e1 with q | ⟨rfl, rfl⟩ <;> rcases cut j b e2 with q' | ⟨rfl, q'⟩
    · exact x.inj i j b q q'
    · subst q'; exact absurd q (low i)
    · exact absurd q' (low j)
    · rfl
  · rcases List.mem_append.mp hb with hb | hb
    · exact x.new b hb
    · rw [List.mem_singleton.mp hb]
      cases q : C.B.get? a with
      | none => rfl
      | some ob => have := x.base a ob q; rw [hn] at this; cases this

theorem Rel.sameBut {C : Ctx} {env : Env} {st : St} {ρ : List Addr} {h h' : Heap} {σ' : Store} {a : Addr} (R : Rel C env st ρ h) (ha : a ∈ ρ) (hs : Heap.SameBut a h h')
    (hsr : SR C σ' ρ h') : Rel C env ⟨st.loc, σ'⟩ ρ h' := by
  have hL : env.locals ≠ a := fun q => R.locNew.2 (q ▸ ha)
  have hC : ∀ n b, (n, b) ∈ env.cells → b ≠ a := fun n b hm q => (R.cellNew n b hm).2.1 (q ▸ ha)
  have imm : ∀ b o, h.get? b = some o → Imm o → h'.get? b = some o := fun b o e hi => (hs.2 b fun q => by subst q; exact R.sr.not_imm e hi ha).trans e
  refine ⟨hsr, ?_, fun n b hm => ?_, fun x v e1 e2 => ?_, R.locNew, R.cellNew, R.apart⟩
  · obtain ⟨m, h1, h2⟩ := R.ns
    exact ⟨m, h1.sameBut hs hL, fun x v e1 e2 => by obtain ⟨c, e3, e4⟩ := h2 x v e1 e2; exact ⟨c, e3, e4.mono (fun _ _ e => e) imm⟩⟩
  · obtain ⟨ov, hc⟩ := R.cell n b hm
    exact ⟨ov, hc.sameBut hs (hC n b hm)⟩
  · obtain ⟨b, c, e3, e4, e5⟩ := R.cellv x v e1 e2
    exact ⟨b, c, e3, e4.sameBut hs (hC _ _ (mem_of_lookup e3)), e5.mono (fun _ _ e => e) imm⟩

theorem Rel.alloc {C : Ctx} {env : Env} {st : St} {ρ : List Addr} {h h' : Heap} {o : AObj} {a : Addr} (R : Rel C env st ρ h) (hn : h.get? a = none)
    (hk : ∀ b o, h.get? b = some o → h'.get? b = some o) (ho : OR C (ρ ++ [a]) h' o a) : Rel C env ⟨st.loc, st.σ ++ [o]⟩ (ρ ++ [a]) h' := by
  have G := R.grow hk
  have up : ∀ {v c}, VR C ρ h' v c → VR C (ρ ++ [a]) h' v c := fun hv => hv.mono (fun _ _ e => getElem?_snoc_of e) fun _ _ e _ => e
  obtain ⟨mL, hL1, hL2⟩ := R.ns
  have la : env.locals ≠ a := fun q => by obtain ⟨ob, _, _, e, _⟩ := hL1; rw [q, hn] at e; cases e
  refine ⟨R.sr.alloc hn hk ho, ?_, G.cell, fun x v e1 e2 => ?_, ⟨R.locNew.1, ?_⟩, fun n b hm => ?_, R.apart⟩
  · obtain ⟨m, h1, h2⟩ := G.ns
    exact ⟨m, h1, fun x v e1 e2 => by obtain ⟨c, e3, e4⟩ := h2 x v e1 e2; exact ⟨c, e3, up e4⟩⟩
  · obtain ⟨b, c, e3, e4, e5⟩ := G.cellv x v e1 e2
    exact ⟨b, c, e3, e4, up e5⟩
  · rw [List.mem_append, List.mem_singleton]; rintro (q | q)
    · exact R.locNew.2 q
    · exact la q
  · obtain ⟨c1, c2, c3⟩ := R.cellNew n b hm
    refine ⟨c1, ?_, c3⟩
    rw [List.mem_append, List.mem_singleton]; rintro (q | q)
    · exact c2 q
    · obtain ⟨ov, ob, e, _⟩ := R.cell n b hm
      rw [q, hn] at e; cases e

theorem Post.alloc {C : Ctx} {ex : Addr → Prop} {ρ : List Addr} {s s' : Shared} {a : Addr} (hn : s.heap.get? a = none) (hx : ¬ ex a)
    (hk : ∀ b o, s.heap.get? b = some o → s'.heap.get? b = some o) (hg : s'.gens = s.gens) (ho : s'.os = s.os) : Post C ex ρ (ρ ++ [a]) s s' :=
  ⟨hg, ho, fun _ _ e => getElem?_snoc_of e, fun b hb hnb => by
    rcases List.mem_append.mp hb with q | q
    · exact absurd q hnb
    · rw [List.mem_singleton.mp q]; exact ⟨hn, hx⟩, fun b o e _ _ => .inl (hk b o e)⟩
theorem Post.update {C : Ctx} {ex : Addr → Prop} {ρ : List Addr} {s s' : Shared} {a : Addr} (ha : a ∈ ρ) (hs : Heap.SameBut a s.heap s'.heap) (hg : s'.gens = s.gens) (ho : s'.os = s.os) : Post C ex ρ ρ s s' :=
  ⟨hg, ho, fun _ _ e => e, fun _ h h' => absurd h h', fun b o e hb _ => .inl ((hs.2 b fun q => hb (q ▸ ha)).trans e)⟩

theorem Sit.post {C n A fr env m σ ρ} {m' : Loc} {σ' : Store} {ρ' : List Addr} {s s' : Shared} (x : Sit C n A fr env m σ ρ s) (p : Post C (exOf env) ρ ρ' s s') (R : Rel C env ⟨m', σ'⟩ ρ' s'.heap) :
    Sit C n A fr env m' σ' ρ' s' := ⟨x.room, x.frs, x.fok.post p (x.rel.fr_there R), R⟩

theorem Rel.not_ex_of_none {C : Ctx} {env : Env} {st : St} {ρ : List Addr} {h : Heap} (R : Rel C env st ρ h) {a : Addr} (hn : h.get? a = none) : ¬ exOf env a := fun q => by
  obtain ⟨o, e, _⟩ := R.ex_there a q
  rw [hn] at e; cases e

theorem Sit.grow {C n A fr env m σ ρ} {s s' : Shared} (x : Sit C n A fr env m σ ρ s) (hk : ∀ b o, s.heap.get? b = some o → s'.heap.get? b = some o) (hg : s'.gens = s.gens) (ho : s'.os = s.os) :
    Sit C n A fr env m σ ρ s' ∧ Post C (exOf env) ρ ρ s s' :=
  have p : Post C (exOf env) ρ ρ s s' := .grow hk hg ho
  ⟨x.post p (x.rel.grow hk), p⟩
theorem Sit.alloc {C n A fr env m σ ρ} {s s' : Shared} {o : AObj} {a : Addr} (x : Sit C n A fr env m σ ρ s) (hn : s.heap.get? a = none)
    (hk : ∀ b o, s.heap.get? b = some o → s'.heap.get? b = some o) (ho : OR C (ρ ++ [a]) s'.heap o a) (hg : s'.gens = s.gens) (hos : s'.os = s.os) :
    Sit C n A fr env m (σ ++ [o]) (ρ ++ [a]) s' ∧ Post C (exOf env) ρ (ρ ++ [a]) s s' ∧ VR C (ρ ++ [a]) s'.heap (.ref σ.length) (.ref a) :=
  have p : Post C (exOf env) ρ (ρ ++ [a]) s s' := .alloc hn (x.rel.not_ex_of_none hn) hk hg hos
  ⟨x.post p (x.rel.alloc hn hk ho), p, .ref (by rw [show σ.length = ρ.length from x.rel.sr.len.symm]; simp)⟩
theorem Sit.update {C n A fr env m σ ρ} {s s' : Shared} {i : Nat} {o o' : AObj} {a : Addr} (x : Sit C n A fr env m σ ρ s) (hi : σ[i]? = some o) (ha : ρ[i]? = some a)
    (hs : Heap.SameBut a s.heap s'.heap) (ho : OR C ρ s'.heap o' a) (hg : s'.gens = s.gens) (hos : s'.os = s.os) :
    Sit C n A fr env m (σ.set i o') ρ s' ∧ Post C (exOf env) ρ ρ s s' :=
  have p : Post C (exOf env) ρ ρ s s' := .update (List.mem_of_getElem? ha) hs hg hos
  ⟨x.post p (x.rel.sameBut (List.mem_of_getElem? ha) hs (x.rel.sr.update hi ha hs ho)), p⟩

/-- an object of this call's own that was not owned yet becomes owned -/
theorem SR.adopt {C : Ctx} {σ : Store} {ρ : List Addr} {h h' : Heap} {o : AObj} {a : Addr} (x : SR C σ ρ h) (ha : a ∉ ρ) (hB : C.B.get? a = none) (himm : ∀ o, h.get? a = some o → ¬ Imm o)
    (hk : ∀ b o, b ≠ a → h.get? b = some o → h'.get? b = some o) (ho : OR C (ρ ++ [a]) h' o a) : SR C (σ ++ [o]) (ρ ++ [a]) h' := by
  have cut : ∀ (j : Nat) (b : Addr), (ρ ++ [a])[j]? = some b → (ρ[j]? = some b) ∨ (j = ρ.length ∧ b = a) := fun j b e => by
    rw [List.getElem?_append] at e
    split at e
    · exact .inl e
    · rename_i hj
      have : j - ρ.length = 0 := by
        have := (List.getElem?_eq_some_iff.mp e).1
        simp at this; omega
      rw [this] at e
      simp at e
      exact .inr ⟨by omega, e.symm⟩
  have imm : ∀ b o, h.get? b = some o → Imm o → h'.get? b = some o := fun b o e hi => hk b o (fun q => by subst q; exact himm o e hi) e
  refine ⟨by simp [x.len], fun j oj aj e1 e2 => ?_, fun i j b e1 e2 => ?_, fun b hb => ?_, fun b ob e => hk _ _ (fun q => by subst q; rw [hB] at e; cases e) (x.base b ob e)⟩
  · rcases cut j aj e2 with e | ⟨rfl, rfl⟩
    · have hj : j < σ.length := by rw [← x.len]; exact (List.getElem?_eq_some_iff.mp e).1
      rw [List.getElem?_append_left hj] at e1
      exact (x.obj j oj aj e1 e).mono (fun _ _ e => getElem?_snoc_of e) imm (fun ob e' => hk _ _ (fun q => ha (q ▸ List.mem_of_getElem? e)) e')
    · rw [x.len, List.getElem?_append_right (Nat.le_refl _)] at e1
      simp at e1; subst e1; exact ho
  · rcases cut i b e1 with q | ⟨rfl, rfl⟩ <;> rcases cut j b e2 with q' | ⟨rfl, q'⟩
    · exact x.inj i j b q q'
    · subst q'; exact absurd (List.mem_of_getElem? q) ha
    · exact absurd (List.mem_of_getElem? q') ha
    · rfl
  · rcases List.mem_append.mp hb with hb | hb
    · exact x.new b hb
    · rw [List.mem_singleton.mp hb]; exact hB

theorem Rel.adopt {C : Ctx} {env : Env} {st : St} {ρ : List Addr} {h h' : Heap} {o : AObj} {a : Addr} (R : Rel C env st ρ h) (ha : a ∉ ρ) (hx : ¬ exOf env a) (hB : C.B.get? a = none) (himm : ∀ o, h.get? a = some o → ¬ Imm o)
    (hk : ∀ b o, b ≠ a → h.get? b = some o → h'.get? b = some o) (ho : OR C (ρ ++ [a]) h' o a) : Rel C env ⟨st.loc, st.σ ++ [o]⟩ (ρ ++ [a]) h' := by
  have imm : ∀ b o, h.get? b = some o → Imm o → h'.get? b = some o := fun b o e hi => hk b o (fun q => by subst q; exact himm o e hi) e
  have up : ∀ {v c}, VR C ρ h v c → VR C (ρ ++ [a]) h' v c := fun hv => hv.mono (fun _ _ e => getElem?_snoc_of e) imm
  have la : env.locals ≠ a := fun q => hx (.inl q.symm)
  have ca : ∀ nm b, (nm, b) ∈ env.cells → b ≠ a := fun nm b hm q => hx (.inr ⟨nm, q ▸ hm⟩)
  refine ⟨R.sr.adopt ha hB himm hk ho, ?_, fun nm b hm => ?_, fun x v e1 e2 => ?_, ⟨R.locNew.1, ?_⟩, fun n b hm => ?_, R.apart⟩
  · obtain ⟨m, ⟨ob, es, ep, e1, r⟩, h2⟩ := R.ns
    exact ⟨m, ⟨ob, es, ep, hk _ _ la e1, r⟩, fun x v e1 e2 => by obtain ⟨c, e3, e4⟩ := h2 x v e1 e2; exact ⟨c, e3, up e4⟩⟩
  · obtain ⟨ov, ob, e1, e2⟩ := R.cell nm b hm
    exact ⟨ov, ob, hk _ _ (ca nm b hm) e1, e2⟩
  · obtain ⟨b, c, e3, ⟨ob, e4, e4'⟩, e5⟩ := R.cellv x v e1 e2
    exact ⟨b, c, e3, ⟨ob, hk _ _ (ca _ _ (mem_of_lookup e3)) e4, e4'⟩, up e5⟩
  · rw [List.mem_append, List.mem_singleton]; rintro (q | q)
    · exact R.locNew.2 q
    · exact la q
  · obtain ⟨c1, c2, c3⟩ := R.cellNew n b hm
    refine ⟨c1, ?_, c3⟩
    rw [List.mem_append, List.mem_singleton]; rintro (q | q)
    · exact c2 q
    · exact ca n b hm q

theorem Sit.adopt {C n A fr env m σ ρ} {σ₀ : Store} {ρ₀ : List Addr} {s₀ s s' : Shared} {o : AObj} {a : Addr} (x₀ : Sit C n A fr env m σ₀ ρ₀ s₀) (hn : s₀.heap.get? a = none)
    (x : Sit C n A fr env m σ ρ s) (p : Post C (exOf env) ρ₀ ρ s₀ s) (ha : a ∉ ρ) (himm : ∀ o, s.heap.get? a = some o → ¬ Imm o)
    (hk : ∀ b o, b ≠ a → s.heap.get? b = some o → s'.heap.get? b = some o) (ho : OR C (ρ ++ [a]) s'.heap o a) (hg : s'.gens = s.gens) (hos : s'.os = s.os) :
    Sit C n A fr env m (σ ++ [o]) (ρ ++ [a]) s' ∧ Post C (exOf env) ρ₀ (ρ ++ [a]) s₀ s' ∧ VR C (ρ ++ [a]) s'.heap (.ref σ.length) (.ref a) := by
  have hx : ¬ exOf env a := x₀.rel.not_ex_of_none hn
  have hB : C.B.get? a = none := by
    cases q : C.B.get? a with
    | none => rfl
    | some ob => have := x₀.rel.sr.base a ob q; rw [hn] at this; cases this
  have R := x.rel.adopt ha hx hB himm hk ho
  have p' : Post C (exOf env) ρ₀ (ρ ++ [a]) s₀ s' := by
    refine ⟨hg.trans p.gens, hos.trans p.os, fun i b e => getElem?_snoc_of (p.pre i b e), fun b hb hnb => ?_, fun b ob e h1 h2 => (p.keep b ob e h1 h2).trans fun o₁ e₁ => .inl (hk b o₁ (fun q => by subst q; rw [hn] at e; cases e) e₁)⟩
    rcases List.mem_append.mp hb with q | q
    · exact p.fresh b q hnb
    · rw [List.mem_singleton.mp q]; exact ⟨hn, hx⟩
  exact ⟨x₀.post p' R, p', .ref (by rw [show σ.length = ρ.length from x.rel.sr.len.symm]; simp)⟩

end Mine

end

section
open PySem PySem.W PyProof.Rows
set_option linter.unusedVariables false
set_option tactic.hygienic false
namespace Mine

/-- the post of an expression -/
inductive PE (C : Ctx) (n : Nat) (A : Around) (fr : List Env) (env : Env) (m : Loc) (ρ : List Addr) (s : Shared) (Q : V → Store → Prop) (c : Value) (s' : Shared) : Prop
  | mk (v : V) (σ' : Store) (ρ' : List Addr) (q : Q v σ') (hv : VR C ρ' s'.heap v c) (sit : Sit C n A fr env m σ' ρ' s') (p : Post C (exOf env) ρ ρ' s s') : PE C n A fr env m ρ s Q c s'
inductive PT (C : Ctx) (n : Nat) (A : Around) (fr : List Env) (env : Env) (m : Loc) (ρ : List Addr) (s : Shared) (Q : Bool → Store → Prop) (b : Bool) (s' : Shared) : Prop
  | mk (σ' : Store) (ρ' : List Addr) (q : Q b σ') (sit : Sit C n A fr env m σ' ρ' s') (p : Post C (exOf env) ρ ρ' s s') : PT C n A fr env m ρ s Q b s'
inductive PEs (C : Ctx) (n : Nat) (A : Around) (fr : List Env) (env : Env) (m : Loc) (ρ : List Addr) (s : Shared) (Q : List V → Store → Prop) (cs : List Value) (s' : Shared) : Prop
  | mk (vs : List V) (σ' : Store) (ρ' : List Addr) (q : Q vs σ') (hv : VRs C ρ' s'.heap vs cs) (sit : Sit C n A fr env m σ' ρ' s') (p : Post C (exOf env) ρ ρ' s s') : PEs C n A fr env m ρ s Q cs s'

theorem PE.after {C n A fr env m ρ ρ₁ s s₁ Q c s'} (x : PE C n A fr env m ρ₁ s₁ Q c s') (p : Post C (exOf env) ρ ρ₁ s s₁) : PE C n A fr env m ρ s Q c s' := by
  obtain ⟨v, σ', ρ', a, b, c, d⟩ := x; exact ⟨v, σ', ρ', a, b, c, p.trans d⟩
theorem PT.after {C n A fr env m ρ ρ₁ s s₁ Q c s'} (x : PT C n A fr env m ρ₁ s₁ Q c s') (p : Post C (exOf env) ρ ρ₁ s s₁) : PT C n A fr env m ρ s Q c s' := by
  obtain ⟨σ', ρ', a, c, d⟩ := x; exact ⟨σ', ρ', a, c, p.trans d⟩

theorem PE.elim {C n A fr env m ρ s Q c s'} {G : Prop} (x : PE C n A fr env m ρ s Q c s') (k : ∀ v σ' ρ', Q v σ' → VR C ρ' s'.heap v c → Sit C n A fr env m σ' ρ' s' → Post C (exOf env) ρ ρ' s s' → G) : G := by
  obtain ⟨v, σ', ρ', a, b, c, d⟩ := x; exact k v σ' ρ' a b c d
theorem PT.elim {C n A fr env m ρ s Q c s'} {G : Prop} (x : PT C n A fr env m ρ s Q c s') (k : ∀ σ' ρ', Q c σ' → Sit C n A fr env m σ' ρ' s' → Post C (exOf env) ρ ρ' s s' → G) : G := by
  obtain ⟨σ', ρ', a, c, d⟩ := x; exact k σ' ρ' a c d
theorem PEs.elim {C n A fr env m ρ s Q c s'} {G : Prop} (x : PEs C n A fr env m ρ s Q c s') (k : ∀ v σ' ρ', Q v σ' → VRs C ρ' s'.heap v c → Sit C n A fr env m σ' ρ' s' → Post C (exOf env) ρ ρ' s s' → G) : G := by
  obtain ⟨v, σ', ρ', a, b, c, d⟩ := x; exact k v σ' ρ' a b c d

noncomputable def SoundE (C : Ctx) (n : Nat) (X : Store → Prop) (k : Kinds) (ast : Expr) (e : E) : Prop :=
  ∀ A fr env m σ ρ s Q, EnvOk k env → Sit C n A fr env m σ ρ s → wpE C n X e m σ Q →
    wpAny (model C.prog C.w) A (eval ast env) (PE C n A fr env m ρ s Q) (ExcP C fr X (exOf env) ρ s) s
noncomputable def SoundT (C : Ctx) (n : Nat) (X : Store → Prop) (k : Kinds) (ast : Expr) (e : E) : Prop :=
  ∀ A fr env m σ ρ s Q, EnvOk k env → Sit C n A fr env m σ ρ s → wpT C n X e m σ Q →
    wpAny (model C.prog C.w) A (isTrue ast env (eval ast env)) (PT C n A fr env m ρ s Q) (ExcP C fr X (exOf env) ρ s) s

/-- the one way to go on behind an expression -/
theorem go_on {α : Type} {C : Ctx} {A : Around} {fr : List Env} {env : Env} {ρ ρ₁ : List Addr} {s s₁ : Shared} {X : Store → Prop} {t : Sem α} {Q Q' : α → Shared → Prop}
    (h : wpAny (model C.prog C.w) A t Q (ExcP C fr X (exOf env) ρ₁ s₁) s₁) (p : Post C (exOf env) ρ ρ₁ s s₁) (hf : FrOk C ρ s.heap fr)
    (hQ : ∀ a s', Q a s' → Q' a s') : wpAny (model C.prog C.w) A t Q' (ExcP C fr X (exOf env) ρ s) s₁ :=
  wpAny_mono h hQ fun _ _ x => x.after p hf

theorem upd_el {m : Loc} {x y : String} {v w : V} {G : Prop} (e : upd m x v y = some w) (g1 : y = x → v = w → G) (g2 : y ≠ x → m y = some w → G) : G := by
  have e : (if y = x then some v else m y) = some w := e
  by_cases q : y = x
  · rw [if_pos q] at e; exact g1 q (Option.some.inj e)
  · rw [if_neg q] at e; exact g2 q e

section
variable {C : Ctx} {n : Nat} {X : Store → Prop} {A : Around} {fr : List Env} {env : Env} {m : Loc} {σ : Store} {ρ : List Addr} {s : Shared} {k : Kinds}

theorem nameOk_eq {x : Str} (h : nameOk x = true) : Str.ofString x.toString = x ∧ (x == ("__debug__" : Str)) = false := by
  unfold nameOk at h
  simp only [Bool.and_eq_true, beq_iff_eq, bne_iff_ne, ne_eq] at h
  exact ⟨h.1, by simpa using h.2⟩

theorem load_loc (hk : EnvOk k env) (sit : Sit C n A fr env m σ ρ s) {x : Str} {v : V} (hx : Str.ofString x.toString = x) (hl : isLoc k x = true) (hv : m x.toString = some v)
    {E : Value → Shared → Prop} {Q : Value → Shared → Prop} (h : ∀ c, VR C ρ s.heap v c → Q c s) : wpAny (model C.prog C.w) A (loadName env x) Q E s := by
  have hkind : env.kindOf x = some .local ∨ env.kindOf x = some .cell := by
    rcases isLoc_ok hl with e | e | e
    · exact .inl (hk.loc _ e)
    · exact .inr (hk.cell _ e)
    · exact .inr (hk.free _ e)
  rcases hkind with e | e
  · obtain ⟨mm, h1, h2⟩ := sit.rel.ns
    obtain ⟨c, h3, h4⟩ := h2 x.toString v hv (by rw [hx]; exact e)
    rw [hx] at h3
    exact wpAny_loadName_local hk.kind e h1 h3 (h c h4)
  · obtain ⟨a, c, h3, h4, h5⟩ := sit.rel.cellv x.toString v hv (by rw [hx]; exact e)
    rw [hx] at h3
    exact wpAny_loadName_cell hk.kind e h3 h4 (h c h5)

theorem Sit.setLocal (hk : EnvOk k env) (sit : Sit C n A fr env m σ ρ s) {x : String} {v : V} {c : Value} (hv : VR C ρ s.heap v c) {h' : Heap} {mm : Str → Option Value}
    (h1 : s.heap.Ns env.locals mm) (h2 : ∀ x v, m x = some v → env.kindOf (Str.ofString x) = some .local → ∃ c, mm (Str.ofString x) = some c ∧ VR C ρ s.heap v c)
    (hn : h'.Ns env.locals fun y => if y = Str.ofString x then some c else mm y) (hs : Heap.SameBut env.locals s.heap h') {tk : Nat} (hnc : env.kindOf (Str.ofString x) = some .local)
    (hinj : ∀ y, Str.ofString y = Str.ofString x → y = x) :
    Sit C n A fr env (upd m x v) σ ρ { s with heap := h', toks := tk } ∧ Post C (exOf env) ρ ρ s { s with heap := h', toks := tk } := by
  have imm : ∀ b o, s.heap.get? b = some o → Imm o → h'.get? b = some o := fun b o e hi => (hs.2 b fun q => sit.rel.ex_not_imm e hi (.inl q)).trans e
  have p : Post C (exOf env) ρ ρ s { s with heap := h', toks := tk } := ⟨rfl, rfl, fun _ _ e => e, fun _ h h' => absurd h h', fun b o e hb hx => .inl ((hs.2 b fun q => hx (.inl q)).trans e)⟩
  have own : ∀ b, b ∈ ρ → b ≠ env.locals := fun b hb q => sit.rel.locNew.2 (q ▸ hb)
  have R : Rel C env ⟨upd m x v, σ⟩ ρ h' := by
    refine ⟨⟨sit.rel.sr.len, fun i o a e1 e2 => (sit.rel.sr.obj i o a e1 e2).mono (fun _ _ e => e) imm fun o e => (hs.2 a (own a (List.mem_of_getElem? e2))).trans e, sit.rel.sr.inj, sit.rel.sr.new,
        fun b o e => (hs.2 b fun q => by rw [q, sit.rel.locNew.1] at e; cases e).trans (sit.rel.sr.base b o e)⟩, ⟨_, hn, fun y w e1 e2 => ?_⟩, fun nm a hm => ?_, fun y w e1 e2 => ?_, sit.rel.locNew, sit.rel.cellNew, sit.rel.apart⟩
    · refine upd_el e1 (fun q1 q2 => ?_) fun q e1 => ?_
      · rw [q1, ← q2]; exact ⟨c, if_pos rfl, hv.mono (fun _ _ e => e) imm⟩
      · obtain ⟨c', e3, e4⟩ := h2 y w e1 e2
        exact ⟨c', (if_neg fun z => q (hinj y z)).trans e3, e4.mono (fun _ _ e => e) imm⟩
    · obtain ⟨ov, hc⟩ := sit.rel.cell nm a hm
      exact ⟨ov, hc.sameBut hs (sit.rel.cellNew nm a hm).2.2⟩
    · refine upd_el e1 (fun q1 q2 => ?_) fun q e1 => ?_
      · rw [q1, hnc] at e2; cases e2
      · obtain ⟨a, c', e3, e4, e5⟩ := sit.rel.cellv y w e1 e2
        exact ⟨a, c', e3, e4.sameBut hs (sit.rel.cellNew _ a (mem_of_lookup e3)).2.2, e5.mono (fun _ _ e => e) imm⟩
  exact ⟨⟨sit.room, sit.frs, sit.fok.post p (sit.rel.fr_there R), R⟩, p⟩

theorem Sit.setCell (hk : EnvOk k env) (sit : Sit C n A fr env m σ ρ s) {x : String} {v : V} {c : Value} (hv : VR C ρ s.heap v c) {h' : Heap} {a : Addr}
    (ha : env.cells.lookup (Str.ofString x) = some a) (hn : h'.IsCell a (some c)) (hs : Heap.SameBut a s.heap h') {tk : Nat} (hnc : env.kindOf (Str.ofString x) = some .cell)
    (hinj : ∀ y, Str.ofString y = Str.ofString x → y = x) :
    Sit C n A fr env (upd m x v) σ ρ { s with heap := h', toks := tk } ∧ Post C (exOf env) ρ ρ s { s with heap := h', toks := tk } := by
  have hm := mem_of_lookup ha
  have hex : exOf env a := .inr ⟨_, hm⟩
  have imm : ∀ b o, s.heap.get? b = some o → Imm o → h'.get? b = some o := fun b o e hi => (hs.2 b fun q => sit.rel.ex_not_imm e hi (q ▸ hex)).trans e
  have p : Post C (exOf env) ρ ρ s { s with heap := h', toks := tk } := ⟨rfl, rfl, fun _ _ e => e, fun _ h h' => absurd h h', fun b o e hb hx => .inl ((hs.2 b fun q => hx (q ▸ hex)).trans e)⟩
  obtain ⟨c1, c2, c3⟩ := sit.rel.cellNew _ a hm
  have R : Rel C env ⟨upd m x v, σ⟩ ρ h' := by
    refine ⟨⟨sit.rel.sr.len, fun i o b e1 e2 => (sit.rel.sr.obj i o b e1 e2).mono (fun _ _ e => e) imm fun o e => (hs.2 b fun q => c2 (q ▸ List.mem_of_getElem? e2)).trans e, sit.rel.sr.inj, sit.rel.sr.new,
        fun b o e => (hs.2 b fun q => by rw [q, c1] at e; cases e).trans (sit.rel.sr.base b o e)⟩, ?_, fun nm b hb => ?_, fun y w e1 e2 => ?_, sit.rel.locNew, sit.rel.cellNew, sit.rel.apart⟩
    · obtain ⟨mm, h1, h2⟩ := sit.rel.ns
      refine ⟨mm, h1.sameBut hs (Ne.symm c3), fun y w e1 e2 => ?_⟩
      refine upd_el e1 (fun q1 q2 => ?_) fun q e1 => ?_
      · rw [q1, hnc] at e2; cases e2
      · obtain ⟨c', e3, e4⟩ := h2 y w e1 e2
        exact ⟨c', e3, e4.mono (fun _ _ e => e) imm⟩
    · by_cases hba : b = a
      · subst hba; exact ⟨_, hn⟩
      · obtain ⟨ov, hc⟩ := sit.rel.cell nm b hb
        exact ⟨ov, hc.sameBut hs hba⟩
    · refine upd_el e1 (fun q1 q2 => ?_) fun q e1 => ?_
      · rw [q1, ← q2]; exact ⟨a, c, ha, hn, hv.mono (fun _ _ e => e) imm⟩
      · obtain ⟨b, c', e3, e4, e5⟩ := sit.rel.cellv y w e1 e2
        have hba : b ≠ a := fun z => q (hinj y (sit.rel.apart _ _ _ (mem_of_lookup e3) (z ▸ hm)))
        exact ⟨b, c', e3, e4.sameBut hs hba, e5.mono (fun _ _ e => e) imm⟩
  exact ⟨⟨sit.room, sit.frs, sit.fok.post p (sit.rel.fr_there R), R⟩, p⟩
end

theorem ofString_inj {a b : String} (h : Str.ofString a = Str.ofString b) : a = b := by
  rw [Str.ofString_eq_toList, Str.ofString_eq_toList] at h
  have h1 : a.toList.map Char.toNat = b.toList.map Char.toNat := by
    have := congrArg (fun x => x.cps.toList) h
    simpa using this
  have h2 : a.toList = b.toList := List.map_inj_right (fun x y e => Char.ext (UInt32.toNat_inj.mp e)) |>.mp h1
  exact String.ext (by simpa using h2)

section
variable {C : Ctx} {n : Nat} {X : Store → Prop} {A : Around} {fr : List Env} {env : Env} {m : Loc} {σ : Store} {ρ : List Addr} {s : Shared} {k : Kinds}
theorem store_loc (hk : EnvOk k env) (sit : Sit C n A fr env m σ ρ s) {x : Str} {y : String} {v : V} {c : Value} (hl : trLoc k x = some y) (hv : VR C ρ s.heap v c)
    {E : Value → Shared → Prop} {Q : Unit → Shared → Prop} (h : ∀ s', Sit C n A fr env (upd m y v) σ ρ s' → Post C (exOf env) ρ ρ s s' → Q () s') : wpAny (model C.prog C.w) A (storeName env x c) Q E s := by
  refine trLoc_ok hl fun hn hkk hy => ?_
  have hx := (nameOk_eq hn).1
  subst hy
  have hkk := hkk.imp (hk.loc _) (hk.cell _)
  rw [← hx] at hkk ⊢
  have hinj : ∀ y, Str.ofString y = Str.ofString x.toString → y = x.toString := fun y e => ofString_inj e
  rcases hkk with e | e
  · obtain ⟨mm, h1, h2⟩ := sit.rel.ns
    refine wpAny_storeName_local e h1 (fun h' hn hs => ?_) (by rw [hk.kind]; rfl)
    obtain ⟨a, b⟩ := sit.setLocal hk hv h1 h2 hn hs (tk := s.toks + 1) e hinj
    exact h _ a b
  · obtain ⟨a, ha⟩ := hk.cellAt _ e
    obtain ⟨ov, hc⟩ := sit.rel.cell _ a (mem_of_lookup ha)
    refine wpAny_storeName_cell hk.kind e ha hc fun h' hn hs => ?_
    obtain ⟨a, b⟩ := sit.setCell hk hv ha hn hs (tk := s.toks) e hinj
    exact h _ a b
end

end Mine

end

section
open PySem PySem.W PyProof.Rows
set_option linter.unusedVariables false
set_option maxRecDepth 100000
set_option tactic.hygienic false
namespace Mine

section
variable {C : Ctx} {n : Nat} {A : Around} {fr : List Env} {env : Env} {m : Loc} {σ : Store} {ρ : List Addr} {s : Shared} {E : Value → Shared → Prop} {Q : V → Store → Prop}

theorem PE.tok (sit : Sit C n A fr env m σ ρ s) {v : V} {c : Value} (h : Q v σ) (hv : VR C ρ s.heap v c) (t : Nat) : PE C n A fr env m ρ s Q c { s with toks := t } :=
  ⟨v, σ, ρ, h, hv, sit.tok t, .tok⟩
theorem PE.same (sit : Sit C n A fr env m σ ρ s) {v : V} {c : Value} (h : Q v σ) (hv : VR C ρ s.heap v c) : PE C n A fr env m ρ s Q c s :=
  ⟨v, σ, ρ, h, hv, sit, .refl⟩
theorem PE.int (sit : Sit C n A fr env m σ ρ s) {i : Int} (h : Q (.int i) σ) (u t : Nat) : PE C n A fr env m ρ s Q (.int i u) { s with toks := t } := PE.tok sit h (.int i u) t
theorem PE.bool (sit : Sit C n A fr env m σ ρ s) {b : Bool} (h : Q (.bool b) σ) : PE C n A fr env m ρ s Q (.bool b) s := PE.same sit h (.bool b)
/-- a new list -/
theorem PE.newList (sit : Sit C n A fr env m σ ρ s) {xs : List V} {cs : List Value} (hv : VRs C ρ s.heap xs cs) (h : Q (.ref σ.length) (σ ++ [.list xs])) :
    PE C n A fr env m ρ s Q (.ref s.heap.objs.size) { s with heap := s.heap.push { cls := .type "list", data := .seq cs.toArray } } := by
  have hk : ∀ b o, s.heap.get? b = some o → (s.heap.push { cls := .type "list", data := .seq cs.toArray }).get? b = some o := fun b o e => Heap.get?_push_of_some _ e
  obtain ⟨a, b, c⟩ := sit.alloc (s' := { s with heap := s.heap.push { cls := .type "list", data := .seq cs.toArray } }) (o := .list xs) (Heap.get?_none_of_le (Nat.le_refl _)) hk
    (.list ⟨_, _, Heap.get?_push_size _ rfl, rfl, rfl, rfl⟩ (hv.mono (fun _ _ e => getElem?_snoc_of e) fun b o e _ => hk b o e)) rfl rfl
  exact ⟨_, _, _, h, c, a, b⟩

theorem intBits_le {a : Int} (h : a.natAbs < 2 ^ 64) : Builtin.Int.intBits a ≤ 64 := by
  unfold Builtin.Int.intBits
  split
  · exact Nat.zero_le _
  · rename_i hne
    have h0 : a.natAbs ≠ 0 := by simpa using hne
    have := (Nat.log2_lt h0).mpr h
    omega

theorem isList_obj {h : Heap} {a : Addr} {cs : List Value} (x : h.IsList a cs.toArray) : ∃ d n sl, h.get? a = some ⟨.type "list", d, .seq cs.toArray n, sl⟩ := by
  obtain ⟨⟨c, d, dt, sl⟩, ho, hc, n, hd⟩ := x
  dsimp only at hc hd; subst hc hd
  exact ⟨d, n, sl, ho⟩

theorem plain_at (sit : Sit C n A fr env m σ ρ s) {i : Nat} {xs : List V} {l : Addr} (h : σ[i]? = some (.list xs)) (e : ρ[i]? = some l) : ∃ cs : List Value, PlainL s.heap l cs.toArray ∧ VRs C ρ s.heap xs cs := sit.rel.sr.obj i _ l h e

theorem list_at (sit : Sit C n A fr env m σ ρ s) {i : Nat} {xs : List V} {l : Addr} (h : σ[i]? = some (.list xs)) (e : ρ[i]? = some l) : ∃ cs : List Value, s.heap.IsList l cs.toArray ∧ VRs C ρ s.heap xs cs := by
  obtain ⟨cs, a, b⟩ := plain_at sit h e; exact ⟨cs, a.isList, b⟩

theorem bin_int (op : Operator) (sit : Sit C n A fr env m σ ρ s) {a b : Int} {t u : Tok} (h : wpBinI op a b σ Q) : wpAny (model C.prog C.w) A (binaryOp op (.int a t) (.int b u)) (PE C n A fr env m ρ s Q) E s := by
  cases op with
  | Add => exact PyProof.Rows.add_int (PE.int sit h _ _)
  | Sub => exact PyProof.Rows.sub_int (PE.int sit h _ _)
  | Mult => exact PySem.P.mul_int (PE.int sit h.2 _ _) (h.1.elim (fun q => IntMulOk.of_left (intBits_le q)) fun q => IntMulOk.of_right (intBits_le q))
  | FloorDiv =>
    have hb := h.1
    refine PyProof.Rows.floordiv_int (by omega) ?_ (.inl (PyProof.noPylong_small (by omega)))
    rw [Int.fdiv_eq_ediv_of_nonneg _ (by omega)]
    exact PE.int sit h.2 _ _
  | Mod =>
    have hb := h.1
    refine PyProof.Rows.mod_int' (by omega) ?_
    rw [Int.fmod_eq_emod_of_nonneg _ (by omega)]
    exact PE.int sit h.2 _ _
  | Pow => exact PyProof.Rows.pow_int_small h.1.1 h.1.2.1 h.1.2.2 (PE.int sit h.2 _ _)
  | LShift => exact PyProof.Rows.lshift_int_small h.1.1 h.1.2.1 h.1.2.2 (PE.int sit h.2 _ _)
  | RShift =>
    refine chk_el h fun h1 h => PyProof.Rows.rshift_int (of_decide_eq_true h1) ?_
    rw [Int.fdiv_eq_ediv_of_nonneg _ (Int.le_of_lt (Int.pow_pos (by decide)))]
    exact PE.int sit h _ _
  | BitAnd => exact PyProof.Rows.and_int (PE.int sit h _ _)
  | BitOr => exact PyProof.Rows.or_int (PE.int sit h _ _)
  | BitXor => exact PyProof.Rows.xor_int (PE.int sit h _ _)
  | _ => exact h.elim
theorem bin_mul (op : Operator) (sit : Sit C n A fr env m σ ρ s) {i : Nat} {l : Addr} {x : Int} {u : Tok} (e1 : ρ[i]? = some l) (h : wpMulL op i x σ Q) : wpAny (model C.prog C.w) A (binaryOp op (.ref l) (.int x u)) (PE C n A fr env m ρ s Q) E s := by
  cases op with
  | Mult =>
    refine ob_el h fun y h1 h => obd_el h1 fun xs h0 h1 => ?_
    obtain ⟨cs, hl, hvs⟩ := list_at sit (listAt_ok h0) e1
    rw [vOne_ok h1] at hvs
    obtain ⟨cy, rfl, hy⟩ := hvs.of1
    obtain ⟨h2, h3⟩ := h
    obtain ⟨d, k, sl, ho⟩ := isList_obj hl
    refine wpAny_binaryOp_repeat_ref (T := "list") (U := "int") (by decide) ⟨_, ho, rfl⟩ (fun s' => typeIs_int s' x u) noFill_list_mul PySem.F.fills_int_mul PySem.F.slot_int_rmul repeat_list PySem.F.slot_int_index.lookup
      (call_meets PySem.F.slot_int_rmul (typeIs_int s x u) PySem.F.entry_int_rmul (PySem.F.args_int_rmul_2 _ _) (lm_int_rmul_list_any x u l [cy].toArray k d sl)
        ⟨ho, rfl, ⟨_, ho, rfl⟩, call_meets PySem.F.slot_list_mul ⟨_, ho, rfl⟩ PySem.F.entry_list_mul (PySem.F.args_list_mul_2 _ _)
          (lm_list_mul_any l [cy].toArray k d sl x u (by simp [Builtin.List.listFitsIndex]; omega) (by simp; omega) (by simp [Builtin.List.listTooLong, sizeLine]; omega))
          ⟨ho, ?_⟩⟩)
    rw [listMul_foldl_if]
    have e : (List.replicate x.toNat [cy].toArray.toList).flatten = List.replicate x.toNat cy := by
      simp
    rw [e]
    exact PE.newList sit (VRs.replicate hy _) h3
  | _ => exact h.elim
theorem bin_add (op : Operator) (sit : Sit C n A fr env m σ ρ s) {i j : Nat} {l b : Addr} (e1 : ρ[i]? = some l) (e2 : ρ[j]? = some b) (h : wpAddL op i j σ Q) : wpAny (model C.prog C.w) A (binaryOp op (.ref l) (.ref b)) (PE C n A fr env m ρ s Q) E s := by
  cases op with
  | Add =>
    refine ob_el h fun xs h1 h => ob_el h fun ys h2 h => ?_
    obtain ⟨cs, hl, hvs⟩ := list_at sit (listAt_ok h1) e1
    obtain ⟨ds, hb, hws⟩ := list_at sit (listAt_ok h2) e2
    obtain ⟨h3, h4⟩ := h
    obtain ⟨dd, k, sl, ho⟩ := isList_obj hl
    obtain ⟨dd2, k2, sl2, ho2⟩ := isList_obj hb
    have e : cs.toArray ++ ds.toArray = (cs ++ ds).toArray := by simp
    refine concat_meets ⟨_, ho, rfl⟩ ⟨_, ho2, rfl⟩ noFill_list_add seq_list_add PySem.F.slot_list_add PySem.F.entry_list_add (PySem.F.args_list_add_2 _ _)
      (list_addW l b cs.toArray ds.toArray k k2 dd dd2 sl sl2 (by have := hvs.length; have := hws.length; rw [sizeLine_eq]; simp; omega)) ⟨ho, ho2, ?_⟩
    rw [e]
    exact PE.newList sit (hvs.append hws) h4
  | _ => exact h.elim
theorem bin_sound (op : Operator) (sit : Sit C n A fr env m σ ρ s) {v w : V} {c d : Value} (hv : VR C ρ s.heap v c) (hw : VR C ρ s.heap w d) (h : wpBin op v w σ Q) :
    wpAny (model C.prog C.w) A (binaryOp op c d) (PE C n A fr env m ρ s Q) E s := by
  cases v with
  | int a => cases w with
    | int b => obtain ⟨t, rfl⟩ := hv; obtain ⟨u, rfl⟩ := hw; exact bin_int op sit h
    | _ => exact h.elim
  | ref i => cases w with
    | int b => obtain ⟨l, rfl, e1⟩ := hv; obtain ⟨u, rfl⟩ := hw; exact bin_mul op sit e1 h
    | ref j => obtain ⟨l, rfl, e1⟩ := hv; obtain ⟨b, rfl, e2⟩ := hw; exact bin_add op sit e1 e2 h
    | _ => exact h.elim
  | _ => exact h.elim
end

end Mine

end

section
open PySem PySem.W PyProof.Rows PyProof.V PySem.Spec PySem.SeqAt
set_option linter.unusedVariables false
set_option maxRecDepth 100000
set_option tactic.hygienic false
namespace Mine

section
variable {C : Ctx} {n : Nat} {A : Around} {fr : List Env} {env : Env} {m : Loc} {σ : Store} {ρ : List Addr} {s : Shared} {E : Value → Shared → Prop} {Q : V → Store → Prop}

theorem decide_beq {a b : Int} : (a == b) = decide (a = b) := rfl
theorem any_beq (ns : List Int) (k : Int) : ns.any (· == k) = decide (k ∈ ns) := by
  rw [Bool.eq_iff_iff]
  simp

theorem reads_nums {h : Heap} {vs : List Value} {ns : List Int} (hi : IntsAre vs ns) : ReadsAll h vs (ns.map PyData.int) [] := by
  induction hi with
  | nil => exact .nil
  | cons k t r ih => exact (ReadsAll.cons (Reads.int k t) ih :)
theorem lay_nums (ns : List Int) : PyData.canLayAll0 (ns.map PyData.int) = true := by
  induction ns with
  | nil => rfl
  | cons n r ih => rw [List.map_cons, PyData.canLayAll0, ih]; rfl
theorem deep_nums (ns : List Int) : PyData.depthAll (ns.map PyData.int) = 0 := PyProof.Rows.depthAll_ints ns
theorem mix_nums (a b : List Int) : noMixAll (a.map PyData.int) (b.map PyData.int) = true := by
  induction a generalizing b with
  | nil => cases b <;> rfl
  | cons n r ih => cases b with
    | nil => rfl
    | cons k q => rw [List.map_cons, List.map_cons, noMixAll, ih]; rfl
theorem same_nums (a b : List Int) : PySem.Spec.sameAll (a.map PyData.int) (b.map PyData.int) = decide (a = b) := by
  induction a generalizing b with
  | nil => cases b with
    | nil => rfl
    | cons => rw [decide_eq_false (by intro h; cases h)]; rfl
  | cons n r ih => cases b with
    | nil => rw [decide_eq_false (by intro h; cases h)]; rfl
    | cons k q =>
      rw [List.map_cons, List.map_cons, PySem.Spec.sameAll, ih, PySem.Spec.same]
      by_cases h : n = k
      · by_cases h' : r = q <;> simp [h, h']
      · simp [h]
theorem shaped_list (ns : List Int) : shaped (.list (ns.map PyData.int)) = true := by
  show (PyData.canLay0 (.list (ns.map PyData.int)) && decide (PyData.depth (.list (ns.map PyData.int)) ≤ 64)) = true
  rw [Bool.and_eq_true, PyData.canLay0, PyData.depth, deep_nums]
  exact ⟨lay_nums ns, rfl⟩
theorem reads_nums_list {h : Heap} {a : Addr} {vs : List Value} {ns : List Int} (hl : h.IsList a vs.toArray) (hi : IntsAre vs ns) : Reads h (.ref a) (.list (ns.map PyData.int)) [a] := by
  obtain ⟨o, ho, hc, n, hd⟩ := hl
  exact Reads.list ho hc hd (reads_nums hi)
theorem eq_lists {prog : Program} {w : World} {A : Around} {E : Value → Shared → Prop} {s : Shared} {a b : Addr} {vs us : List Value} {ns ms : List Int} {Q : Value → Shared → Prop} (hl : s.heap.IsList a vs.toArray) (hi : IntsAre vs ns) (hl' : s.heap.IsList b us.toArray) (hi' : IntsAre us ms)
    (hu : A.units + 64 < cLine) (h : Q (.bool (decide (ns = ms))) s) : wpAny (model prog w) A (compareOp .Eq (.ref a) (.ref b)) Q E s :=
  eq_dataH_same (reads_nums_list hl hi) (reads_nums_list hl' hi') (shaped_list ns) (shaped_list ms) hu (by rw [noMix]; exact mix_nums ns ms) (by rw [PySem.Spec.same, same_nums]; exact h)
theorem ne_lists {prog : Program} {w : World} {A : Around} {E : Value → Shared → Prop} {s : Shared} {a b : Addr} {vs us : List Value} {ns ms : List Int} {Q : Value → Shared → Prop} (hl : s.heap.IsList a vs.toArray) (hi : IntsAre vs ns) (hl' : s.heap.IsList b us.toArray) (hi' : IntsAre us ms)
    (hu : A.units + 64 < cLine) (h : Q (.bool (!decide (ns = ms))) s) : wpAny (model prog w) A (compareOp .NotEq (.ref a) (.ref b)) Q E s :=
  ne_dataH_same (reads_nums_list hl hi) (reads_nums_list hl' hi') (shaped_list ns) (shaped_list ms) hu (by rw [noMix]; exact mix_nums ns ms) (by rw [PySem.Spec.same, same_nums]; exact h)
theorem reads_of_tup {h : Heap} {a : Addr} {vs : List Value} {ns : List Int} (hl : h.IsTuple a vs.toArray) (hi : IntsAre vs ns) : Reads h (.ref a) (.tuple (ns.map PyData.int)) [] := by
  obtain ⟨o, ho, hc, n, hd⟩ := hl
  exact Reads.tuple ho hc hd (reads_nums hi)
theorem shaped_tup (ns : List Int) : shaped (.tuple (ns.map PyData.int)) = true := by
  show (PyData.canLay0 (.tuple (ns.map PyData.int)) && decide (PyData.depth (.tuple (ns.map PyData.int)) ≤ 64)) = true
  rw [Bool.and_eq_true, PyData.canLay0, PyData.depth, deep_nums]
  exact ⟨lay_nums ns, rfl⟩

theorem mem_tup {a : Int} {t : Tok} {ta : Addr} {cs : List Value} {l : List Int} (ht : s.heap.IsTuple ta cs.toArray) (hi : IntsAre cs l) {Q : Value → Shared → Prop} :
    (Q (.bool (decide (a ∈ l))) s → wpAny (model C.prog C.w) A (compareOp .In (.int a t) (.ref ta)) Q E s) ∧ (Q (.bool (!decide (a ∈ l))) s → wpAny (model C.prog C.w) A (compareOp .NotIn (.int a t) (.ref ta)) Q E s) := by
  have hf : ∀ y, y ∈ cs.toArray → EqAt A.in1 s y (.int a t) (isInt a y) := fun y hy => by
    have hy' : y ∈ cs := by simpa using hy
    have : ∃ n u, y = Value.int n u := by
      clear ht hy
      induction hi with
      | nil => cases hy'
      | cons k u r ih =>
        rcases List.mem_cons.mp hy' with rfl | hy'
        · exact ⟨_, _, rfl⟩
        · exact ih hy'
    obtain ⟨n, u, rfl⟩ := this
    exact EqAt.int_int n u a t
  have hany : cs.toArray.any (isInt a) = decide (a ∈ l) := by
    rw [← Array.any_toList, show cs.toArray.toList = cs from rfl, any_isInt a hi, any_beq]
  exact ⟨fun q => in_tupleAt (isInt a) ht hf (by rw [hany]; exact q), fun q => notIn_tupleAt (isInt a) ht hf (by rw [hany]; exact q)⟩
theorem mem_lst {a : Int} {t : Tok} {ta : Addr} {cs : List Value} {l : List Int} (h1 : s.heap.IsList ta cs.toArray) (hi : IntsAre cs l) {Q : Value → Shared → Prop} :
    (Q (.bool (decide (a ∈ l))) s → wpAny (model C.prog C.w) A (compareOp .In (.int a t) (.ref ta)) Q E s) ∧ (Q (.bool (!decide (a ∈ l))) s → wpAny (model C.prog C.w) A (compareOp .NotIn (.int a t) (.ref ta)) Q E s) :=
  ⟨fun q => in_list_ints h1 hi (by rw [any_beq]; exact q), fun q => notin_list_ints h1 hi (by rw [any_beq]; exact q)⟩
theorem ints_of {xs : List V} {l : List Int} {cs : List Value} {h : Heap} (hl : intsOf xs = some l) (hv : VRs C ρ h xs cs) : IntsAre cs l := by
  rw [intsOf_eq hl] at hv; exact hv.ints
theorem mem_sound (sit : Sit C n A fr env m σ ρ s) {a : Int} {t : Tok} {w : V} {d : Value} (hw : VR C ρ s.heap w d) {b : Bool} (h : memV σ a w = some b) {Q : Value → Shared → Prop} :
    (Q (.bool b) s → wpAny (model C.prog C.w) A (compareOp .In (.int a t) d) Q E s) ∧ (Q (.bool (!b)) s → wpAny (model C.prog C.w) A (compareOp .NotIn (.int a t) d) Q E s) := by
  cases w with
  | tup xs =>
    refine obd_el h fun l hl h => ?_
    obtain ⟨ta, cs, rfl, ht, hvs⟩ := hw
    rw [← Option.some.inj h]
    exact mem_tup ht (ints_of hl hvs)
  | ref i =>
    refine obd_el h fun xs hs h => obd_el h fun l hl h => ?_
    obtain ⟨la, rfl, e⟩ := hw
    obtain ⟨cs, h1, h2⟩ := list_at sit (listAt_ok hs) e
    rw [← Option.some.inj h]
    exact mem_lst h1 (ints_of hl h2)
  | _ => exact no h

theorem eq_sound (sit : Sit C n A fr env m σ ρ s) {v w : V} {c d : Value} (hv : VR C ρ s.heap v c) (hw : VR C ρ s.heap w d) {b : Bool} (h : eqV σ v w = some b) {Q : Value → Shared → Prop} (hQ : Q (.bool b) s) (hu : A.units + 64 < cLine) :
    wpAny (model C.prog C.w) A (compareOp .Eq c d) Q E s := by
  cases v with
  | int a =>
    refine obd_el h fun b hb h => ?_
    rw [intV_ok hb] at hw
    obtain ⟨t, rfl⟩ := hv; obtain ⟨u, rfl⟩ := hw
    rw [← Option.some.inj h] at hQ
    exact PyProof.Rows.eq_int hQ
  | bool a =>
    refine obd_el h fun b hb h => ?_
    rw [boolV_ok hb] at hw
    rw [show c = .bool a from hv, show d = .bool b from hw]
    rw [← Option.some.inj h] at hQ
    refine PyProof.Rows.eq_bool ?_
    rw [show (a == b) = decide (a = b) from by cases a <;> cases b <;> rfl]; exact hQ
  | tup xs =>
    refine obd_el h fun ys hy h => obd_el h fun a h1 h => obd_el h fun b h2 h => ?_
    rw [tupV_ok hy] at hw
    obtain ⟨ta, cs, rfl, ht, hvs⟩ := hv
    obtain ⟨tb, ds, rfl, ht', hvs'⟩ := hw
    rw [← Option.some.inj h, ← same_nums] at hQ
    exact eq_dataH_same (reads_of_tup ht (ints_of h1 hvs)) (reads_of_tup ht' (ints_of h2 hvs')) (shaped_tup a) (shaped_tup b) hu (mix_nums a b) hQ
  | ref i =>
    refine obd_el h fun j hj h => obd_el h fun xs h1 h => obd_el h fun ys h2 h => ?_
    rw [refV_ok hj] at hw
    obtain ⟨la, rfl, e1⟩ := hv
    obtain ⟨lb, rfl, e2⟩ := hw
    obtain ⟨cs, hl, hvs⟩ := list_at sit (listAt_ok h1) e1
    obtain ⟨ds, hl', hvs'⟩ := list_at sit (listAt_ok h2) e2
    cases ys with
    | nil =>
      rw [show ds = [] from hvs'] at hl'
      have h : some xs.isEmpty = some b := h
      rw [← Option.some.inj h] at hQ
      cases xs with
      | nil => rw [show cs = [] from hvs] at hl; exact eq_lists hl .nil hl' .nil hu hQ
      | cons x xs =>
        obtain ⟨c', r, rfl, _⟩ := hvs
        exact eq_list_lengthsAt hl hl' rfl (Nat.lt_of_le_of_lt (Nat.le_add_right _ _) hu) hQ
    | cons y ys =>
      have h : obd _ _ = some b := h
      refine obd_el h fun a h3 h => obd_el h fun b h4 h => ?_
      rw [← Option.some.inj h] at hQ
      exact eq_lists hl (ints_of h3 hvs) hl' (ints_of h4 hvs') hu hQ
  | _ => exact no h
theorem ne_sound (sit : Sit C n A fr env m σ ρ s) {v w : V} {c d : Value} (hv : VR C ρ s.heap v c) (hw : VR C ρ s.heap w d) {b : Bool} (h : neV σ v w = some b) {Q : Value → Shared → Prop} (hQ : Q (.bool b) s) (hu : A.units + 64 < cLine) :
    wpAny (model C.prog C.w) A (compareOp .NotEq c d) Q E s := by
  cases v with
  | int a =>
    refine obd_el h fun b hb h => ?_
    rw [intV_ok hb] at hw
    obtain ⟨t, rfl⟩ := hv; obtain ⟨u, rfl⟩ := hw
    rw [← Option.some.inj h] at hQ
    exact PyProof.Rows.ne_int hQ
  | bool a =>
    refine obd_el h fun b hb h => ?_
    rw [boolV_ok hb] at hw
    rw [show c = .bool a from hv, show d = .bool b from hw]
    rw [← Option.some.inj h] at hQ
    refine PyProof.Rows.ne_bool ?_
    rw [show (a != b) = !decide (a = b) from by cases a <;> cases b <;> rfl]; exact hQ
  | ref i =>
    refine obd_el h fun j hj h => obd_el h fun xs h1 h => obd_el h fun ys h2 h => obd_el h fun a h3 h => obd_el h fun b h4 h => ?_
    rw [refV_ok hj] at hw
    obtain ⟨la, rfl, e1⟩ := hv
    obtain ⟨lb, rfl, e2⟩ := hw
    obtain ⟨cs, hl, hvs⟩ := list_at sit (listAt_ok h1) e1
    obtain ⟨ds, hl', hvs'⟩ := list_at sit (listAt_ok h2) e2
    rw [← Option.some.inj h] at hQ
    exact ne_lists hl (ints_of h3 hvs) hl' (ints_of h4 hvs') hu hQ
  | _ => exact no h
theorem is_sound {h : Heap} {v : V} {c : Value} (hv : VR C ρ h v c) {b : Bool} (e : isNoneV v = some b) {Q : Value → Shared → Prop} (hQ : Q (.bool b) s) : wpAny (model C.prog C.w) A (compareOp .Is c .none) Q E s := by
  cases v with
  | none => rw [show c = .none from hv]; rw [← Option.some.inj e] at hQ; exact wpAny_is_self rfl hQ
  | tup => obtain ⟨a, cs, rfl, _⟩ := hv; rw [← Option.some.inj e] at hQ; exact wpAny_is_other rfl (fun q => nomatch q) hQ
  | int => obtain ⟨a, rfl⟩ := hv; rw [← Option.some.inj e] at hQ; exact wpAny_is_other rfl (fun q => nomatch q) hQ
  | ref => obtain ⟨a, rfl, _⟩ := hv; rw [← Option.some.inj e] at hQ; exact wpAny_is_other rfl (fun q => nomatch q) hQ
  | _ => exact no e

theorem cmp_sound (op : CmpOp) (sit : Sit C n A fr env m σ ρ s) {v w : V} {c d : Value} (hv : VR C ρ s.heap v c) (hw : VR C ρ s.heap w d) {b : Bool} (h : cmpV σ op v w = some b) {Q : Value → Shared → Prop} (hQ : Q (.bool b) s) :
    wpAny (model C.prog C.w) A (compareOp op c d) Q E s := by
  have hu : A.units + 64 < cLine := by have := sit.room.units; omega
  have two : ∀ {f : Int → Int → Bool}, (obd (intV v) fun a => obd (intV w) fun b => some (f a b)) = some b → (∀ x y t u, b = f x y → c = .int x t → d = .int y u → wpAny (model C.prog C.w) A (compareOp op c d) Q E s) → wpAny (model C.prog C.w) A (compareOp op c d) Q E s := fun h k =>
    obd_el h fun x h1 h => obd_el h fun y h2 h => by
      rw [intV_ok h1] at hv; rw [intV_ok h2] at hw
      obtain ⟨t, e1⟩ := hv; obtain ⟨u, e2⟩ := hw
      exact k x y t u (Option.some.inj h).symm e1 e2
  cases op with
  | Eq => exact eq_sound sit hv hw h hQ hu
  | NotEq => exact ne_sound sit hv hw h hQ hu
  | Lt => exact two h fun x y t u e e1 e2 => by rw [e] at hQ; rw [e1, e2]; exact PyProof.Rows.lt_int hQ
  | LtE => exact two h fun x y t u e e1 e2 => by rw [e] at hQ; rw [e1, e2]; exact PyProof.Rows.le_int hQ
  | Gt => exact two h fun x y t u e e1 e2 => by rw [e] at hQ; rw [e1, e2]; exact PyProof.Rows.gt_int hQ
  | GtE => exact two h fun x y t u e e1 e2 => by rw [e] at hQ; rw [e1, e2]; exact PyProof.Rows.ge_int hQ
  | Is =>
    cases w with
    | none => rw [show d = .none from hw]; exact is_sound hv h hQ
    | _ => exact no h
  | In =>
    refine obd_el h fun x h1 h => ?_
    rw [intV_ok h1] at hv
    obtain ⟨t, rfl⟩ := hv
    exact (mem_sound sit hw h).1 hQ
  | NotIn =>
    refine obd_el h fun x h1 h => obd_el h fun r hr h => ?_
    rw [intV_ok h1] at hv
    obtain ⟨t, rfl⟩ := hv
    rw [← Option.some.inj h] at hQ
    exact (mem_sound sit hw hr).2 hQ
  | _ => exact no h

theorem truth_sound {v : V} {c : Value} {h : Heap} (hv : VR C ρ h v c) {b : Bool} (e : truthV v = some b) {Q : Bool → Shared → Prop} (hQ : Q b s) : wpAny (model C.prog C.w) A (truthy c) Q E s := by
  cases v with
  | bool x => rw [show c = .bool x from hv]; rw [← Option.some.inj e] at hQ; exact wpAny_truthy_bool hQ
  | int i =>
    obtain ⟨t, rfl⟩ := hv
    rw [← Option.some.inj e] at hQ
    refine PyProof.Rows.truthy_int ?_
    rw [show (i != 0) = decide (i ≠ 0) from by by_cases q : i = 0 <;> simp [q]]; exact hQ
  | _ => exact no e
end

end Mine

end

section
open PySem PySem.W PyProof.Rows
set_option linter.unusedVariables false
set_option maxRecDepth 100000
set_option tactic.hygienic false
namespace Mine

section
variable {C : Ctx} {n : Nat} {X : Store → Prop} {k : Kinds}

theorem SoundE.cint (i : Int) (kd : Nat) (pos : Pos) : SoundE C n X k (.Constant (.int i) kd pos) (.cint i) := fun A fr env m σ ρ s Q hk sit h => by
  exact wpAny_Constant_int (PE.int sit h _ _)
theorem SoundE.cbool (b : Bool) (kd : Nat) (pos : Pos) : SoundE C n X k (.Constant (.bool b) kd pos) (.cbool b) := fun A fr env m σ ρ s Q hk sit h => by
  exact wpAny_Constant_bool (PE.bool sit h)
theorem SoundE.cnone (kd : Nat) (pos : Pos) : SoundE C n X k (.Constant .none kd pos) .cnone := fun A fr env m σ ρ s Q hk sit h => by
  exact PySem.wpAny_Constant_none (PE.same sit h .none)
theorem SoundE.cstr {x : Str} (hx : Str.ofString x.toString = x) (kd : Nat) (pos : Pos) : SoundE C n X k (.Constant (.str x) kd pos) (.cstr x.toString) := fun A fr env m σ ρ s Q hk sit h => by
  refine wpAny_Constant_str (PE.tok sit h ?_ _)
  have := VR.str (C := C) (ρ := ρ) (h := s.heap) x.toString s.toks
  rwa [hx] at this
theorem SoundE.loc {x : Str} (hx : nameOk x = true) (hl : isLoc k x = true) (pos : Pos) : SoundE C n X k (.Name x pos) (.loc x.toString) := fun A fr env m σ ρ s Q hk sit h => by
  refine ob_el h fun v h1 h2 => ?_
  exact wpAny_Name (load_loc hk sit (nameOk_eq hx).1 hl h1 fun c hc => PE.same sit h2 hc) (nameOk_eq hx).2
theorem load_globB {A : Around} {env : Env} {s : Shared} (hb : C.B.StaysIn s.heap) (hk : EnvOk k env) {x : Str} (hx : Str.ofString x.toString = x) {c : Value} (hg : GlobAt C x.toString c)
    {E : Value → Shared → Prop} {Q : Value → Shared → Prop} (h : Q c s) : wpAny (model C.prog C.w) A (loadGlobal env x) Q E s := by
  obtain ⟨mg, mb, h1, h2, h3⟩ := hg
  rw [hx] at h3
  have g1 : s.heap.Ns env.globals mg := by rw [hk.globals]; exact h1.keeps hb
  have g2 : s.heap.Ns env.builtins mb := by rw [hk.builtins]; exact h2.keeps hb
  rcases h3 with h3 | ⟨h3, h4⟩
  · exact Calls.loadGlobal_global g1 h3 h
  · exact Calls.loadGlobal_builtin g1 h3 g2 h4 h
theorem load_globAt {A : Around} {fr env m σ ρ} {s : Shared} (hk : EnvOk k env) (sit : Sit C n A fr env m σ ρ s) {x : Str} (hx : Str.ofString x.toString = x) {c : Value} (hg : GlobAt C x.toString c)
    {E : Value → Shared → Prop} {Q : Value → Shared → Prop} (h : Q c s) : wpAny (model C.prog C.w) A (loadGlobal env x) Q E s := load_globB sit.rel.sr.base hk hx hg h
theorem SoundE.glob (OK : C.Ok) {x : Str} (hx : nameOk x = true) (hl : k x = some .globalImplicit) (pos : Pos) : SoundE C n X k (.Name x pos) (.glob x.toString) := fun A fr env m σ ρ s Q hk sit h => by
  refine ob_el h fun v h1 h2 => ?_
  obtain ⟨c, h3, h4⟩ := OK.glb _ _ h1
  refine Calls.Name_function_global hk.kind (hk.glob _ hl) (load_globAt hk sit (nameOk_eq hx).1 h3 ?_) (nameOk_eq hx).2
  exact PE.same sit h2 (h4.mono (fun i a e => by simp at e) fun b o e _ => sit.rel.sr.base b o e)

theorem SoundE.bin {l r : Expr} {a b : E} (op : Operator) (pos : Pos) (ha : SoundE C n X k l a) (hb : SoundE C n X k r b) : SoundE C n X k (.BinOp l op r pos) (.bin op a b) := fun A fr env m σ ρ s Q hk sit h => by
  refine wpAny_BinOp (wpAny_mono (ha _ _ _ _ _ _ _ _ hk sit h) (fun c s₁ hp => PE.elim hp fun v σ₁ ρ₁ q hv sit₁ p₁ => ?_) fun a b x => x)
  refine go_on (hb _ _ _ _ _ _ _ _ hk sit₁ q) p₁ sit.fok (fun d s₂ hp => PE.elim hp fun w σ₂ ρ₂ q₂ hw sit₂ p₂ => ?_)
  exact wpAny_mono (bin_sound op sit₂ (hv.post sit₁.rel p₂) hw q₂) (fun _ _ x => (x.after p₂).after p₁) fun a b x => x

theorem SoundE.neg {l : Expr} {a : E} (pos : Pos) (ha : SoundE C n X k l a) : SoundE C n X k (.UnaryOp .USub l pos) (.neg a) := fun A fr env m σ ρ s Q hk sit h => by
  refine UnaryOp_ (wpAny_mono (ha _ _ _ _ _ _ _ _ hk sit h) (fun c s₁ hp => PE.elim hp fun v σ₁ ρ₁ qq hv sit₁ p₁ => ?_) fun a b x => x)
  refine ob_el qq fun i e q => ?_
  rw [intV_ok e] at hv; obtain ⟨t, rfl⟩ := hv
  exact PyProof.Rows.neg_int ((PE.int sit₁ q _ _).after p₁)
theorem SoundE.inv {l : Expr} {a : E} (pos : Pos) (ha : SoundE C n X k l a) : SoundE C n X k (.UnaryOp .Invert l pos) (.inv a) := fun A fr env m σ ρ s Q hk sit h => by
  refine UnaryOp_ (wpAny_mono (ha _ _ _ _ _ _ _ _ hk sit h) (fun c s₁ hp => PE.elim hp fun v σ₁ ρ₁ qq hv sit₁ p₁ => ?_) fun a b x => x)
  refine ob_el qq fun i e q => ?_
  rw [intV_ok e] at hv; obtain ⟨t, rfl⟩ := hv
  exact PyProof.Rows.invert_int ((PE.int sit₁ q _ _).after p₁)
theorem SoundE.not {l : Expr} {a : E} (pos : Pos) (ha : SoundE C n X k l a) : SoundE C n X k (.UnaryOp .Not l pos) (.not a) := fun A fr env m σ ρ s Q hk sit h => by
  refine UnaryOp_ (wpAny_mono (ha _ _ _ _ _ _ _ _ hk sit h) (fun c s₁ hp => PE.elim hp fun v σ₁ ρ₁ qq hv sit₁ p₁ => ?_) fun a b x => x)
  refine ob_el qq fun b e q => ?_
  exact PyProof.Rows.not_of (truth_sound hv e ((PE.bool sit₁ q).after p₁))

theorem behindInMarks_of {op : CmpOp} {e : Expr} (h : isSetE e = false) : behindInMarks op e = false := by
  cases e <;> first | rfl | exact noT h

theorem SoundE.cmp {l r : Expr} {a b : E} (op : CmpOp) (pos : Pos) (hs : isSetE r = false) (ha : SoundE C n X k l a) (hb : SoundE C n X k r b) : SoundE C n X k (.Compare l [op] [r] pos) (.cmp op a b) := fun A fr env m σ ρ s Q hk sit h => by
  refine wpAny_Compare1 (wpAny_mono (ha _ _ _ _ _ _ _ _ hk sit h) (fun c s₁ hp => PE.elim hp fun v σ₁ ρ₁ q hv sit₁ p₁ => ?_) fun a b x => x) (behindInMarks_of hs)
  refine go_on (hb _ _ _ _ _ _ _ _ hk sit₁ q) p₁ sit.fok (fun d s₂ hp => PE.elim hp fun w σ₂ ρ₂ qq hw sit₂ p₂ => ?_)
  refine ob_el qq fun r e q₂ => ?_
  exact cmp_sound op sit₂ (hv.post sit₁.rel p₂) hw e (((PE.bool sit₂ q₂).after p₂).after p₁)

/-- a test of an expression that is no not, and, or, if -/
theorem SoundT.cmp {l r : Expr} {a b : E} (op : CmpOp) (pos : Pos) (hs : isSetE r = false) (ha : SoundE C n X k l a) (hb : SoundE C n X k r b) : SoundT C n X k (.Compare l [op] [r] pos) (.cmp op a b) := fun A fr env m σ ρ s Q hk sit h => by
  refine wpAny_isTrue_Compare1 (wpAny_mono (ha _ _ _ _ _ _ _ _ hk sit h) (fun c s₁ hp => PE.elim hp fun v σ₁ ρ₁ q hv sit₁ p₁ => ?_) fun a b x => x) (behindInMarks_of hs)
  refine go_on (hb _ _ _ _ _ _ _ _ hk sit₁ q) p₁ sit.fok (fun d s₂ hp => PE.elim hp fun w σ₂ ρ₂ qq hw sit₂ p₂ => ?_)
  refine ob_el qq fun r e q₂ => ?_
  exact cmp_sound op sit₂ (hv.post sit₁.rel p₂) hw e (wpAny_truthy_bool ⟨_, _, q₂, sit₂, p₁.trans p₂⟩)

theorem SoundT.not {l : Expr} {a : E} (pos : Pos) (ha : SoundT C n X k l a) : SoundT C n X k (.UnaryOp .Not l pos) (.not a) := fun A fr env m σ ρ s Q hk sit h => by
  exact isTrue_not (wpAny_mono (ha _ _ _ _ _ _ _ _ hk sit h) (fun b s' x => PT.elim x fun σ₁ ρ₁ q sit₁ p₁ => ⟨σ₁, ρ₁, q, sit₁, p₁⟩) fun a b x => x)

noncomputable def All2 {α β : Type} (P : α → β → Prop) : List α → List β → Prop
  | [], [] => True
  | a :: as, b :: bs => P a b ∧ All2 P as bs
  | _, _ => False
theorem All2.of_trList {f : Expr → Option E} {P : Expr → E → Prop} (hf : ∀ a e, f a = some e → P a e) {as : List Expr} {es : List E} (h : trList f as = some es) : All2 P as es := by
  induction as generalizing es with
  | nil => cases h; trivial
  | cons a as ih =>
    exact obd_el h fun e h1 h => obd_el h fun r h2 h => (Option.some.inj h) ▸ ⟨hf _ _ h1, ih h2⟩

theorem SoundE.all {es : List E} (pos : Pos) : ∀ {as : List Expr}, as ≠ [] → All2 (SoundE C n X k) as es → SoundE C n X k (.BoolOp .And as pos) (.all es) := by
  induction es with
  | nil => intro as h0 h; cases as with
    | nil => exact absurd rfl h0
    | cons a as => exact h.elim
  | cons e es ih =>
    intro as h0 h
    cases as with
    | nil => exact h.elim
    | cons a as =>
      obtain ⟨h1, h2⟩ := h
      cases as with
      | nil =>
        cases es with
        | nil =>
          intro A fr env m σ ρ s Q hk sit h
          exact BoolOp_one (h1 _ _ _ _ _ _ _ _ hk sit h)
        | cons e' es => exact h2.elim
      | cons a' as =>
        cases es with
        | nil => exact h2.elim
        | cons e' es =>
          intro A fr env m σ ρ s Q hk sit h
          refine BoolOp_and (wpAny_mono (h1 _ _ _ _ _ _ _ _ hk sit h) (fun c s₁ hp => PE.elim hp fun v σ₁ ρ₁ qq hv sit₁ p₁ => ?_) fun a b x => x)
          refine ob_el qq fun b e q => truth_sound hv e ?_
          cases b with
          | true => exact go_on (ih (List.cons_ne_nil _ _) h2 _ _ _ _ _ _ _ _ hk sit₁ q) p₁ sit.fok fun a b x => x.after p₁
          | false => exact ⟨v, σ₁, ρ₁, q, hv, sit₁, p₁⟩

theorem SoundE.any {es : List E} (pos : Pos) : ∀ {as : List Expr}, as ≠ [] → All2 (SoundE C n X k) as es → SoundE C n X k (.BoolOp .Or as pos) (.any es) := by
  induction es with
  | nil => intro as h0 h; cases as with
    | nil => exact absurd rfl h0
    | cons a as => exact h.elim
  | cons e es ih =>
    intro as h0 h
    cases as with
    | nil => exact h.elim
    | cons a as =>
      obtain ⟨h1, h2⟩ := h
      cases as with
      | nil =>
        cases es with
        | nil =>
          intro A fr env m σ ρ s Q hk sit h
          exact BoolOp_one (h1 _ _ _ _ _ _ _ _ hk sit h)
        | cons e' es => exact h2.elim
      | cons a' as =>
        cases es with
        | nil => exact h2.elim
        | cons e' es =>
          intro A fr env m σ ρ s Q hk sit h
          refine BoolOp_or (wpAny_mono (h1 _ _ _ _ _ _ _ _ hk sit h) (fun c s₁ hp => PE.elim hp fun v σ₁ ρ₁ qq hv sit₁ p₁ => ?_) fun a b x => x)
          refine ob_el qq fun b e q => truth_sound hv e ?_
          cases b with
          | false => exact go_on (ih (List.cons_ne_nil _ _) h2 _ _ _ _ _ _ _ _ hk sit₁ q) p₁ sit.fok fun a b x => x.after p₁
          | true => exact ⟨v, σ₁, ρ₁, q, hv, sit₁, p₁⟩

theorem SoundT.all {es : List E} (pos : Pos) : ∀ {as : List Expr}, All2 (SoundT C n X k) as es → SoundT C n X k (.BoolOp .And as pos) (.all es) := by
  induction es with
  | nil => intro as h; cases as with
    | nil =>
      intro A fr env m σ ρ s Q hk sit h
      exact isTrue_and_nil ⟨_, _, h, sit, .refl⟩
    | cons a as => exact h.elim
  | cons e es ih =>
    intro as h
    cases as with
    | nil => exact h.elim
    | cons a as =>
      obtain ⟨h1, h2⟩ := h
      intro A fr env m σ ρ s Q hk sit h
      refine isTrue_and (wpAny_mono (h1 _ _ _ _ _ _ _ _ hk sit h) (fun b s₁ hp => PT.elim hp fun σ₁ ρ₁ q sit₁ p₁ => ?_) fun a b x => x)
      cases b with
      | true => exact go_on (ih h2 _ _ _ _ _ _ _ _ hk sit₁ q) p₁ sit.fok fun a b x => x.after p₁
      | false => exact ⟨σ₁, ρ₁, q, sit₁, p₁⟩
theorem SoundT.any {es : List E} (pos : Pos) : ∀ {as : List Expr}, All2 (SoundT C n X k) as es → SoundT C n X k (.BoolOp .Or as pos) (.any es) := by
  induction es with
  | nil => intro as h; cases as with
    | nil =>
      intro A fr env m σ ρ s Q hk sit h
      exact isTrue_or_nil ⟨_, _, h, sit, .refl⟩
    | cons a as => exact h.elim
  | cons e es ih =>
    intro as h
    cases as with
    | nil => exact h.elim
    | cons a as =>
      obtain ⟨h1, h2⟩ := h
      intro A fr env m σ ρ s Q hk sit h
      refine isTrue_or (wpAny_mono (h1 _ _ _ _ _ _ _ _ hk sit h) (fun b s₁ hp => PT.elim hp fun σ₁ ρ₁ q sit₁ p₁ => ?_) fun a b x => x)
      cases b with
      | false => exact go_on (ih h2 _ _ _ _ _ _ _ _ hk sit₁ q) p₁ sit.fok fun a b x => x.after p₁
      | true => exact ⟨σ₁, ρ₁, q, sit₁, p₁⟩

theorem SoundE.ite {t b o : Expr} {t' b' o' : E} (pos : Pos) (ht : SoundT C n X k t t') (hb : SoundE C n X k b b') (ho : SoundE C n X k o o') : SoundE C n X k (.IfExp t b o pos) (.ite t' b' o') := fun A fr env m σ ρ s Q hk sit h => by
  refine IfExp_ (wpAny_mono (ht _ _ _ _ _ _ _ _ hk sit h) (fun c s₁ hp => PT.elim hp fun σ₁ ρ₁ q sit₁ p₁ => ?_) fun a b x => x)
  cases c with
  | true => exact go_on (hb _ _ _ _ _ _ _ _ hk sit₁ q) p₁ sit.fok fun a b x => x.after p₁
  | false => exact go_on (ho _ _ _ _ _ _ _ _ hk sit₁ q) p₁ sit.fok fun a b x => x.after p₁
theorem SoundT.ite {t b o : Expr} {t' b' o' : E} (pos : Pos) (ht : SoundT C n X k t t') (hb : SoundT C n X k b b') (ho : SoundT C n X k o o') : SoundT C n X k (.IfExp t b o pos) (.ite t' b' o') := fun A fr env m σ ρ s Q hk sit h => by
  refine isTrue_IfExp (wpAny_mono (ht _ _ _ _ _ _ _ _ hk sit h) (fun c s₁ hp => PT.elim hp fun σ₁ ρ₁ q sit₁ p₁ => ?_) fun a b x => x)
  cases c with
  | true => exact go_on (hb _ _ _ _ _ _ _ _ hk sit₁ q) p₁ sit.fok fun a b x => x.after p₁
  | false => exact go_on (ho _ _ _ _ _ _ _ _ hk sit₁ q) p₁ sit.fok fun a b x => x.after p₁

/-- the plain test -/
theorem SoundT.plain {a : Expr} {e : E} (ha : SoundE C n X k a e) (he : ∀ m σ Q, wpT C n X e m σ Q → wpE C n X e m σ (truthQ Q))
    (hi : ∀ env whole, isTrue a env whole = (do let v ← whole; standAt a.pos; holding [v] (truthy v))) : SoundT C n X k a e := fun A fr env m σ ρ s Q hk sit h => by
  refine isTrue_plain (wpAny_mono (ha _ _ _ _ _ _ _ _ hk sit (he _ _ _ h)) (fun c s₁ hp => PE.elim hp fun v σ₁ ρ₁ qq hv sit₁ p₁ => ?_) fun a b x => x) (hi _ _)
  exact ob_el qq fun b e q => truth_sound hv e ⟨_, _, q, sit₁, p₁⟩

/-- a list of expressions -/
theorem starEach_cons {a : Expr} {as : List Expr} {env : Env} (h : isStar a = false) : starEach (a :: as) env = (false, eval a env) :: starEach as env := by
  cases a <;> first | rfl | exact noT h
theorem starEach_plain {as : List Expr} (pos : Pos) (env : Env) (h : as.any isStar = false) : backTo pos (starEach as env) = as.map fun e => (false, eval e env) := by
  induction as with
  | nil => rfl
  | cons a as ih =>
    rw [List.any_cons, Bool.or_eq_false_iff] at h
    rw [starEach_cons h.1, List.map_cons, ← ih h.2]; rfl
theorem sound_spliced {es : List E} : ∀ {as : List Expr}, All2 (SoundE C n X k) as es → ∀ A fr env m σ ρ s Q, EnvOk k env → Sit C n A fr env m σ ρ s → wpEs C n X es m σ Q →
    wpAny (model C.prog C.w) A (spliced (as.map fun e => (false, eval e env))) (fun cs s' => cs.length = as.length ∧ PEs C n A fr env m ρ s Q cs s') (ExcP C fr X (exOf env) ρ s) s := by
  induction es with
  | nil => intro as h A fr env m σ ρ s Q hk sit hq; cases as with
    | nil => exact Calls.spliced_nil ⟨rfl, [], _, _, hq, .nil, sit, .refl⟩
    | cons a as => exact h.elim
  | cons e es ih =>
    intro as h A fr env m σ ρ s Q hk sit hq
    cases as with
    | nil => exact h.elim
    | cons a as =>
      obtain ⟨h1, h2⟩ := h
      refine Calls.spliced_cons (wpAny_mono (h1 _ _ _ _ _ _ _ _ hk sit hq) (fun c s₁ hp => PE.elim hp fun v σ₁ ρ₁ q hv sit₁ p₁ => ?_) fun a b x => x)
      refine go_on (ih h2 _ _ _ _ _ _ _ _ hk sit₁ q) p₁ sit.fok (fun cs s₂ hp => ?_)
      obtain ⟨hl, vs, σ₂, ρ₂, q₂, hvs, sit₂, p₂⟩ := hp
      exact ⟨congrArg Nat.succ hl, v :: vs, σ₂, ρ₂, q₂, .cons (hv.post sit₁.rel p₂) hvs, sit₂, p₁.trans p₂⟩

theorem small_line {k : Nat} (h : k ≤ 1000) : k ≤ sizeLine := by rw [sizeLine_eq]; exact Nat.le_trans h (by decide)
/-- a new tuple -/
theorem PE.newTuple {A : Around} {fr env m σ ρ} {s : Shared} {Q : V → Store → Prop} (sit : Sit C n A fr env m σ ρ s) {xs : List V} {cs : List Value} (hv : VRs C ρ s.heap xs cs) (h : Q (.tup xs) σ) :
    PE C n A fr env m ρ s Q (.ref s.heap.objs.size) { s with heap := s.heap.push { cls := .type "tuple", data := .seq cs.toArray } } := by
  have hk : ∀ b o, s.heap.get? b = some o → (s.heap.push { cls := .type "tuple", data := .seq cs.toArray }).get? b = some o := fun b o e => Heap.get?_push_of_some _ e
  obtain ⟨a, p⟩ := sit.grow (s' := { s with heap := s.heap.push { cls := .type "tuple", data := .seq cs.toArray } }) hk rfl rfl
  exact ⟨.tup xs, σ, ρ, h, .tup ⟨_, Heap.get?_push_size _ rfl, rfl, _, rfl⟩ (hv.post sit.rel p), a, p⟩

theorem SoundE.tup {as : List Expr} {es : List E} (kd : Nat) (pos : Pos) (hs : as.any isStar = false) (hl : as.length ≤ 1000) (h : All2 (SoundE C n X k) as es) : SoundE C n X k (.Tuple as kd pos) (.tup es) := fun A fr env m σ ρ s Q hk sit hq => by
  refine wpAny_Tuple ?_
  rw [starEach_plain pos env hs]
  refine wpAny_mono (sound_spliced h _ _ _ _ _ _ _ _ hk sit hq) (fun cs s₁ hp => ?_) fun a b x => x
  obtain ⟨hcl, vs, σ₁, ρ₁, q, hv, sit₁, p₁⟩ := hp
  exact ⟨hcl ▸ small_line hl, (PE.newTuple sit₁ hv q).after p₁⟩
theorem SoundE.lst {as : List Expr} {es : List E} (pos : Pos) (hs : as.any isStar = false) (hl : as.length ≤ 1000) (h : All2 (SoundE C n X k) as es) : SoundE C n X k (.List as pos) (.lst es) := fun A fr env m σ ρ s Q hk sit hq => by
  refine wpAny_List ?_
  rw [starEach_plain pos env hs]
  refine wpAny_mono (sound_spliced h _ _ _ _ _ _ _ _ hk sit hq) (fun cs s₁ hp => ?_) fun a b x => x
  obtain ⟨hcl, vs, σ₁, ρ₁, q, hv, sit₁, p₁⟩ := hp
  exact ⟨hcl ▸ small_line hl, (PE.newList sit₁ hv q).after p₁⟩

end

end Mine

end

section
open PySem PySem.W PyProof.Rows
set_option linter.unusedVariables false
set_option maxRecDepth 100000
set_option tactic.hygienic false
namespace Mine

section
variable {C : Ctx} {n : Nat} {A : Around} {fr : List Env} {env : Env} {m : Loc} {σ : Store} {ρ : List Addr} {s : Shared} {E : Value → Shared → Prop} {Q : V → Store → Prop}

theorem dict_at (sit : Sit C n A fr env m σ ρ s) {i : Nat} {f : Int → Option V} {z : Nat} {l : Addr} (h : σ[i]? = some (.dict f z)) (e : ρ[i]? = some l) :
    ∃ g, s.heap.IntMap l g ∧ s.heap.DictLe l z ∧ ∀ k v, f k = some v → ∃ c, g k = some c ∧ VR C ρ s.heap v c := sit.rel.sr.obj i _ l h e

theorem subscripted_plain {e : Expr} (h : isSl e = false) (o i : Value) : subscripted e false o i = operate [o, i] (getItem o i) := by
  cases e <;> first | rfl | exact noT h

theorem wpAt_el {α : Type} {xs : List α} {k : Int} {Q : α → Prop} {G : Prop} (h : wpAt xs k Q) (g : ∀ x, 0 ≤ k → k < 2 ^ 63 → xs[k.toNat]? = some x → Q x → G) : G :=
  chk_el h fun h1 h => ob_el h fun x h2 h3 => g x (ixOk_ok h1).1 (ixOk_ok h1).2 h2 h3

/-- an item -/
inductive ItemOk (C : Ctx) (A : Around) (c d : Value) (s : Shared) (Q : Value → Shared → Prop) (E : Value → Shared → Prop) : Prop
  | mk (T : String) (id : String) (h1 : s.TypeIs c T) (h2 : typeLookup (.type T) "__getitem__" = pure (some (.builtin id))) (h3 : wpAny (model C.prog C.w) A (getItem c d) Q E s) : ItemOk C A c d s Q E
theorem item_sound {v w : V} {c d : Value} (sit : Sit C n A fr env m σ ρ s) (hv : VR C ρ s.heap v c) (hw : VR C ρ s.heap w d) {Qa : V → Prop} (h : wpItem v w σ Qa) {Q : Value → Shared → Prop} (hQ : ∀ y r t, Qa y → VR C ρ s.heap y r → Q r { s with toks := t }) :
    ItemOk C A c d s Q E := by
  refine ob_el h fun k hk h => ?_
  rw [intV_ok hk] at hw
  obtain ⟨u, rfl⟩ := hw
  cases v with
  | tup xs =>
    refine wpAt_el h fun x h2 h1 h3 h4 => ?_
    obtain ⟨ta, cs, rfl, ht, hvs⟩ := hv
    obtain ⟨cx, h5, h6⟩ := hvs.get h3
    refine ⟨_, _, ht.typeIs, slot_tuple_getitem.lookup, ?_⟩
    have hk : k.toNat < cs.length := (List.getElem?_eq_some_iff.mp h5).1
    exact PyProof.Rows.getItem_tuple ht (Int.le_trans (by decide) h2) h1 (PySem.seqIndex_of h2 ((Int.toNat_lt h2).mp hk)) (List.getElem?_toArray.trans h5) (hQ x cx s.toks h4 h6)
  | script ns =>
    refine wpAt_el h fun x h2 h1 h3 h4 => ?_
    obtain ⟨la, vs, rfl, hl, hi⟩ := hv
    obtain ⟨cx, h5, h6⟩ := (VRs.of_ints (C := C) (ρ := ρ) (h := s.heap) hi).get (i := k.toNat) (v := .int x) (by rw [List.getElem?_map, h3]; rfl)
    have hl' : s.heap.IsList la vs.toArray := hl.at fun o e => sit.rel.sr.base _ _ e
    exact ⟨_, _, hl'.typeIs, slot_list_getitem.lookup, wpAny_getItem_list hl' h2 h1 (List.getElem?_toArray.trans h5) (hQ _ cx s.toks h4 h6)⟩
  | ref i =>
    obtain ⟨la, rfl, e⟩ := hv
    refine ob_el h fun o hs h => ?_
    cases o with
    | list xs =>
      refine wpAt_el h fun x h2 h1 h3 h4 => ?_
      obtain ⟨cs, hl, hvs⟩ := list_at sit hs e
      obtain ⟨cx, h5, h6⟩ := hvs.get h3
      exact ⟨_, _, hl.typeIs, slot_list_getitem.lookup, wpAny_getItem_list hl h2 h1 (List.getElem?_toArray.trans h5) (hQ x cx s.toks h4 h6)⟩
    | dict f z =>
      refine ob_el h fun x h3 h4 => ?_
      obtain ⟨g, hm, hz, hf⟩ := dict_at sit hs e
      obtain ⟨cx, h5, h6⟩ := hf _ _ h3
      exact ⟨_, _, hm.typeIs, slot_dict_getitem.lookup, wpAny_getItem_intMap hm h5 (hQ x cx _ h4 h6)⟩
    | _ => exact h.elim
  | _ => exact h.elim

theorem line_len {α : Type} {l : List α} (h : l.length < 1000000) : l.toArray.size ≤ sizeLine := by rw [sizeLine_eq]; exact Nat.le_trans (Nat.le_of_lt h) (by decide)
theorem adjust_upto (b n : Nat) (hb : b ≤ n) : Builtin.Slice.sliceAdjust none (some (b : Int)) 1 (n : Int) = (0, (b : Int)) := by
  unfold Builtin.Slice.sliceAdjust
  have h1 : ¬ ((1 : Int) < 0) := by omega
  have h2 : ¬ ((b : Int) < 0) := by omega
  simp only [h1, h2, if_false]
  congr 1
  omega
theorem places_upto (b : Nat) : Builtin.Slice.slicePlaces 0 (b : Int) 1 = b := by
  unfold Builtin.Slice.slicePlaces
  have h1 : (1 : Int) > 0 := by omega
  simp only [h1, if_true, Int.ediv_one]
  split <;> omega
theorem sliceApplied_upto {sl : Addr} {b n : Nat} {u : Tok} {Q : Int × Int × Nat → Shared → Prop} (hs : s.heap.IsSliceOf sl .none (.int b u) .none) (hb : b ≤ n) (h : Q (0, 1, b) s) :
    wpAny (model C.prog C.w) A (Builtin.Slice.sliceApplied (.ref sl) (pure (n : Int))) Q E s := by
  obtain ⟨os, hos, hcs, hds⟩ := id hs
  unfold Builtin.Slice.sliceApplied Builtin.Slice.sliceFields
  refine wpAny_bind (wpAny_bind (wpAny_field hos hds (x := .none) rfl (wpAny_bind (wpAny_field hos hds (x := .int b u) rfl (wpAny_bind (wpAny_field hos hds (x := .none) rfl (wpAny_pure ?_)))))))
  refine wpAny_bind (slicePart_none ?_)
  show wpAny _ _ (if ((1 : Int) == 0) = true then _ else _) _ _ s
  rw [if_neg (by decide)]
  refine wpAny_bind (slicePart_none (wpAny_bind (slicePart_int (wpAny_bind (wpAny_pure ?_)))))
  show wpAny _ _ (match Builtin.Slice.sliceAdjust none (some (b : Int)) 1 (n : Int) with | (lo, hi) => pure (lo, (1 : Int), Builtin.Slice.slicePlaces lo hi 1)) _ _ s
  rw [adjust_upto b n hb]
  show wpAny _ _ (pure ((0 : Int), (1 : Int), Builtin.Slice.slicePlaces 0 (b : Int) 1)) _ _ s
  rw [places_upto]
  exact wpAny_pure h
theorem pick_upto (xs : Array Value) (b : Nat) : ((List.range b).filterMap fun (k : Nat) => xs[((0 : Int) + (k : Int) * 1).toNat]?).toArray = (xs.toList.take b).toArray := by
  have e : (fun (k : Nat) => xs[((0 : Int) + (k : Int) * 1).toNat]?) = (fun x => xs[x]?) ∘ fun x => 0 + x := by
    funext k
    have : ((0 : Int) + (k : Int) * 1).toNat = 0 + k := by omega
    simp only [this, Function.comp]
  have := pick_run xs 0 b
  rw [List.filterMap_map] at this
  rw [e, this]; simp
theorem getItem_tuple_upto {t sl : Addr} {items : Array Value} {b : Nat} {u : Tok} {Q : Value → Shared → Prop} (ht : IsTup s.heap t items) (hs : s.heap.IsSliceOf sl .none (.int b u) .none) (hb : b < items.size)
    (h : Q (.ref s.heap.objs.size) { s with heap := s.heap.push { cls := .type "tuple", data := .seq (items.toList.take b).toArray } })
    (hsz : items.size ≤ sizeLine) : wpAny (model C.prog C.w) A (getItem (.ref t) (.ref sl)) Q E s := by
  have hok : sizeOk (.seq (items.toList.take b).toArray) := by
    show (items.toList.take b).toArray.size ≤ sizeLine
    rw [List.size_toArray, List.length_take, Array.length_toList]
    omega
  obtain ⟨os, hos, hcs, hds⟩ := id hs
  have hTs : s.TypeIs (.ref sl) "slice" := ⟨os, hos, hcs⟩
  unfold getItem
  try with_reducible refine wpAny_holding ?_
  first | refine wpAny_bind (wpAny_pure ?_) | skip
  refine wpAny_bind (wpAny_sequenceKey ht.typeIs (by decide) ?_)
  refine wpAny_bind (wpAny_callSpecial?_slot (name := Str.ofString "__getitem__") ht.typeIs slot_tuple_getitem
    (wpAny_call_entry slot_tuple_getitem ht.typeIs entry_tuple_getitem ?_ (args_tuple_getitem _ _)))
  show wpAny _ _ (Builtin.Tuple.tupleItemsOf (.ref t) >>= _) _ _ s
  refine wpAny_bind (tupleItemsOf_ ht ?_)
  refine wpAny_bind (wpAny_typeOf hTs ?_)
  rw [if_pos (by decide)]
  refine wpAny_bind (sliceApplied_upto hs (Nat.le_of_lt hb) ?_)
  have hno : ¬ (((0 : Int) == 0 && (1 : Int) == 1 && b == items.size) = true) := by
    simp; omega
  show wpAny _ _ (if ((0 : Int) == 0 && (1 : Int) == 1 && b == items.size) = true then _ else _) _ _ s
  rw [if_neg hno, pick_upto items b]
  first
    | exact wpAny_bind (m := Builtin.Tuple.tupleExact _) (wpAny_newObj_type (wpAny_pure ⟨_, rfl, wpAny_pure h⟩) hok)
    | exact wpAny_bind (m := Builtin.Tuple.tupleExact _) (wpAny_newObj_type (wpAny_bind (wpAny_pure (wpAny_pure ⟨_, rfl, wpAny_pure h⟩))) hok)
    | exact wpAny_bind (wpAny_bind (m := Builtin.Tuple.tupleExact _) (wpAny_newObj_type (wpAny_pure (wpAny_pure ⟨_, rfl, wpAny_pure h⟩)) hok))
    | exact wpAny_bind (wpAny_bind (m := Builtin.Tuple.tupleExact _) (wpAny_newObj_type (wpAny_pure ⟨_, rfl, wpAny_pure h⟩) hok))
theorem upto_sound (sit : Sit C n A fr env m σ ρ s) {v : V} {c : Value} (hv : VR C ρ s.heap v c) {sl : Addr} {u : Int} {t : Tok} (hsl : s.heap.IsSliceOf sl .none (.int u t) .none) (q : wpUpto v u σ Q) :
    ItemOk C A c (.ref sl) s (PE C n A fr env m ρ s Q) E := by
  cases v with
  | tup xs =>
    refine chk_el q fun q1 q => ?_
    obtain ⟨q2, q3, q4⟩ := q
    obtain ⟨b, rfl⟩ := Int.eq_ofNat_of_zero_le (of_decide_eq_true q1)
    obtain ⟨ta, cs, rfl, ht, hvs⟩ := hv
    have hlen := hvs.length
    exact ⟨_, _, ht.typeIs, slot_tuple_getitem.lookup, getItem_tuple_upto ht hsl (show b < cs.length from hlen ▸ Int.ofNat_lt.mp q2) (PE.newTuple sit (hvs.take b) q4) (line_len (hlen ▸ q3))⟩
  | ref i =>
    refine ob_el q fun xs hs q => chk_el q fun q1 q => ?_
    obtain ⟨q2, q3, q4⟩ := q
    obtain ⟨b, rfl⟩ := Int.eq_ofNat_of_zero_le (of_decide_eq_true q1)
    obtain ⟨la, rfl, e⟩ := hv
    obtain ⟨cs, hl, hvs⟩ := list_at sit (listAt_ok hs) e
    have hlen := hvs.length
    exact ⟨_, _, hl.typeIs, slot_list_getitem.lookup, wpAny_getItem_list_slice hl hsl .none (.int _ _) .none (fun q => nomatch q) (by rw [slicePick_upto']; exact PE.newList sit (hvs.take b) q4) (line_len (hlen ▸ q3))⟩
  | _ => exact q.elim
end

section
variable {C : Ctx} {n : Nat} {X : Store → Prop} {k : Kinds}
theorem SoundE.sub {l r : Expr} {a b : E} (pos : Pos) (hs : isSl r = false) (ha : SoundE C n X k l a) (hb : SoundE C n X k r b) : SoundE C n X k (.Subscript l r pos) (.sub a b) := fun A fr env m σ ρ s Q hk sit h => by
  refine Subscript_ (wpAny_mono (ha _ _ _ _ _ _ _ _ hk sit h) (fun c s₁ hp => PE.elim hp fun v σ₁ ρ₁ q hv sit₁ p₁ => ?_) fun a b x => x)
  refine go_on (hb _ _ _ _ _ _ _ _ hk sit₁ q) p₁ sit.fok (fun d s₂ hp => PE.elim hp fun w σ₂ ρ₂ q₂ hw sit₂ p₂ => ?_)
  obtain ⟨T, id, hT, hl, hg⟩ := item_sound (E := ExcP C fr X (exOf env) ρ s) (A := A) (Q := PE C n A fr env m ρ s Q) sit₂ (hv.post sit₁.rel p₂) hw q₂ fun y r t hy hr => ((PE.tok sit₂ hy hr t).after p₂).after p₁
  exact tail_any hT hl hg (subscripted_plain hs _ _)

theorem SoundE.upto {l : Expr} {a : E} {u : Int} {kd : Nat} {p1 p2 pos : Pos} (ha : SoundE C n X k l a) :
    SoundE C n X k (.Subscript l (.Slice none (some (.Constant (.int u) kd p1)) none p2) pos) (.upto a u) := fun A fr env m σ ρ s Q hk sit h => by
  refine Subscript_ (wpAny_mono (ha _ _ _ _ _ _ _ _ hk sit h) (fun c s₁ hp => PE.elim hp fun v σ₁ ρ₁ q hv sit₁ p₁ => ?_) fun a b x => x)
  refine wpAny_Slice ?_
  rw [evalPart_none, evalPart_some]
  refine wpAny_pure (wpAny_Constant_int ?_)
  refine wpAny_pure ?_
  have hk2 : ∀ b o, s₁.heap.get? b = some o → (s₁.heap.push { cls := .type "slice", data := .fields #[.none, .int u s₁.toks, .none] }).get? b = some o := fun b o e => Heap.get?_push_of_some _ e
  obtain ⟨sit₂, p₂⟩ := sit₁.grow (s' := { s₁ with heap := s₁.heap.push { cls := .type "slice", data := .fields #[.none, .int u s₁.toks, .none] }, toks := s₁.toks + 1 }) hk2 rfl rfl
  have hsl := Heap.IsSliceOf.new s₁.heap .none (.int u s₁.toks) .none
  have hv₂ := hv.post sit₁.rel p₂
  obtain ⟨T, id, hT, hl, hg⟩ := upto_sound (A := A) (E := ExcP C fr X (exOf env) ρ s) sit₂ hv₂ hsl q
  exact tail_any hT hl (wpAny_mono hg (fun a b x => (x.after p₂).after p₁) fun a b x => x) rfl
end

end Mine

end

section
open PySem PySem.W PyProof.Rows
set_option linter.unusedVariables false
set_option maxRecDepth 100000
set_option tactic.hygienic false
namespace Mine

section
variable {C : Ctx} {n : Nat} {A : Around} {fr : List Env} {env : Env} {m : Loc} {σ : Store} {ρ : List Addr} {s : Shared} {E : Value → Shared → Prop} {Q : V → Store → Prop}

theorem inst_at (sit : Sit C n A fr env m σ ρ s) {i d : Nat} {cls : String} {l : Addr} (h : σ[i]? = some (.inst cls d)) (e : ρ[i]? = some l) :
    ∃ D K, C.fnv cls = some (.ref K) ∧ ρ[d]? = some D ∧ s.heap.get? l = some (instObj K D) := sit.rel.sr.obj i _ l h e
theorem ns_at (sit : Sit C n A fr env m σ ρ s) {i : Nat} {f : String → Option V} {l : Addr} (h : σ[i]? = some (.ns f)) (e : ρ[i]? = some l) :
    ∃ g, s.heap.Ns1 l g ∧ Within g (geoAttrs.map Str.ofString) ∧ ∀ x v, f x = some v → ∃ c, g (Str.ofString x) = some c ∧ VR C ρ s.heap v c := sit.rel.sr.obj i _ l h e

theorem lookIn_of_ns {h : Heap} {a : Addr} {g : Str → Option Value} (x : h.Ns a g) : ∃ o, h.get? a = some o ∧ ∀ name, lookIn name o = some (g name) := by
  obtain ⟨o, es, ep, h1, h2, h3, h4⟩ := x
  refine ⟨o, h1, fun name => ?_⟩
  unfold lookIn
  rw [h2, ← h4 name]
  show (match es.toList.find? (fun e => e.key.isStr name) with
    | some e => some (some e.val)
    | none => if es.toList.any (·.refKey) then none else some none) = some ((es.find? (fun e => e.key.isStr name)).map (·.val))
  rw [← Array.find?_toList]
  cases es.toList.find? (fun e => e.key.isStr name) with
  | some e => rfl
  | none =>
    show (if es.toList.any (·.refKey) then none else some none) = _
    rw [if_neg]; rfl
    rw [List.any_eq_true]
    rintro ⟨e, he, hr⟩
    obtain ⟨nm, t, hk⟩ := h3 e (Array.mem_toList_iff.mp he)
    rw [DictEntry.refKey, hk] at hr; cases hr

theorem handedIn_of {v : V} {c : Value} {ρ : List Addr} {h : Heap} (hv : VR C ρ h v c) (hf : (!isFnV v) = true) : handedIn c = true := by
  cases v with
  | none => rw [show c = .none from hv]; rfl
  | bool b => rw [show c = .bool b from hv]; rfl
  | int => obtain ⟨_, rfl⟩ := hv; rfl
  | str => obtain ⟨_, rfl⟩ := hv; rfl
  | tup => obtain ⟨_, _, rfl, _⟩ := hv; rfl
  | ref => obtain ⟨_, rfl, _⟩ := hv; rfl
  | rng => obtain ⟨_, _, _, _, rfl, _⟩ := hv; rfl
  | script => obtain ⟨_, _, rfl, _⟩ := hv; rfl
  | fn => cases hf

/-- an own object of the model -/
inductive GeoOkAt (C : Ctx) (ρ : List Addr) (s : Shared) (c : Value) (D : Nat) (f : String → Option V) : Prop
  | mk (l K d : Addr) (g : Str → Option Value) (o : Obj) (h0 : c = .ref l) (h1 : C.fnv "Geometry" = some (.ref K)) (h2 : ρ[D]? = some d) (h3 : s.heap.get? l = some (instObj K d)) (h4 : s.heap.Ns1 d g) (h5 : Within g (geoAttrs.map Str.ofString))
      (h6 : ∀ x v, f x = some v → ∃ c, g (Str.ofString x) = some c ∧ VR C ρ s.heap v c) (h7 : InstAt s.heap l (instObj K d) K (some o)) (h8 : ∀ name, lookIn name o = some (g name)) : GeoOkAt C ρ s c D f
theorem geo_at (sit : Sit C n A fr env m σ ρ s) {v : V} {c : Value} (hv : VR C ρ s.heap v c) {p : Nat × (String → Option V)} (h : geoAt σ v = some p) : σ[p.1]? = some (.ns p.2) ∧ GeoOkAt C ρ s c p.1 p.2 := by
  refine obd_el h fun i h1 h => obd_el h fun o h2 h => obd_el h fun d h3 h => obd_el h fun o' h4 h => obd_el h fun f h5 h => ?_
  rw [refV_ok h1] at hv
  rw [instO_ok h3] at h2
  rw [nsO_ok h5] at h4
  rw [← Option.some.inj h]
  obtain ⟨l, rfl, e⟩ := hv
  obtain ⟨D, K, k1, k2, k3⟩ := inst_at sit h2 e
  obtain ⟨g, g1, gw, g3⟩ := ns_at sit h4 k2
  obtain ⟨o, o1, o3⟩ := lookIn_of_ns g1.ns
  exact ⟨h4, l, K, D, g, o, rfl, k1, k2, k3, g1, gw, g3, ⟨k3, rfl, rfl, o1⟩, o3⟩

theorem attr_sound (OK : C.Ok) {v : V} {c : Value} {name : String} (sit : Sit C n A fr env m σ ρ s) (hv : VR C ρ s.heap v c) (h : wpAttr v name σ fun y => Q y σ) :
    wpAny (model C.prog C.w) A (getAttr c (Str.ofString name) true) (PE C n A fr env m ρ s Q) E s := by
  refine ob_el h fun p hp h => chk_el h fun hn h => ob_el h fun x h2 h => chk_el h fun h3 h4 => ?_
  obtain ⟨_, l, K, D, g, o, rfl, k1, k2, k3, g1, gw, g3, I, o3⟩ := geo_at sit hv hp
  obtain ⟨cx, c1, c2⟩ := g3 _ _ h2
  obtain ⟨get, set, ⟨cd, cd1, cd2⟩, over, attrs⟩ := OK.geo K k1
  refine get_value (OK.KB.keeps sit.rel.sr.base) I get ?_ (handedIn_of c2 h3) (PE.tok sit h4 c2 _)
  unfold findObj
  rw [cd1, Option.bind_some, attrs name (List.contains_iff_mem.mp hn), Option.bind_some, Option.bind_some, W.ownOf, cd2, if_pos rfl]
  show ((some o).bind (lookIn (Str.ofString name))).bind _ = _
  rw [Option.bind_some, o3, c1]; rfl

theorem Within.set {g : Str → Option Value} {ns : List Str} (hw : Within g ns) {name : Str} {v : Value} (hin : name ∈ ns) : Within (fun y => if y = name then some v else g y) ns := fun y hy => by
  by_cases q : y = name
  · rw [q]; exact hin
  · exact hw y (by simpa [q] using hy)
theorem osa_ns {K : Frag} {x C₀ dx : Addr} {name : Str} {tk : Tok} {v : Value} {R : Result → Shared → Prop} {g : Str → Option Value} (X : K.In s.heap) (hx : s.heap.get? x = some (instObj C₀ dx)) {od : Option Obj}
    (I : InstAt s.heap x (instObj C₀ dx) C₀ od) (hp : plainOver K C₀ = true) (ht : takerIn K C₀ name = some none) {cd : ClassData} (hc : clsIn K C₀ = some cd) (hd : cd.hasDict = true) (hn : s.heap.Ns1 dx g) {ns : List Str} (hw : Within g ns) (hin : name ∈ ns) (hsz : ns.length ≤ 1000)
    (h : ∀ h', h'.Ns1 dx (fun y => if y = name then some v else g y) → Heap.SameBut dx s.heap h' → R (.ok (.ret .none)) { s with heap := h', toks := s.toks + 1 }) :
    codeAny (model C.prog C.w) A (.call (.builtin "object.__setattr__") ⟨[.ref x, .str name tk, v], []⟩) R s := by
  refine osa_open X I hp ht fun b => ?_
  refine wpAny_bind (wpAny_pure (wpAny_bind (wpAny_bind (wpAny_loadPart hx (wpAny_bind ((looks_clsIn X hc).here ?_))))))
  rw [hd]
  refine wpAny_pure (a := some dx) (wpAny_bind (wpAny_pure (wpAny_bind ?_)))
  refine wpAny_nsSet1 hn fun h' hn' hsb => ?_
  obtain ⟨oD, esD, epD, hoD, hdD, hcD⟩ := hn'.count (Within.set hw hin)
  refine wpAny_bind (wpAny_lookBehind hoD (by rw [hdD]; exact pastItsLine_dict (Nat.le_trans hcD (by rw [sizeLine_eq]; omega))) ?_)
  exact wpAny_pure (h h' hn' hsb)

theorem setAttr_sound (OK : C.Ok) {va v : V} {c d : Value} {name : String} {σ' : Store} (sit : Sit C n A fr env m σ ρ s) (ha : VR C ρ s.heap va c) (hv : VR C ρ s.heap v d) (h : setAttrV σ va name v = some σ')
    {Q : Unit → Shared → Prop} (hQ : ∀ s', Sit C n A fr env m σ' ρ s' → Post C (exOf env) ρ ρ s s' → Q () s') :
    wpAny (model C.prog C.w) A (setAttr c (Str.ofString name) d) Q E s := by
  refine obd_el h fun p hp h => grd_el h fun hz h => ?_
  rw [← Option.some.inj h] at hQ
  obtain ⟨hd, l, K, D, g, o, rfl, k1, k2, k3, g1, gw, g3, I, o3⟩ := geo_at sit ha hp
  have hin := List.contains_iff_mem.mp hz
  obtain ⟨get, set, ⟨cd, cd1, cd2⟩, over, attrs⟩ := OK.geo K k1
  refine set_plain (OK.KB.keeps sit.rel.sr.base) I set (osa_ns (s := { s with toks := s.toks + 1 }) (OK.KB.keeps sit.rel.sr.base) k3 I over (by unfold takerIn; rw [attrs name hin]; rfl) cd1 cd2 g1 gw (List.mem_map_of_mem hin) (by decide) fun h' hn hsb => ?_)
  have imm : ∀ b o, s.heap.get? b = some o → Imm o → h'.get? b = some o := fun b o e hi => (hsb.2 b fun q => by subst q; exact sit.rel.sr.not_imm e hi (List.mem_of_getElem? k2)).trans e
  have ho : OR C ρ h' (.ns (fun y => if y = name then some v else p.2 y)) D := ⟨_, hn, Within.set gw (List.mem_map_of_mem hin), fun x w e1 => by
    have e1 : (if x = name then some v else p.2 x) = some w := e1
    by_cases q : x = name
    · rw [if_pos q] at e1
      rw [← Option.some.inj e1, q]
      exact ⟨d, if_pos rfl, hv.mono (fun _ _ e => e) imm⟩
    · rw [if_neg q] at e1
      obtain ⟨c', e3, e4⟩ := g3 _ _ e1
      exact ⟨c', by rw [if_neg fun z => q (ofString_inj z)]; exact e3, e4.mono (fun _ _ e => e) imm⟩⟩
  obtain ⟨si, p⟩ := sit.update (s' := { s with heap := h', toks := s.toks + 1 + 1 }) hd k2 hsb ho rfl rfl
  exact hQ _ si p

end

end Mine

end

section
open PySem PySem.W PyProof.Rows
set_option linter.unusedVariables false
set_option maxRecDepth 100000
set_option tactic.hygienic false
namespace Mine

section
variable {C : Ctx} {n : Nat} {X : Store → Prop} {k : Kinds}

theorem SoundE.attr (OK : C.Ok) {x a : Str} (hx : nameOk x = true) (hl : isLoc k x = true) (ha : Str.ofString a.toString = a) (p pos : Pos) :
    SoundE C n X k (.Attribute (.Name x p) a pos) (.attr x.toString a.toString) := fun A fr env m σ ρ s Q hk sit h => by
  refine ob_el h fun v h1 h2 => ?_
  refine Attribute_name (wpAny_Name (load_loc hk sit (nameOk_eq hx).1 hl h1 fun c hc => ?_) (nameOk_eq hx).2)
  have := attr_sound (E := ExcP C fr X (exOf env) ρ s) (A := A) OK sit hc h2
  rwa [ha] at this

theorem callWith_any {A : Around} {E : Value → Shared → Prop} {s : Shared} {pos : Pos} {f : Value} {as : List (Sem Value)} {Q : Value → Shared → Prop} (hne : as ≠ [])
    (h : wpAny (model C.prog C.w) A (spliced (as.map fun t => (false, t))) (fun vs s₁ => C.B.StaysIn s₁.heap ∧ KeeperOk C f ∧ wpAny (model C.prog C.w) A (call f vs) Q E s₁) E s) :
    wpAny (model C.prog C.w) A (callWith pos f [] (as.map fun t => (false, t)) []) Q E s := by
  have hev : wpAny (model C.prog C.w) A (evalArgs f true (as.map fun t => (false, t)) []) (fun a s₁ => a.kw = [] ∧ C.B.StaysIn s₁.heap ∧ KeeperOk C f ∧ wpAny (model C.prog C.w) A (call f a.pos) Q E s₁) E s := by
    cases as with
    | nil => exact absurd rfl hne
    | cons t as => exact Calls.evalArgs_plain (wpAny_mono h (fun vs s₁ h₁ => ⟨rfl, h₁⟩) fun a b x => x)
  unfold callWith
  refine wpAny_bind (wpAny_holding (wpAny_mono hev (fun a s₁ h₁ => wpAny_bind (wpAny_standAt ?_)) fun a b x => x))
  obtain ⟨pos', kw⟩ := a
  obtain ⟨rfl, h2, h3, h4⟩ := h₁
  have hst : ((as.map fun t => (false, t)).any (·.1)) = false := by simp
  have tail : ∀ {t : Sem Value}, wpAny (model C.prog C.w) A t Q E s₁ → wpAny (model C.prog C.w) A (t >>= fun r => holding [r] point >>= fun _ => pure r) Q E s₁ :=
    fun ht => wpAny_bind (wpAny_mono ht (fun r s₂ hr => wpAny_bind (wpAny_holding (wpAny_point (wpAny_pure hr)))) fun a b x => x)
  simp only [hst, List.any_nil, Bool.or_false]
  refine wpAny_bind (h3 _ _ _ _ h2 fun kp => ?_)
  cases kp
  · show wpAny _ _ (if _ then _ else _) _ _ _
    split
    · exact tail h4
    · exact tail (by unfold callMarked; exact Calls.wpAny_keep h4)
  · show wpAny _ _ (if _ then _ else _) _ _ _
    split
    · exact tail h4
    · exact tail (by unfold callMarked; exact Calls.wpAny_keep h4)
  · exact tail h4
  · exact tail (wpAny_operating h4)

/-- behind a call that knows no frame -/
theorem Sit.call {A : Around} {fr env m σ ρ} {s s' : Shared} {σ' : Store} {ρ' : List Addr} (x : Sit C n A fr env m σ ρ s) (p : Post C noEx ρ ρ' s s') (hr : SR C σ' ρ' s'.heap) :
    Sit C n A fr env m σ' ρ' s' ∧ Post C (exOf env) ρ ρ' s s' := by
  have p' : Post C (exOf env) ρ ρ' s s' := ⟨p.gens, p.os, p.pre, fun a h h' => ⟨(p.fresh a h h').1, x.rel.not_ex_of_none (p.fresh a h h').1⟩, fun b o e h _ => p.keep b o e h (fun q => q)⟩
  have imm : ∀ b o, s.heap.get? b = some o → Imm o → s'.heap.get? b = some o := fun b o e hi => (p.keep b o e (x.rel.sr.not_imm e hi) (fun q => q)).imm hi
  have old : ∀ b o, s.heap.get? b = some o → b ∉ ρ → b ∉ ρ' := fun b o e h h' => by have := (p.fresh b h' h).1; rw [e] at this; cases this
  have R : Rel C env ⟨m, σ'⟩ ρ' s'.heap := by
    refine ⟨hr, ?_, fun nm a hm => ?_, fun y v e1 e2 => ?_, ⟨x.rel.locNew.1, ?_⟩, fun nm a hm => ?_, x.rel.apart⟩
    · obtain ⟨mm, h1, h2⟩ := x.rel.ns
      exact ⟨mm, ns_kept h1 fun o e => p.keep _ o e x.rel.locNew.2 (fun q => q), fun y v e1 e2 => by obtain ⟨c, e3, e4⟩ := h2 y v e1 e2; exact ⟨c, e3, e4.mono p.pre imm⟩⟩
    · obtain ⟨ov, o, h1, h2⟩ := x.rel.cell nm a hm
      exact ⟨ov, o, (p.keep _ _ h1 (x.rel.cellNew nm a hm).2.1 (fun q => q)).cell h2, h2⟩
    · obtain ⟨a, c, e3, ⟨o, h1, h2⟩, e5⟩ := x.rel.cellv y v e1 e2
      exact ⟨a, c, e3, ⟨o, (p.keep _ _ h1 (x.rel.cellNew _ a (mem_of_lookup e3)).2.1 (fun q => q)).cell h2, h2⟩, e5.mono p.pre imm⟩
    · obtain ⟨mm, ⟨o, es, ep, h1, r⟩, h2⟩ := x.rel.ns
      exact old _ _ h1 x.rel.locNew.2
    · obtain ⟨ov, o, h1, h2⟩ := x.rel.cell nm a hm
      obtain ⟨c1, c2, c3⟩ := x.rel.cellNew nm a hm
      exact ⟨c1, old _ _ h1 c2, c3⟩
  exact ⟨x.post p' R, p'⟩

theorem ExcG.ofCall {fr : List Env} {ex : Addr → Prop} {ρ : List Addr} {s s' : Shared} {e : Value} (x : ExcP C fr X noEx ρ s e s') (hx : ∀ a, s.heap.get? a = none → ¬ ex a) : ExcP C fr X ex ρ s e s' := by
  obtain ⟨σ', ρ', ea, a0, Bx, K, h1, h2, h3, h4, h5, h6, h7, h8, h9, h10, h11⟩ := x
  exact ⟨σ', ρ', ea, a0, Bx, K, h1, h2, h3, h4, h5, h6, h7, h8, fun a ha hn => ⟨(h9 a ha hn).1, hx a (h9 a ha hn).1⟩, fun b o e h1 _ h3 => h10 b o e h1 (fun q => q) h3, fun L o hL _ e => h11 L o hL (fun q => q) e⟩

theorem Room.mono {A : Around} {a b : Nat} (h : Room A a) (hab : b ≤ a) : Room A b := ⟨h.handled, by have := h.depth; omega, by have := h.units; omega⟩

theorem map_false {as : List Expr} {env : Env} : as.map (fun e => (false, eval e env)) = (as.map fun e => eval e env).map fun t => (false, t) := by simp

/-- the call of a name's value; the arguments' own exceptions apart -/
theorem call_core (OK : C.Ok) {A : Around} {fr : List Env} {env : Env} {m : Loc} {σ : Store} {ρ : List Addr} {s : Shared} {Ex : Value → Shared → Prop} {Xa Xc : Store → Prop} {x : Str} {p pos : Pos} {f : Mine.E} {as : List Expr} {es : List Mine.E} (hf : SoundE C n Xa k (.Name x p) f) (hs : as.any isStar = false) (hne : as ≠ []) (h : All2 (SoundE C n Xa k) as es)
    (hk : EnvOk k env) (sit : Sit C n A fr env m σ ρ s) {Q : V → Store → Prop}
    (hq : wpE C n Xa f m σ fun fv σ₁ => wpEs C n Xa es m σ₁ fun vs σ₂ => ob (fnV fv) fun g => natP n fun j => SemCall C j g vs σ₂ Q Xc)
    (ha : ∀ e s', ExcP C fr Xa (exOf env) ρ s e s' → Ex e s')
    (hc : ∀ e s' σ₂ ρ₂ s₂, Sit C n A fr env m σ₂ ρ₂ s₂ → Post C (exOf env) ρ ρ₂ s s₂ → ExcP C fr Xc noEx ρ₂ s₂ e s' → Ex e s') :
    wpAny (model C.prog C.w) A (eval (.Call (.Name x p) as [] pos) env) (PE C n A fr env m ρ s Q) Ex s := by
  refine wpAny_Call_Name_kw (wpAny_mono (hf _ _ _ _ _ _ _ _ hk sit hq) (fun c s₁ hp => PE.elim hp fun v σ₁ ρ₁ q hv sit₁ p₁ => ?_) ha)
  rw [starEach_plain pos env hs, map_false]
  refine callWith_any (fun q => hne (List.map_eq_nil_iff.mp q)) ?_
  rw [← map_false]
  refine wpAny_mono (sound_spliced h _ _ _ _ _ _ _ _ hk sit₁ q) (fun cs s₂ hp => ?_) fun e s' x => ha e s' (x.after p₁ sit.fok)
  obtain ⟨_, vs, σ₂, ρ₂, q, hvs, sit₂, p₂⟩ := hp
  refine ob_el q fun g e q => natP_el q fun j en hc' => ?_
  subst en
  rw [fnV_ok e] at hv
  refine ⟨sit₂.rel.sr.base, OK.keeper _ _ hv, ?_⟩
  refine wpAny_mono (hc' A fr ρ₂ s₂ c cs (sit₂.room.mono (Nat.le_succ _)) sit₂.frs sit₂.fok sit₂.rel.sr hvs hv) (fun r s₃ hp => ?_) fun e s₃ x => hc e s₃ σ₂ ρ₂ s₂ sit₂ (p₁.trans p₂) x
  obtain ⟨w, σ₃, ρ₃, q₃, hw, hr, p₃⟩ := hp
  obtain ⟨sit₃, p₃'⟩ := sit₂.call p₃ hr
  exact ⟨w, σ₃, ρ₃, q₃, hw, sit₃, (p₁.trans p₂).trans p₃'⟩

theorem SoundE.call (OK : C.Ok) {x : Str} {p pos : Pos} {f : E} {as : List Expr} {es : List E} (hf : SoundE C n X k (.Name x p) f) (hs : as.any isStar = false) (hne : as ≠ []) (h : All2 (SoundE C n X k) as es) :
    SoundE C n X k (.Call (.Name x p) as [] pos) (.call f es) := fun A fr env m σ ρ s Q hk sit hq =>
  call_core OK hf hs hne h hk sit hq (fun a b x => x) fun e s' σ₂ ρ₂ s₂ sit₂ p₂ x => (x.ofCall fun a => sit₂.rel.not_ex_of_none).after p₂ sit.fok

end

end Mine

end

section
open PySem PySem.W PyProof.Rows
set_option linter.unusedVariables false
set_option maxRecDepth 100000
set_option tactic.hygienic false
namespace Mine

section
variable {C : Ctx} {n : Nat} {A : Around} {fr : List Env} {env : Env} {m : Loc} {σ : Store} {ρ : List Addr} {s : Shared} {E : Value → Shared → Prop} {Q : V → Store → Prop}

theorem PE.grew (sit : Sit C n A fr env m σ ρ s) {v : V} {c : Value} (h : Q v σ) {h' : Heap} (hk : ∀ b o, s.heap.get? b = some o → h'.get? b = some o) (hv : VR C ρ h' v c) (t : Nat) :
    PE C n A fr env m ρ s Q c { s with heap := h', toks := t } := by
  obtain ⟨a, b⟩ := sit.grow (s' := { s with heap := h', toks := t }) hk rfl rfl
  exact ⟨v, σ, ρ, h, hv, a, b⟩

theorem best_facts {vs : List Value} {ns : List Int} (hi : IntsAre vs ns) (hne : ns ≠ []) : ∃ xs : Array (Int × Tok), vs.toArray = intItems xs ∧ ns = xs.toList.map (·.1) ∧ 0 < xs.size := by
  obtain ⟨xs, e⟩ := hi.allInts.items
  have hns : ns = xs.toList.map (·.1) := by rw [← hi.numsOf, ← nums_intItems, ← e]
  refine ⟨xs, e, hns, ?_⟩
  have h3 : 0 < ns.length := List.length_pos_iff.mpr hne
  rw [hns, List.length_map, Array.length_toList] at h3; exact h3

theorem max_facts {xs : Array (Int × Tok)} (hsz : 0 < xs.size) {ns : List Int} (hns : ns = xs.toList.map (·.1)) :
    numAt xs (argBest (fun i j => decide (numAt xs i > numAt xs j)) (xs.size - 1)) ∈ ns ∧ ∀ a ∈ ns, a ≤ numAt xs (argBest (fun i j => decide (numAt xs i > numAt xs j)) (xs.size - 1)) := by
  obtain ⟨h1, h2⟩ := argBest_gt (numAt xs) (xs.size - 1)
  refine ⟨?_, fun a ha => ?_⟩
  · rw [hns, numAt_eq]; exact PySem.getD_mem (by rw [List.length_map, Array.length_toList]; omega)
  · rw [hns] at ha
    obtain ⟨j, hj, rfl⟩ := PySem.mem_getD ha
    rw [List.length_map, Array.length_toList] at hj
    rw [← numAt_eq]; exact h2 j (by omega)
theorem min_facts {xs : Array (Int × Tok)} (hsz : 0 < xs.size) {ns : List Int} (hns : ns = xs.toList.map (·.1)) :
    numAt xs (argBest (fun i j => decide (numAt xs i < numAt xs j)) (xs.size - 1)) ∈ ns ∧ ∀ a ∈ ns, numAt xs (argBest (fun i j => decide (numAt xs i < numAt xs j)) (xs.size - 1)) ≤ a := by
  obtain ⟨h1, h2⟩ := argBest_lt (numAt xs) (xs.size - 1)
  refine ⟨?_, fun a ha => ?_⟩
  · rw [hns, numAt_eq]; exact PySem.getD_mem (by rw [List.length_map, Array.length_toList]; omega)
  · rw [hns] at ha
    obtain ⟨j, hj, rfl⟩ := PySem.mem_getD ha
    rw [List.length_map, Array.length_toList] at hj
    rw [← numAt_eq]; exact h2 j (by omega)

theorem ints_len {vs : List Value} {ns : List Int} (h : IntsAre vs ns) : vs.length = ns.length := by
  induction h with
  | nil => rfl
  | cons a t _ ih => simp [ih]

theorem max_list_sound (hh : A.handled = none) (sit : Sit C n A fr env m σ ρ s) {a : Addr} {cs : List Value} {l : List Int} (hl : s.heap.IsList a cs.toArray) (hi : IntsAre cs l) (hne : l ≠ [])
    (h : ∀ M, M ∈ l → (∀ a ∈ l, a ≤ M) → Q (.int M) σ) : wpAny (model C.prog C.w) A (call (.builtin "max") [.ref a]) (PE C n A fr env m ρ s Q) E s := by
  obtain ⟨xs, e, hns, hsz⟩ := best_facts hi hne
  rw [e] at hl
  refine max_intList hh hl hsz fun v h' tk hv hk => ?_
  obtain ⟨t, rfl⟩ := intItems_at hv
  obtain ⟨f1, f2⟩ := max_facts hsz hns
  exact PE.grew sit (h _ f1 f2) hk (.int _ t) tk
theorem min_list_sound (hh : A.handled = none) (sit : Sit C n A fr env m σ ρ s) {a : Addr} {cs : List Value} {l : List Int} (hl : s.heap.IsList a cs.toArray) (hi : IntsAre cs l) (hne : l ≠ [])
    (h : ∀ M, M ∈ l → (∀ a ∈ l, M ≤ a) → Q (.int M) σ) : wpAny (model C.prog C.w) A (call (.builtin "min") [.ref a]) (PE C n A fr env m ρ s Q) E s := by
  obtain ⟨xs, e, hns, hsz⟩ := best_facts hi hne
  rw [e] at hl
  refine min_intList hh hl hsz fun v h' tk hv hk => ?_
  obtain ⟨t, rfl⟩ := intItems_at hv
  obtain ⟨f1, f2⟩ := min_facts hsz hns
  exact PE.grew sit (h _ f1 f2) hk (.int _ t) tk
theorem max_tuple_sound (hh : A.handled = none) (sit : Sit C n A fr env m σ ρ s) {a : Addr} {cs : List Value} {l : List Int} (hl : s.heap.IsTuple a cs.toArray) (hi : IntsAre cs l) (hne : l ≠ [])
    (h : ∀ M, M ∈ l → (∀ a ∈ l, a ≤ M) → Q (.int M) σ) : wpAny (model C.prog C.w) A (call (.builtin "max") [.ref a]) (PE C n A fr env m ρ s Q) E s := by
  obtain ⟨xs, e, hns, hsz⟩ := best_facts hi hne
  rw [e] at hl
  have hlt : a < s.heap.objs.size := by obtain ⟨_, e, _⟩ := hl; exact Heap.lt_size e
  have hq : a ≠ s.heap.objs.size := Nat.ne_of_lt hlt
  refine call_max_walk (wpAny_pyIter_tuple hl ?_)
  refine ⟨_, _, _, _, _, _, _, rfl, Walks.tuple (A := A.in1) hh s.heap.objs.size a hq (intItems xs), ⟨⟨_, Heap.get?_push_size _ rfl, rfl, rfl⟩, hl.push _⟩, fun b hb => ?_, by simpa [intItems] using hsz, CmpOf.ints_gt (numAt xs) (fun _ _ => intItems_at), fun v h' tk hP hk => ?_⟩
  · show b < (s.heap.push _).objs.size
    rw [Heap.size_push]
    rcases List.mem_cons.mp hb with rfl | hb
    · exact Nat.lt_succ_self _
    · rcases List.mem_cons.mp hb with rfl | hb
      · exact Nat.lt_succ_of_lt hlt
      · cases hb
  · have hold : ∀ b o, s.heap.get? b = some o → h'.get? b = some o := fun b o e => by
      refine hk b o (fun hm => ?_) (Heap.get?_push_of_some _ e)
      rcases List.mem_cons.mp hm with e1 | hm
      · exact absurd (e1 ▸ Heap.lt_size e) (Nat.lt_irrefl _)
      · cases hm
    have hP' : (intItems xs)[argBest (fun i j => decide (numAt xs i > numAt xs j)) (xs.size - 1)]? = some v := by simpa [intItems] using hP
    obtain ⟨t, rfl⟩ := intItems_at hP'
    obtain ⟨f1, f2⟩ := max_facts hsz hns
    exact PE.grew sit (h _ f1 f2) hold (.int _ t) tk

theorem sum_list_sound (hh : A.handled = none) (sit : Sit C n A fr env m σ ρ s) {a : Addr} {cs : List Value} {l : List Int} (hl : s.heap.IsList a cs.toArray) (hi : IntsAre cs l)
    (h : Q (.int l.sum) σ) : wpAny (model C.prog C.w) A (call (.builtin "sum") [.ref a]) (PE C n A fr env m ρ s Q) E s := by
  obtain ⟨xs, e⟩ := hi.allInts.items
  have hns : l = xs.toList.map (·.1) := by rw [← hi.numsOf, ← nums_intItems, ← e]
  have hsz : l.length = xs.size := by rw [hns, List.length_map, Array.length_toList]
  rw [e] at hl
  refine sum_intListG hh hl fun h' tk t' hk => ?_
  have := PE.grew (h' := h') sit h hk (.int _ t') tk
  rw [preSum_eq, ← hns, ← hsz, List.take_length]
  exact this

theorem rngList_items {a b : Int} {acc : Array Value} (h : ItemsOf (fun i v => ∃ t, v = .int (a + i * 1) t) acc (Builtin.Range.rangeSize a b 1).toNat) {hp : Heap} : VRs C ρ hp ((rngList a b 1).map .int) acc.toList := by
  have hI : IntsAre acc.toList (rngList a b 1) := by
    obtain ⟨h1, h2⟩ := h
    have key : ∀ (cs : List Value) (k : Nat), (∀ (j : Nat) v, cs[j]? = some v → ∃ t, v = .int (a + ((k + j : Nat) : Int) * 1) t) → IntsAre cs ((List.range' k cs.length).map fun (i : Nat) => a + (i : Int) * 1) := by
      intro cs
      induction cs with
      | nil => intro k _; exact .nil
      | cons c r ih =>
        intro k hc
        obtain ⟨t, rfl⟩ := hc 0 c rfl
        simp only [List.length_cons, List.range'_succ, List.map_cons]
        refine .cons _ t (ih (k + 1) fun j v e => ?_)
        obtain ⟨t', e'⟩ := hc (j + 1) v (by simpa using e)
        exact ⟨t', by rw [e']; congr 3; omega⟩
    have := key acc.toList 0 fun j v e => by
      obtain ⟨t, e'⟩ := h2 j v (by simpa using e)
      exact ⟨t, by rw [e']; congr 4; omega⟩
    rw [Array.length_toList, h1, ← List.range_eq_range'] at this
    exact this
  exact VRs.of_ints hI

theorem two_sorted {a b : Int} {ns : List Int} (hp : ns.Perm [a, b]) (hs : ns.Pairwise (· ≤ ·)) : ns = if b < a then [b, a] else [a, b] := by
  have two : ∀ {x y : Int}, x ≤ y → [x, y].Pairwise (· ≤ ·) := fun h => .cons (fun z hz => by rw [List.mem_singleton.mp hz]; exact h) (.cons (fun z hz => nomatch hz) .nil)
  have eq : ∀ {ms : List Int}, ns.Perm ms → ms.Pairwise (· ≤ ·) → ns = ms := fun p q => p.eq_of_pairwise (fun x y _ _ h1 h2 => Int.le_antisymm h1 h2) hs q
  by_cases h : b < a
  · rw [if_pos h]; exact eq (hp.trans (.swap ..)) (two (Int.le_of_lt h))
  · rw [if_neg h]; exact eq hp (two (Int.not_lt.mp h))

theorem len_line {α : Type} {l : List α} (h : l.length < 1000000) : (l.toArray.size : Int) < 2 ^ 63 := Int.lt_trans (Int.ofNat_lt.mpr h) (by decide)
theorem rng_small {a b : Int} (ha : a.natAbs < 2 ^ 40) (hb : b.natAbs < 2 ^ 40) : Builtin.Range.small a b 1 = true := PySem.small_one (by omega) (by omega) (by omega) (by omega)

theorem b_sound (sit : Sit C n A fr env m σ ρ s) {f : String} {vs : List V} {cs : List Value} (hv : VRs C ρ s.heap vs cs) (h : wpB f vs σ Q) :
    wpAny (model C.prog C.w) A (call (bval f) cs) (PE C n A fr env m ρ s Q) E s := by
  have hh := sit.room.handled
  have h : WB σ Q f vs := h
  induction h with
  | lenT h1 h2 =>
    obtain ⟨c, rfl, a, ds, rfl, ht, hvs⟩ := hv.of1
    rw [hvs.length] at h1 h2
    exact PyProof.Rows.len_tuple (t := a) (items := ds.toArray) ht (len_line h1) (PE.int sit h2 _ _)
  | lenS h1 h2 =>
    obtain ⟨c, rfl, a, ds, rfl, hl, hi⟩ := hv.of1
    rw [← ints_len hi] at h1 h2
    exact Calls.call_len_list (hl.at fun o e => sit.rel.sr.base _ _ e) (len_line h1) (PE.int sit h2 _ _)
  | lenL hs h1 h2 =>
    obtain ⟨c, rfl, a, rfl, e⟩ := hv.of1
    obtain ⟨ds, hl, hvs⟩ := list_at sit hs e
    rw [hvs.length] at h1 h2
    exact Calls.call_len_list hl (len_line h1) (PE.int sit h2 _ _)
  | @abs a q =>
    obtain ⟨c, rfl, t, rfl⟩ := hv.of1
    refine call_abs_int fun u tk => ?_
    have : (if a < 0 then -a else a) = (a.natAbs : Int) := by split <;> omega
    rw [this]
    exact PE.int sit q _ _
  | @max2 a b q =>
    obtain ⟨c, r, rfl, ⟨t, rfl⟩, hv⟩ := hv
    obtain ⟨d, rfl, u, rfl⟩ := hv.of1
    refine max_two_ints hh fun h' tk hk => ?_
    by_cases hba : b > a
    · rw [if_pos hba]
      rw [Int.max_eq_right (Int.le_of_lt hba)] at q
      exact PE.grew sit q hk (.int _ _) tk
    · rw [if_neg hba]
      rw [Int.max_eq_left (Int.not_lt.mp hba)] at q
      exact PE.grew sit q hk (.int _ _) tk
  | maxT h1 h2 h4 =>
    obtain ⟨c, rfl, a, ds, rfl, ht, hvs⟩ := hv.of1
    exact max_tuple_sound hh sit ht (ints_of h1 hvs) h2 h4
  | maxL hs h1 h2 h4 =>
    obtain ⟨c, rfl, a, rfl, e⟩ := hv.of1
    obtain ⟨ds, hl, hvs⟩ := list_at sit hs e
    exact max_list_sound hh sit hl (ints_of h1 hvs) h2 h4
  | minL hs h1 h2 h4 =>
    obtain ⟨c, rfl, a, rfl, e⟩ := hv.of1
    obtain ⟨ds, hl, hvs⟩ := list_at sit hs e
    exact min_list_sound hh sit hl (ints_of h1 hvs) h2 h4
  | sumL hs h1 h4 =>
    obtain ⟨c, rfl, a, rfl, e⟩ := hv.of1
    obtain ⟨ds, hl, hvs⟩ := list_at sit hs e
    exact sum_list_sound hh sit hl (ints_of h1 hvs) h4
  | @sort2 i p q hs h4 =>
    obtain ⟨c, rfl, a, rfl, e⟩ := hv.of1
    obtain ⟨ds, hl, hvs⟩ := list_at sit hs e
    have hi : IntsAre ds [p, q] := hvs.ints (ns := [p, q])
    refine sorted_ints hl hi (by rw [(ints_len hi)]; exact (by decide : 2 < 64)) fun out ns' a1 a2 a3 => ?_
    obtain ⟨z, hz⟩ := sortedAll_at s.heap ds out
    have hvv : VRs C (ρ ++ [s.heap.objs.size + 1]) (sortedAll s.heap ds out) (if q < p then [V.int q, .int p] else [.int p, .int q]) out.toList := by
      rw [show (if q < p then [V.int q, .int p] else [.int p, .int q]) = (if q < p then [q, p] else [p, q]).map V.int by split <;> rfl, ← two_sorted a2 a3]
      exact VRs.of_ints a1
    obtain ⟨b1, b2, b3⟩ := sit.alloc (s' := { s with heap := sortedAll s.heap ds out }) (o := .list (if q < p then [V.int q, .int p] else [.int p, .int q])) (Heap.get?_none_of_le (Nat.le_succ _)) (fun b o e => sortedAll_old e)
      (OR.list (cs := out.toList) ⟨_, z, hz, rfl, rfl, rfl⟩ hvv) rfl rfl
    exact ⟨_, _, _, h4, b3, b1, b2⟩
  | @listR a b h1 h3 =>
    obtain ⟨c, rfl, r, t, u, v, rfl, hr, hsm⟩ := hv.of1
    have hsz : 0 ≤ Builtin.Range.rangeSize a b 1 ∧ Builtin.Range.rangeSize a b 1 ≤ 2 ^ 24 := by rw [PySem.rangeSize_one]; split <;> omega
    refine call_list_range hh hr hsm (Int.toNat_of_nonneg hsz.1).symm (Int.toNat_le.mpr hsz.2) fun h' tk acc c' hk hat hit => ?_
    obtain ⟨b1, b2, b3⟩ := sit.alloc (s' := { s with heap := h', toks := tk }) (o := .list ((rngList a b 1).map .int)) (Heap.get?_none_of_le (Nat.le_refl _)) hk (OR.list (cs := acc.toList) ⟨_, c', hat, rfl, rfl, rfl⟩ (rngList_items hit)) rfl rfl
    exact ⟨_, _, _, h3, b3, b1, b2⟩
  | range1 hb h3 =>
    obtain ⟨c, rfl, t, rfl⟩ := hv.of1
    exact call_range_1 (PE.grew sit h3 (fun b o e => Heap.get?_push_of_some _ e) (.rng (IsRange.new _ _ _ _ _ _ _) (rng_small (by decide) hb)) _)
  | range2 hb h3 =>
    obtain ⟨c, r, rfl, ⟨t, rfl⟩, hv⟩ := hv
    obtain ⟨d, rfl, u, rfl⟩ := hv.of1
    exact call_range_2 (PE.grew sit h3 (fun b o e => Heap.get?_push_of_some _ e) (.rng (IsRange.new _ _ _ _ _ _ _) (rng_small hb.1 hb.2)) _)
  | range3 h1 h3 =>
    obtain ⟨rfl, h1⟩ := h1
    obtain ⟨c, r, rfl, ⟨t, rfl⟩, d, r', rfl, ⟨u, rfl⟩, hv⟩ := hv
    obtain ⟨d, rfl, v, rfl⟩ := hv.of1
    exact call_range_3 (by decide) (PE.grew sit h3 (fun b o e => Heap.get?_push_of_some _ e) (.rng (IsRange.new _ _ _ _ _ _ _) h1) _) (.inl (PyProof.noPylong_small (by decide)))

end
end Mine

end

section
open PySem PySem.W PyProof.Rows
set_option linter.unusedVariables false
set_option maxRecDepth 100000
set_option tactic.hygienic false
namespace Mine

section
variable {C : Ctx} {n : Nat} {X : Store → Prop} {k : Kinds}

theorem keeper_bval (f : String) : KeeperOk C (bval f) := fun A E Q s _ h => by
  unfold bval
  split
  · exact wpAny_pure (h _)
  · exact wpAny_pure (h _)

theorem SoundE.bcall (OK : C.Ok) {x : Str} {p pos : Pos} {as : List Expr} {es : List E} (hx : nameOk x = true) (hl : k x = some .globalImplicit) (hb : bnames.contains x.toString = true)
    (hs : as.any isStar = false) (hne : as ≠ []) (h : All2 (SoundE C n X k) as es) :
    SoundE C n X k (.Call (.Name x p) as [] pos) (.bcall x.toString es) := fun A fr env m σ ρ s Q hk sit hq => by
  refine wpAny_Call_Name_kw (Calls.Name_function_global hk.kind (hk.glob _ hl) (load_globAt hk sit (nameOk_eq hx).1 (OK.blt _ (List.contains_iff_mem.mp hb)) ?_) (nameOk_eq hx).2)
  rw [starEach_plain pos env hs, map_false]
  refine callWith_any (fun q => hne (List.map_eq_nil_iff.mp q)) ?_
  rw [← map_false]
  refine wpAny_mono (sound_spliced h _ _ _ _ _ _ _ _ hk sit hq) (fun cs s₂ hp => ?_) fun a b x => x
  obtain ⟨_, vs, σ₂, ρ₂, hc, hvs, sit₂, p₂⟩ := hp
  refine ⟨sit₂.rel.sr.base, keeper_bval _, ?_⟩
  exact wpAny_mono (b_sound sit₂ hvs hc) (fun r s₃ q => q.after p₂) fun a b x => x

/-- an object at hand that nobody names -/
structure Side (C : Ctx) (fr : List Env) (env : Env) (ρ : List Addr) (h : Heap) (a : Addr) : Prop where
  own : a ∉ ρ
  ex : ¬ exOf env a
  base : C.B.get? a = none
  fr : a ∉ frAt fr
  imm : ∀ o, h.get? a = some o → ¬ Imm o

theorem Sit.side {A fr env m σ ρ} {s : Shared} {h' : Heap} {tk : Nat} {a : Addr} (x : Sit C n A fr env m σ ρ s) (d : Side C fr env ρ s.heap a) (hs : ∀ b o, b ≠ a → s.heap.get? b = some o → h'.get? b = some o) :
    Sit C n A fr env m σ ρ { s with heap := h', toks := tk } := by
  have imm : ∀ b o, s.heap.get? b = some o → Imm o → h'.get? b = some o := fun b o e hi => hs b o (fun q => by subst q; exact d.imm o e hi) e
  have own : ∀ b, b ∈ ρ → b ≠ a := fun b hb q => d.own (q ▸ hb)
  have R : Rel C env ⟨m, σ⟩ ρ h' := by
    refine ⟨⟨x.rel.sr.len, fun i o b e1 e2 => (x.rel.sr.obj i o b e1 e2).mono (fun _ _ e => e) imm fun o e => hs b o (own b (List.mem_of_getElem? e2)) e, x.rel.sr.inj, x.rel.sr.new,
        fun b o e => hs b o (fun q => by rw [q, d.base] at e; cases e) (x.rel.sr.base b o e)⟩, ?_, fun nm b hm => ?_, fun y v e1 e2 => ?_, x.rel.locNew, x.rel.cellNew, x.rel.apart⟩
    · obtain ⟨mm, h1, h2⟩ := x.rel.ns
      exact ⟨mm, h1.at' fun o e => hs _ o (fun q => d.ex (.inl q.symm)) e, fun y v e1 e2 => by obtain ⟨c, e3, e4⟩ := h2 y v e1 e2; exact ⟨c, e3, e4.mono (fun _ _ e => e) imm⟩⟩
    · obtain ⟨ov, o, e1, e2⟩ := x.rel.cell nm b hm
      exact ⟨ov, o, hs b o (fun q => d.ex (.inr ⟨nm, q ▸ hm⟩)) e1, e2⟩
    · obtain ⟨b, c, e3, ⟨o, e4, e4'⟩, e5⟩ := x.rel.cellv y v e1 e2
      exact ⟨b, c, e3, ⟨o, hs b o (fun q => d.ex (.inr ⟨_, q ▸ mem_of_lookup e3⟩)) e4, e4'⟩, e5.mono (fun _ _ e => e) imm⟩
  refine ⟨x.room, x.frs, fun e he => ?_, R⟩
  obtain ⟨hk, L, o, a1, a2, a3, a4, a5⟩ := x.fok e he
  exact ⟨hk, L, o, a1, a2, hs L o (fun q => d.fr (List.mem_filterMap.mpr ⟨e, he, q ▸ a1⟩)) a3, a4, a5⟩

theorem Side.new {A fr env m σ ρ} {s : Shared} {a : Addr} (x : Sit C n A fr env m σ ρ s) (hn : s.heap.get? a = none) : Side C fr env ρ s.heap a where
  own := fun h => by
    obtain ⟨_, _, _, _, r⟩ := x.rel.sr.owned h
    obtain ⟨_, h1, _⟩ := r.there
    rw [hn] at h1; cases h1
  ex := x.rel.not_ex_of_none hn
  base := by
    cases q : C.B.get? a with
    | none => rfl
    | some ob => have := x.rel.sr.base a ob q; rw [hn] at this; cases this
  fr := fun h => by
    obtain ⟨e, he, hf⟩ := List.mem_filterMap.mp h
    obtain ⟨_, L, o, a1, _, a3, _⟩ := x.fok e he
    rw [a1] at hf; cases hf; rw [hn] at a3; cases a3
  imm := fun o e => by rw [hn] at e; cases e

theorem imm_slots {o : Obj} {sl} (h : Imm { o with slots := sl }) : Imm o := h
/-- along a step of this call -/
theorem Side.move {fr env ρ ρ'} {s s' : Shared} {a : Addr} (d : Side C fr env ρ s.heap a) (hx : ∃ o, s.heap.get? a = some o) (p : Post C (exOf env) ρ ρ' s s') : Side C fr env ρ' s'.heap a := by
  obtain ⟨o, ho⟩ := hx
  obtain ⟨sl, hk⟩ := (p.keep a o ho d.own d.ex).there
  refine ⟨fun h => ?_, d.ex, d.base, d.fr, fun o' e => ?_⟩
  · have := (p.fresh a h d.own).1; rw [ho] at this; cases this
  · rw [hk] at e; cases e; exact fun q => d.imm o ho (imm_slots q)
theorem plain_move {fr env ρ ρ'} {s s' : Shared} {a : Addr} {xs : Array Value} (hl : PlainL s.heap a xs) (d : Side C fr env ρ s.heap a) (p : Post C (exOf env) ρ ρ' s s') : PlainL s'.heap a xs := by
  obtain ⟨o, n, h1, h2, h3, h4⟩ := hl
  exact ⟨o, n, (p.keep a o h1 d.own d.ex).same (fun ⟨es, ep, q⟩ => by rw [h4] at q; cases q), h2, h3, h4⟩

theorem Post.side {ex ρ₀ ρ} {s₀ s : Shared} {h' : Heap} {tk : Nat} {a : Addr} (p : Post C ex ρ₀ ρ s₀ s) (hn : s₀.heap.get? a = none) (hs : ∀ b o, b ≠ a → s.heap.get? b = some o → h'.get? b = some o) :
    Post C ex ρ₀ ρ s₀ { s with heap := h', toks := tk } :=
  ⟨p.gens, p.os, p.pre, p.fresh, fun b o e h1 h2 => (p.keep b o e h1 h2).trans fun o₁ e₁ => .inl (hs b o₁ (fun q => by subst q; rw [hn] at e; cases e) e₁)⟩

theorem glob_here (OK : C.Ok) {A : Around} {fr env m σ ρ} {s : Shared} (hk : EnvOk k env) (sit : Sit C n A fr env m σ ρ s) {x : Str} (hx : nameOk x = true) (hl : k x = some .globalImplicit) (p : Pos) {v : V} (hg : glbTab x.toString = some v) {E : Value → Shared → Prop}
    {Q : Value → Shared → Prop} (h : ∀ c, VR C ρ s.heap v c → Q c s) : wpAny (model C.prog C.w) A (eval (.Name x p) env) Q E s := by
  obtain ⟨c, h3, h4⟩ := OK.glb _ _ hg
  exact Calls.Name_function_global hk.kind (hk.glob _ hl) (load_globAt hk sit (nameOk_eq hx).1 h3 (h c (h4.mono (fun i a e => by simp at e) fun b o e _ => sit.rel.sr.base b o e))) (nameOk_eq hx).2

theorem SoundE.dct (OK : C.Ok) {x y : Str} (p q pos : Pos) (hx : nameOk x = true) (hlx : k x = some .globalImplicit) (hy : nameOk y = true) (hly : k y = some .globalImplicit) :
    SoundE C n X k (.Dict [some (.Name x p)] [.Name y q] pos) (.dct (.glob x.toString) (.glob y.toString)) := fun A fr env m σ ρ s Q hk sit hq => by
  refine ob_el hq fun vk hgx hq => ob_el hq fun vv hgy hq => ob_el hq fun i hi hq₄ => ?_
  refine wpAny_Dict_walk (knd := intKind C.prog C.w) rfl rfl (fun q => nomatch q) (Nat.le_of_ble_eq_true rfl) ?_
  have hn : s.heap.get? s.heap.objs.size = none := Heap.get?_none_of_le (Nat.le_refl _)
  have hat₁ : (s.heap.push { cls := .type "dict", data := .dict #[] }).get? s.heap.objs.size = some { cls := .type "dict", data := .dict #[] } := Heap.get?_push_size _ rfl
  have hold : ∀ b o, s.heap.get? b = some o → (s.heap.push { cls := .type "dict", data := .dict #[] }).get? b = some o := fun b o e => Heap.get?_push_of_some _ e
  generalize (s.heap.push { cls := .type "dict", data := .dict #[] }) = h₁ at hat₁ hold
  generalize s.heap.objs.size = D at hn hat₁
  obtain ⟨sit₁, p₁⟩ := sit.grow (s' := { s with heap := h₁ }) hold rfl rfl
  have d₁ := Side.new sit hn
  refine pairTrees_cons_walk (glob_here OK hk sit₁ hx hlx p hgx fun ck hvk => glob_here OK hk sit₁ hy hly q hgy fun cv hvv => ?_)
  rw [intV_ok hi] at hvk
  obtain ⟨t, rfl⟩ := hvk
  refine pairTrees_nil_walk ⟨[(i, cv)], ⟨intKind_is _ _ _ _, rfl, trivial⟩, ⟨_, #[], 0, hat₁, ⟨rfl, rfl, rfl⟩, rfl, fun e he => (nomatch he), .nil, List.nodup_nil⟩, fun h' hd hs => ?_⟩
  have hm := hd.mapOf.intMap
  have hle : h'.DictLe D 1 := fun o es ep ho hdt => by
    obtain ⟨o', es', ep', ho', _, hd', _, hp, _⟩ := hd
    rw [ho', Option.some.injEq] at ho
    rw [← ho, hd'] at hdt
    rw [← (Data.dict.inj hdt).1]
    exact Nat.le_of_eq hp.length
  have hk3 : ∀ b o, b ≠ D → h₁.get? b = some o → h'.get? b = some o := fun b o hb e => (hs.2 b hb).trans e
  have himm : ∀ o, h₁.get? D = some o → ¬ Imm o := fun o e => by rw [hat₁, Option.some.injEq] at e; rw [← e]; exact not_imm_dict rfl
  obtain ⟨b1, b2, b3⟩ := Sit.adopt (s' := { s with heap := h', toks := s.toks + 1 }) (o := .dict (fun j => if j = i then some vv else none) 1) sit hn sit₁ p₁ d₁.own himm hk3
    ⟨_, hm, hle, fun j v e => by
      have e : (if j = i then some vv else none) = some v := e
      by_cases q : j = i
      · rw [if_pos q, Option.some.injEq] at e
        rw [q, ← e]
        exact ⟨cv, by simp [merged, stored, valueAt], hvv.mono (fun _ _ e => getElem?_snoc_of e) fun b o e hi => hk3 b o (fun q => by subst q; exact himm o e hi) e⟩
      · rw [if_neg q] at e; cases e⟩ rfl rfl
  exact ⟨_, _, _, hq₄, b3, b1, b2⟩

end
end Mine

end

section
open PySem PySem.W PyProof.Rows
set_option linter.unusedVariables false
set_option maxRecDepth 100000
set_option tactic.hygienic false
namespace Mine

/-- an iterator over a source that stands at i -/
noncomputable def IterAt (C : Ctx) (ρ : List Addr) (h : Heap) (I : Addr) (i : Nat) (v : V) : Prop := match v with
  | .rng a b c => IsRangeIter h I (a + (i : Int) * c) (Builtin.Range.rangeSize a b c - (i : Int)) c
  | .tup xs => ∃ t cs, h.IsTupleIter I t i ∧ h.IsTuple t cs.toArray ∧ VRs C ρ h xs cs
  | .ref k => ∃ l, ρ[k]? = some l ∧ h.IsListIter I l i
  | _ => False

theorem not_imm_cls {o : Obj} {n : String} (hc : o.cls = .type n) (h1 : n ≠ "tuple") (h2 : n ≠ "range") : ¬ Imm o := by
  rintro (⟨q, _⟩ | ⟨q, _⟩) <;> rw [hc] at q <;> cases q <;> contradiction

theorem IterAt.obj {C : Ctx} {ρ : List Addr} {h : Heap} {I : Addr} {i : Nat} {v : V} (x : IterAt C ρ h I i v) : ∃ o n vs, h.get? I = some o ∧ o.cls = .type n ∧ o.data = .fields vs ∧ n ≠ "tuple" ∧ n ≠ "range" ∧
    ["enumerate", "zip", "dict_itemiterator", "dict_reverseitemiterator", "odict_iterator", "itertools.zip_longest", "itertools.pairwise"].contains n = false := by
  cases v with
  | rng => exact ⟨_, _, _, x, rfl, rfl, by decide, by decide, by decide⟩
  | tup =>
    obtain ⟨t, cs, ⟨o, h1, h2, h3⟩, _⟩ := x
    exact ⟨_, _, _, h1, h2, h3, by decide, by decide, by decide⟩
  | ref =>
    obtain ⟨l, _, o, h1, h2, h3⟩ := x
    exact ⟨_, _, _, h1, h2, h3, by decide, by decide, by decide⟩
  | _ => exact x.elim
theorem IterAt.imm {C : Ctx} {ρ : List Addr} {h : Heap} {I : Addr} {i : Nat} {v : V} (x : IterAt C ρ h I i v) (o : Obj) (e : h.get? I = some o) : ¬ Imm o := by
  obtain ⟨o', n, vs, h1, h2, h3, h4, h5, _⟩ := x.obj
  rw [h1] at e; cases e
  exact not_imm_cls h2 h4 h5

theorem IterAt.mono {C : Ctx} {ρ ρ' : List Addr} {h h' : Heap} {I : Addr} {i : Nat} {v : V} (x : IterAt C ρ h I i v) (hρ : ∀ (i : Nat) (a : Addr), ρ[i]? = some a → ρ'[i]? = some a)
    (hk : ∀ b o, h.get? b = some o → Imm o → h'.get? b = some o) (hI : ∀ o, h.get? I = some o → h'.get? I = some o) : IterAt C ρ' h' I i v := by
  cases v with
  | tup =>
    obtain ⟨t, cs, ⟨o, h1, h2⟩, ⟨o', h3, h4, h5⟩, h6⟩ := x
    exact ⟨t, cs, ⟨o, hI _ h1, h2⟩, ⟨o', hk _ _ h3 (.inl ⟨h4, _, h5⟩), h4, h5⟩, h6.mono hρ hk⟩
  | ref =>
    obtain ⟨l, h0, o, h1, h2⟩ := x
    exact ⟨l, hρ _ _ h0, o, hI _ h1, h2⟩
  | rng => exact hI _ x
  | _ => exact x.elim

theorem IterAt.move {C : Ctx} {n : Nat} {A : Around} {fr env m σ ρ ρ'} {s s' : Shared} {I : Addr} {i : Nat} {sv : V} (it : IterAt C ρ s.heap I i sv) (sit : Sit C n A fr env m σ ρ s) (d : Side C fr env ρ s.heap I) (p : Post C (exOf env) ρ ρ' s s') : IterAt C ρ' s'.heap I i sv :=
  it.mono p.pre (sit.rel.imm p) fun o e => (p.keep I o e d.own d.ex).same (by
    rintro ⟨es, ep, q⟩
    obtain ⟨o', _, _, h1, _, h3, _⟩ := it.obj
    rw [e] at h1; cases h1; rw [h3] at q; cases q)

theorem rngList_at {a b c : Int} {i : Nat} : (rngList a b c)[i]? = if i < (Builtin.Range.rangeSize a b c).toNat then some (a + (i : Int) * c) else none := by
  unfold rngList
  rw [List.getElem?_map]
  by_cases h : i < (Builtin.Range.rangeSize a b c).toNat
  · rw [List.getElem?_range h, if_pos h]; rfl
  · rw [List.getElem?_eq_none (by rw [List.length_range]; exact Nat.not_lt.mp h), if_neg h]; rfl

section
variable {C : Ctx} {n : Nat} {k : Kinds} {A : Around} {fr : List Env} {env : Env} {m : Loc} {σ : Store} {ρ : List Addr} {s : Shared} {E : Value → Shared → Prop}

theorem iter_start (sit : Sit C n A fr env m σ ρ s) {sv : V} {c : Value} {items : List V} (hv : VR C ρ s.heap sv c) (hi : srcItems σ sv = some items) {Q : Value → Shared → Prop}
    (h : ∀ s' I, Sit C n A fr env m σ ρ s' → Post C (exOf env) ρ ρ s s' → (∀ b o, s.heap.get? b = some o → s'.heap.get? b = some o) → s.heap.get? I = none → Side C fr env ρ s'.heap I → IterAt C ρ s'.heap I 0 sv → Q (.ref I) s') :
    wpAny (model C.prog C.w) A (pyIter c) Q E s := by
  have hn : s.heap.get? s.heap.objs.size = none := Heap.get?_none_of_le (Nat.le_refl _)
  have d := Side.new sit hn
  have key : ∀ ob : Obj, (∀ (_ : (s.heap.push ob).get? s.heap.objs.size = some ob), IterAt C ρ (s.heap.push ob) s.heap.objs.size 0 sv) → ob.isFreed = false →
      Q (.ref s.heap.objs.size) { s with heap := s.heap.push ob } := fun ob hi hfr => by
    obtain ⟨sit₁, p₁⟩ := sit.grow (s' := { s with heap := s.heap.push ob }) (fun b o e => Heap.get?_push_of_some _ e) rfl rfl
    have hit := hi (Heap.get?_push_size _ hfr)
    exact h _ _ sit₁ p₁ (fun b o e => Heap.get?_push_of_some _ e) hn ⟨d.own, d.ex, d.base, d.fr, hit.imm⟩ hit
  cases sv with
  | tup =>
    obtain ⟨t, cs, rfl, ht, hvs⟩ := hv
    exact wpAny_pyIter_tuple ht (key _ (fun e => ⟨_, _, ⟨_, e, rfl, rfl⟩, ht.push _, hvs.mono (fun _ _ e => e) fun b o e _ => Heap.get?_push_of_some _ e⟩) rfl)
  | ref i =>
    obtain ⟨a, rfl, e⟩ := hv
    obtain ⟨cs, hl, hvs⟩ := list_at sit (listAt_ok hi) e
    exact wpAny_pyIter_list hl (key _ (fun e' => ⟨_, e, _, e', rfl, rfl⟩) rfl)
  | rng p q r =>
    obtain ⟨a, t, u, v, rfl, hr, hsm⟩ := hv
    refine wpAny_pyIter_range hr hsm (key _ (fun e => ?_) rfl)
    show IsRangeIter _ _ (p + ((0 : Nat) : Int) * r) (Builtin.Range.rangeSize p q r - ((0 : Nat) : Int)) r
    rw [Int.natCast_zero, Int.zero_mul, Int.add_zero, Int.sub_zero]
    exact e
  | _ => exact no hi

theorem iter_next (sit : Sit C n A fr env m σ ρ s) {sv : V} {items : List V} (hi : srcItems σ sv = some items) {I : Addr} {i : Nat} (hit : IterAt C ρ s.heap I i sv) (d : Side C fr env ρ s.heap I) {Q : Option Value → Shared → Prop}
    (hitem : ∀ v c h' tk, items[i]? = some v → VR C ρ h' v c → IterAt C ρ h' I (i + 1) sv → (∀ b o, b ≠ I → s.heap.get? b = some o → h'.get? b = some o) → Q (some c) { s with heap := h', toks := tk })
    (hend : ∀ h', items.length ≤ i → (∀ b o, b ≠ I → s.heap.get? b = some o → h'.get? b = some o) → Q none { s with heap := h', toks := s.toks }) :
    wpAny (model C.prog C.w) A (pyNext (.ref I)) Q E s := by
  have himm := hit.imm
  have keep : ∀ {h'}, Heap.SameBut I s.heap h' → ∀ b o, b ≠ I → s.heap.get? b = some o → h'.get? b = some o := fun hs b o hb e => (hs.2 b hb).trans e
  have immk : ∀ {h'}, Heap.SameBut I s.heap h' → ∀ b o, s.heap.get? b = some o → Imm o → h'.get? b = some o := fun hs b o e hi => (hs.2 b fun q => by subst q; exact himm o e hi).trans e
  have keepE : ∀ {h'}, Heap.ExtBut I s.heap h' → ∀ b o, b ≠ I → s.heap.get? b = some o → h'.get? b = some o := fun hs b o hb e => hs b o hb e
  cases sv with
  | tup xs =>
    obtain ⟨t, cs, h1, h2, h3⟩ := hit
    rw [← Option.some.inj hi] at hitem hend
    have hlen := h3.length
    have htI : t ≠ I := fun q => by
      obtain ⟨o, e1, e2, _⟩ := h2
      obtain ⟨o', e3, e4, _⟩ := h1
      rw [q, e3, Option.some.injEq] at e1; rw [← e1, e4] at e2; exact absurd e2 (by decide)
    by_cases hlt : i < xs.length
    · obtain ⟨c, hc, hv⟩ := h3.get (List.getElem?_eq_getElem hlt)
      refine wpAny_pyNext_tuple_item h1 h2 (x := c) (List.getElem?_toArray.trans hc) fun h' hit' hs' => ?_
      exact hitem _ c h' s.toks (List.getElem?_eq_getElem hlt) (hv.mono (fun _ _ e => e) (immk hs')) ⟨t, cs, hit', h2.extBut hs'.extBut htI, h3.mono (fun _ _ e => e) (immk hs')⟩ (keep hs')
    · exact wpAny_pyNext_tuple_end sit.room.handled h1 h2 (List.getElem?_toArray.trans (List.getElem?_eq_none (hlen ▸ Nat.not_lt.mp hlt))) fun h' he => hend h' (Nat.not_lt.mp hlt) (keepE he)
  | ref j =>
    obtain ⟨l, h0, h1⟩ := hit
    obtain ⟨cs, hl, h3⟩ := list_at sit (listAt_ok hi) h0
    have hlen := h3.length
    by_cases hlt : i < items.length
    · obtain ⟨c, hc, hv⟩ := h3.get (List.getElem?_eq_getElem hlt)
      refine wpAny_pyNext_list_item h1 hl (x := c) (List.getElem?_toArray.trans hc) fun h' hit' hs' => ?_
      exact hitem _ c h' s.toks (List.getElem?_eq_getElem hlt) (hv.mono (fun _ _ e => e) (immk hs')) ⟨l, h0, hit'⟩ (keep hs')
    · exact wpAny_pyNext_list_end sit.room.handled h1 hl (List.getElem?_toArray.trans (List.getElem?_eq_none (hlen ▸ Nat.not_lt.mp hlt))) fun h' he => hend h' (Nat.not_lt.mp hlt) (keepE he)
  | rng a b c =>
    rw [← Option.some.inj hi] at hitem hend
    by_cases hlt : (i : Int) < Builtin.Range.rangeSize a b c
    · refine wpAny_pyNext_range_item hit (Int.sub_pos_of_lt hlt) fun h' hit' hs' => ?_
      refine hitem (.int (a + (i : Int) * c)) _ h' (s.toks + 1) (by rw [List.getElem?_map, rngList_at, if_pos (by omega)]; rfl) (.int _ _) ?_ (keep hs')
      show IsRangeIter _ _ (a + ((i + 1 : Nat) : Int) * c) (Builtin.Range.rangeSize a b c - ((i + 1 : Nat) : Int)) c
      rw [Int.natCast_add, Int.natCast_one, Int.add_mul, Int.one_mul, ← Int.add_assoc, ← Int.sub_sub]; exact hit'
    · exact wpAny_pyNext_range_end sit.room.handled hit (Int.sub_nonpos_of_le (Int.not_lt.mp hlt)) fun h' he => hend h' (by rw [List.length_map, rngList, List.length_map, List.length_range]; exact Int.toNat_le.mpr (Int.not_lt.mp hlt)) (keepE he)
  | _ => exact no hi

theorem letOwned_sound {I : Addr} {i : Nat} {sv : V} (hit : IterAt C ρ s.heap I i sv) (t : Expr) (c : Value) {Q : Unit → Shared → Prop} (h : Q () s) : wpAny (model C.prog C.w) A (letOwnedTupleGo t (.ref I) c) Q E s := by
  obtain ⟨o, nm, vs, h1, h2, h3, h4, h5, h6⟩ := hit.obj
  have key : ∀ c : Value, wpAny (model C.prog C.w) A (letOwnedTupleGo (.Tuple [] 0 t.pos) (.ref I) c) Q E s := fun c => by
    unfold letOwnedTupleGo
    cases c with
    | ref T =>
      refine wpAny_bind (wpAny_load h1 ?_)
      rw [h2, h3]
      show wpAny _ A (if (["enumerate", "zip", "dict_itemiterator", "dict_reverseitemiterator", "odict_iterator", "itertools.zip_longest", "itertools.pairwise"].contains nm && vs[0]? == some (rawInt T)) = true then _ else _) Q E s
      rw [if_neg (by rw [h6]; simp)]
      exact wpAny_pure h
    | _ => exact wpAny_pure h
  cases t with
  | Tuple _ _ _ => exact key c
  | List _ _ => exact key c
  | _ => exact wpAny_pure h

end
end Mine

end

section
open PySem PySem.W PyProof.Rows
set_option linter.unusedVariables false
set_option maxRecDepth 100000
set_option tactic.hygienic false
namespace Mine
theorem closure_loop {env : Env} (names : List (Str × NameKind)) : ∀ (cs : List (Str × Addr)), (∀ x ∈ names, x.2 = .free → ∃ a, env.cells.lookup x.1 = some a) →
    ∃ cl, (forIn names cs (fun (x : Str × NameKind) (cs : List (Str × Addr)) => (do if x.2 == .free then (do let a ← cellOf env x.1; pure (ForInStep.yield ((x.1, a) :: cs))) else pure (ForInStep.yield cs) : Sem (ForInStep (List (Str × Addr)))))) = pure cl ∧
      (∀ p ∈ cl, p ∈ cs ∨ (env.cells.lookup p.1 = some p.2 ∧ (p.1, NameKind.free) ∈ names)) ∧ (∀ p ∈ cs, p ∈ cl) ∧ (∀ x ∈ names, x.2 = .free → ∃ a, (x.1, a) ∈ cl) := by
  induction names with
  | nil => exact fun cs h => ⟨cs, rfl, fun p h => .inl h, fun p h => h, fun x h => nomatch h⟩
  | cons y r ih =>
    intro cs h
    obtain ⟨x, kd⟩ := y
    by_cases hf : kd = .free
    · subst hf
      obtain ⟨a, ha⟩ := h (x, .free) (.head _) rfl
      obtain ⟨cl, h1, h2, h3, h4⟩ := ih ((x, a) :: cs) fun y hy => h y (.tail _ hy)
      refine ⟨cl, ?_, fun p hp => ?_, fun p hp => h3 p (.tail _ hp), fun y hy hk => ?_⟩
      · have : cellOf env x = pure a := by unfold cellOf; rw [ha]
        rw [List.forIn_cons]
        show ((cellOf env x >>= fun a => pure (ForInStep.yield ((x, a) :: cs))) >>= _) = _
        rw [this]
        exact h1
      · rcases h2 p hp with q | q
        · rcases List.mem_cons.mp q with q | q
          · subst q; exact .inr ⟨ha, .head _⟩
          · exact .inl q
        · exact .inr ⟨q.1, .tail _ q.2⟩
      · rcases List.mem_cons.mp hy with q | q
        · subst q; exact ⟨a, h3 _ (.head _)⟩
        · exact h4 y q hk
    · obtain ⟨cl, h1, h2, h3, h4⟩ := ih cs fun y hy => h y (.tail _ hy)
      refine ⟨cl, ?_, fun p hp => (h2 p hp).imp id fun q => ⟨q.1, .tail _ q.2⟩, h3, fun y hy hk => ?_⟩
      · rw [List.forIn_cons]
        show ((if (kd == NameKind.free) = true then _ else pure (ForInStep.yield cs)) >>= _) = _
        rw [if_neg (fun q => hf (beq_iff_eq.mp q))]
        exact h1
      · rcases List.mem_cons.mp hy with q | q
        · subst q; exact absurd hk hf
        · exact h4 y q hk

theorem closure_at {env : Env} {sc : Scope} (h : ∀ x ∈ sc.names, x.2 = .free → ∃ a, env.cells.lookup x.1 = some a) :
    ∃ cl, closureFor sc env = pure cl ∧ (∀ p ∈ cl, env.cells.lookup p.1 = some p.2 ∧ (p.1, NameKind.free) ∈ sc.names) ∧ (∀ x ∈ sc.names, x.2 = .free → ∃ a, (x.1, a) ∈ cl) := by
  obtain ⟨cl, h1, h2, h3, h4⟩ := closure_loop sc.names [] h
  refine ⟨cl, ?_, fun p hp => (h2 p hp).resolve_left (fun q => nomatch q), h4⟩
  unfold closureFor
  rw [← h1]
  simp only [bind_pure]

theorem lookup_relabel {env : Env} {names : List (Str × NameKind)} {x : Str} :
    (names.map fun (n, k) => if (k == NameKind.free && env.scope.kind == .function && env.kindOf n == some .cell) then (n, NameKind.cell) else (n, k)).lookup x =
     (names.lookup x).map fun k => if (k == NameKind.free && env.scope.kind == .function && env.kindOf x == some .cell) then NameKind.cell else k := by
  induction names with
  | nil => rfl
  | cons y r ih =>
    obtain ⟨n, k⟩ := y
    have e : (if (k == NameKind.free && env.scope.kind == .function && env.kindOf n == some .cell) = true then (n, NameKind.cell) else (n, k)) = (n, if (k == NameKind.free && env.scope.kind == .function && env.kindOf n == some .cell) = true then NameKind.cell else k) := by
      split <;> rfl
    rw [List.map_cons]
    show ((if (k == NameKind.free && env.scope.kind == .function && env.kindOf n == some .cell) = true then (n, NameKind.cell) else (n, k)) :: _).lookup x = _
    rw [e, List.lookup_cons, List.lookup_cons]
    cases hx : x == n with
    | false => exact ih
    | true => rw [beq_iff_eq.mp hx]; rfl

section
variable {C : Ctx} {n : Nat} {X : Store → Prop} {k : Kinds} {A : Around} {fr : List Env} {env cenv : Env} {m mi : Loc} {σ σ₁ : Store} {ρ ρ₁ : List Addr} {s s₁ : Shared} {E : Value → Shared → Prop}

theorem iter_self {I : Addr} {i : Nat} {sv : V} (hit : IterAt C ρ s.heap I i sv) {Q : Value → Shared → Prop} (h : Q (.ref I) s) : wpAny (model C.prog C.w) A (pyIter (.ref I)) Q E s := by
  cases sv with
  | rng => exact wpAny_pyIter_rangeiter hit h
  | tup =>
    obtain ⟨t, cs, h1, _⟩ := hit
    exact wpAny_pyIter_tupleiter h1 h
  | ref =>
    obtain ⟨l, _, h1⟩ := hit
    exact wpAny_pyIter_listiter h1 h
  | _ => exact hit.elim

/-- an inner block's frame beside the outer one -/
structure Inside (env cenv : Env) (m mi : Loc) : Prop where
  cells : ∀ nm a, (nm, a) ∈ cenv.cells → env.cells.lookup nm = some a
  kind : ∀ nm a, (nm, a) ∈ cenv.cells → cenv.kindOf nm = some .cell
  same : ∀ x v a, (Str.ofString x, a) ∈ cenv.cells → m x = some v → mi x = some v

theorem Inside.ex (y : Inside env cenv m mi) {b : Addr} (h : exOf cenv b) : b = cenv.locals ∨ exOf env b := by
  rcases h with h | ⟨nm, h⟩
  · exact .inl h
  · exact .inr (.inr ⟨nm, mem_of_lookup (y.cells nm b h)⟩)

theorem Side.inside {h : Heap} {a : Addr} (d : Side C fr env ρ h a) (y : Inside env cenv m mi) (ha : a ≠ cenv.locals) : Side C fr cenv ρ h a :=
  ⟨d.own, fun q => (y.ex q).elim ha d.ex, d.base, d.fr, d.imm⟩

/-- from the inner block back to the outer one -/
theorem Sit.outOf (sit : Sit C n A fr env m σ₁ ρ₁ s₁) (inn : Sit C n A fr cenv mi σ ρ s) (p : Post C (exOf cenv) ρ₁ ρ s₁ s) (hL : s₁.heap.get? cenv.locals = none) (y : Inside env cenv m mi) :
    Sit C n A fr env m σ ρ s ∧ Post C (exOf env) ρ₁ ρ s₁ s := by
  have hx : ∀ b o, s₁.heap.get? b = some o → ¬ exOf env b → ¬ exOf cenv b := fun b o e h q => by
    rcases y.ex q with q | q
    · rw [q, hL] at e; cases e
    · exact h q
  have p' : Post C (exOf env) ρ₁ ρ s₁ s := ⟨p.gens, p.os, p.pre, fun a h h' => ⟨(p.fresh a h h').1, sit.rel.not_ex_of_none (p.fresh a h h').1⟩, fun b o e h h' => p.keep b o e h (hx b o e h')⟩
  have imm : ∀ b o, s₁.heap.get? b = some o → Imm o → s.heap.get? b = some o := sit.rel.imm p'
  have old : ∀ b o, s₁.heap.get? b = some o → b ∉ ρ₁ → b ∉ ρ := fun b o e h h' => by have := (p.fresh b h' h).1; rw [e] at this; cases this
  obtain ⟨mm, hns, hns2⟩ := sit.rel.ns
  have hloc : ∀ o, s₁.heap.get? env.locals = some o → Kept C env.locals o s.heap := fun o e => p.keep _ o e sit.rel.locNew.2 fun q => by
    rcases q with q | ⟨nm, q⟩
    · rw [q, hL] at e; cases e
    · exact (sit.rel.cellNew nm _ (mem_of_lookup (y.cells nm _ q))).2.2 rfl
  have hthere : ∃ o, s₁.heap.get? env.locals = some o := by obtain ⟨o, _, _, e, _⟩ := hns; exact ⟨o, e⟩
  have R : Rel C env ⟨m, σ⟩ ρ s.heap := by
    refine ⟨inn.rel.sr, ⟨mm, ns_kept hns hloc, fun x v e1 e2 => by obtain ⟨c, e3, e4⟩ := hns2 x v e1 e2; exact ⟨c, e3, e4.mono p.pre imm⟩⟩, fun nm a hm => ?_, fun x v e1 e2 => ?_, ⟨sit.rel.locNew.1, ?_⟩, fun nm a hm => ?_, sit.rel.apart⟩
    · by_cases hc : exOf cenv a
      · rcases hc with q | ⟨nm', q⟩
        · obtain ⟨ov, o, e, _⟩ := sit.rel.cell nm a hm
          rw [q, hL] at e; cases e
        · exact inn.rel.cell nm' a q
      · obtain ⟨ov, o, e, e'⟩ := sit.rel.cell nm a hm
        exact ⟨ov, o, (p.keep a o e (sit.rel.cellNew nm a hm).2.1 hc).cell e', e'⟩
    · obtain ⟨a, c, e3, ⟨o, e4, e4'⟩, e5⟩ := sit.rel.cellv x v e1 e2
      by_cases hc : exOf cenv a
      · rcases hc with q | ⟨nm', q⟩
        · rw [q, hL] at e4; cases e4
        · have hnm : nm' = Str.ofString x := sit.rel.apart _ _ _ (mem_of_lookup (y.cells nm' a q)) (mem_of_lookup e3)
          subst hnm
          obtain ⟨a', c', f1, f2, f3⟩ := inn.rel.cellv x v (y.same x v a q e1) (y.kind _ _ q)
          have : a' = a := by
            have := y.cells _ _ (mem_of_lookup f1)
            rw [e3] at this; cases this; rfl
          subst this
          exact ⟨a', c', e3, f2, f3⟩
      · exact ⟨a, c, e3, ⟨o, (p.keep a o e4 (sit.rel.cellNew _ a (mem_of_lookup e3)).2.1 hc).cell e4', e4'⟩, e5.mono p.pre imm⟩
    · obtain ⟨o, e⟩ := hthere
      exact old _ o e sit.rel.locNew.2
    · obtain ⟨ov, o, e, _⟩ := sit.rel.cell nm a hm
      obtain ⟨c1, c2, c3⟩ := sit.rel.cellNew nm a hm
      exact ⟨c1, old _ o e c2, c3⟩
  exact ⟨sit.post p' R, p'⟩
end
end Mine

end

section
open PySem PySem.W PyProof.Rows
set_option linter.unusedVariables false
set_option maxRecDepth 100000
set_option tactic.hygienic false
namespace Mine

abbrev noX : Store → Prop := fun _ => False

structure CompOk (k : Kinds) (sc : Scope) (x : Str) : Prop where
  kind : sc.kind = .function
  nocell : ∀ p ∈ sc.names, p.2 ≠ .cell
  locs : ∀ p ∈ sc.names, p.2 = .local → (p.1 = x ∨ p.1 = (".0" : Str)) ∧ sc.names.lookup p.1 = some .local
  free : ∀ p ∈ sc.names, p.2 = .free → k p.1 = some .cell ∧ sc.names.lookup p.1 = some .free ∧ p.1 ≠ (".0" : Str)

theorem CompOk.of {k : Kinds} {sc : Scope} {x : Str} (h : trE.compOk k sc x = true) : CompOk k sc x := by
  unfold trE.compOk at h
  simp only [Bool.and_eq_true, List.all_eq_true, Bool.or_eq_true, bne_iff_ne, ne_eq, beq_iff_eq] at h
  obtain ⟨⟨⟨⟨⟨h1, h2⟩, h3⟩, h4⟩, _⟩, _⟩ := h
  exact ⟨h1, h2, fun p hp e => (h3 p hp).resolve_left (fun q => q e), fun p hp e => by obtain ⟨⟨a, b⟩, c⟩ := (h4 p hp).resolve_left (fun q => q e); exact ⟨a, b, c⟩⟩

section
variable {C : Ctx} {n : Nat} {X : Store → Prop} {k : Kinds} {A : Around} {fr : List Env} {env : Env} {m : Loc} {σ : Store} {ρ : List Addr} {s : Shared} {Ex : Value → Shared → Prop}

theorem kindOf_comp {env : Env} {sc : Scope} {cl : List (Str × Addr)} {L : Addr} (hf : env.scope.kind = .function) (y : Str) :
    (compEnvC sc cl L env).kindOf y = (sc.names.lookup y).map fun k => if (k == NameKind.free && env.kindOf y == some .cell) then NameKind.cell else k := by
  show (relabel sc env).names.lookup y = _
  unfold relabel
  rw [lookup_relabel, hf]
  simp

theorem kind_cell {env : Env} {sc : Scope} {x : Str} {cl : List (Str × Addr)} {L : Addr} (hk : EnvOk k env) (h : CompOk k sc x) {y : Str} (e : (compEnvC sc cl L env).kindOf y = some .cell) : sc.names.lookup y = some .free ∧ env.kindOf y = some .cell := by
  rw [kindOf_comp hk.kind] at e
  cases q : sc.names.lookup y with
  | none => rw [q] at e; exact no e
  | some kd =>
    rw [q] at e
    have e : some (if (kd == NameKind.free && env.kindOf y == some .cell) = true then NameKind.cell else kd) = some .cell := e
    by_cases hc : (kd == NameKind.free && env.kindOf y == some .cell) = true
    · rw [Bool.and_eq_true, beq_iff_eq, beq_iff_eq] at hc
      exact ⟨by rw [hc.1], hc.2⟩
    · rw [if_neg hc, Option.some.injEq] at e
      exact absurd e (h.nocell (y, kd) (mem_of_lookup q))
theorem kind_local {env : Env} {sc : Scope} {x : Str} {cl : List (Str × Addr)} {L : Addr} (hk : EnvOk k env) (h : CompOk k sc x) {y : Str} (e : (compEnvC sc cl L env).kindOf y = some .local) : y = x ∨ y = (".0" : Str) := by
  rw [kindOf_comp hk.kind] at e
  cases q : sc.names.lookup y with
  | none => rw [q] at e; exact no e
  | some kd =>
    rw [q] at e
    have e : some (if (kd == NameKind.free && env.kindOf y == some .cell) = true then NameKind.cell else kd) = some .local := e
    by_cases hc : (kd == NameKind.free && env.kindOf y == some .cell) = true
    · rw [if_pos hc] at e; cases e
    · rw [if_neg hc, Option.some.injEq] at e
      exact (h.locs (y, kd) (mem_of_lookup q) e).1
theorem kind_free {env : Env} {sc : Scope} {x : Str} {cl : List (Str × Addr)} {L : Addr} (hk : EnvOk k env) (h : CompOk k sc x) {y : Str} (e : sc.names.lookup y = some .free) : (compEnvC sc cl L env).kindOf y = some .cell := by
  rw [kindOf_comp hk.kind, e, Option.map_some, hk.cell _ (h.free (y, .free) (mem_of_lookup e) rfl).1]; rfl

theorem comp_envOk {sc : Scope} {x : Str} {cl : List (Str × Addr)} {L : Addr} (hk : EnvOk k env) (h : CompOk k sc x) (hcl : ∀ x ∈ sc.names, x.2 = .free → ∃ a, (x.1, a) ∈ cl) :
    EnvOk (fun y => sc.names.lookup y) (compEnvC sc cl L env) where
  kind := h.kind
  globals := hk.globals
  builtins := hk.builtins
  glob := fun x e => by rw [kindOf_comp hk.kind, e]; rfl
  loc := fun x e => by rw [kindOf_comp hk.kind, e]; rfl
  cell := fun x e => absurd rfl (h.nocell (x, .cell) (mem_of_lookup e))
  free := fun x e => kind_free hk h e
  cellAt := fun x e => by
    obtain ⟨a, ha⟩ := hcl (x, .free) (mem_of_lookup (kind_cell hk h e).1) rfl
    show ∃ a, cl.lookup x = some a
    cases r : cl.lookup x with
    | some a => exact ⟨a, rfl⟩
    | none => exact absurd (show (x != x) = true from List.lookup_eq_none_iff.mp r _ ha) (by rw [bne_self_eq_false]; exact fun q => nomatch q)

theorem IterAt.there {C : Ctx} {ρ : List Addr} {h : Heap} {I : Addr} {i : Nat} {v : V} (x : IterAt C ρ h I i v) : ∃ o, h.get? I = some o := by
  obtain ⟨o, _, _, e, _⟩ := x.obj; exact ⟨o, e⟩
theorem _root_.PySem.PlainL.there {h : Heap} {a : Addr} {xs : Array Value} (x : PlainL h a xs) : ∃ o, h.get? a = some o := by
  obtain ⟨o, _, e, _⟩ := x; exact ⟨o, e⟩
theorem none_back {ρ' : List Addr} {s' : Shared} {m' : Loc} {σ' : Store} (sit : Sit C n A fr env m σ ρ s) (p : Post C (exOf env) ρ ρ' s s') (sit' : Sit C n A fr env m' σ' ρ' s') {a : Addr} (h : s'.heap.get? a = none) : s.heap.get? a = none := by
  cases q : s.heap.get? a with
  | none => rfl
  | some o =>
    by_cases h1 : a ∈ ρ
    · obtain ⟨i, _, _, e, _⟩ := sit.rel.sr.owned h1
      obtain ⟨_, _, _, _, r⟩ := sit'.rel.sr.owned (List.mem_of_getElem? (p.pre i a e))
      obtain ⟨_, e2, _⟩ := r.there
      rw [h] at e2; cases e2
    · by_cases h2 : exOf env a
      · exact absurd h2 (sit'.rel.not_ex_of_none h)
      · exact ((p.keep a o q h1 h2).not_none h).elim

theorem isList_not_imm {h : Heap} {a : Addr} {xs : Array Value} (hl : h.IsList a xs) (o : Obj) (e : h.get? a = some o) : ¬ Imm o := by
  obtain ⟨o', h1, h2, _⟩ := hl
  rw [h1] at e; cases e
  exact not_imm_cls h2 (by decide) (by decide)
theorem ns_not_imm {h : Heap} {a : Addr} {f : Str → Option Value} (hl : h.Ns a f) (o : Obj) (e : h.get? a = some o) : ¬ Imm o := by
  obtain ⟨o', es, ep, h1, h2, _⟩ := hl
  rw [h1] at e; cases e
  exact not_imm_dict h2

theorem ExcG.no {ex : Addr → Prop} {e : Value} {s' : Shared} (x : ExcP C fr noX ex ρ s e s') : False := by
  obtain ⟨σ', _, _, _, _, _, h, _⟩ := x
  exact h

theorem tests_sound {ifs : List Expr} {cs : List Mine.E} (hifs : All2 (SoundT C n noX k) ifs cs) (hlen : cs.length ≤ 1) (hk : EnvOk k env) (sit : Sit C n A fr env m σ ρ s) {Q : Bool → Store → Prop} (h : wpCs C n noX cs m σ Q) :
    wpAny (model C.prog C.w) A (forIn ifs true fun c r => if r = true then do let ok ← isTrue c env (eval c env); pure (ForInStep.yield ok) else pure (ForInStep.yield r)) (PT C n A fr env m ρ s Q) (ExcP C fr noX (exOf env) ρ s) s := by
  cases ifs with
  | nil => cases cs with
    | nil => exact wpAny_tests_nil ⟨σ, ρ, h, sit, .refl⟩
    | cons => exact hifs.elim
  | cons c r => cases cs with
    | nil => exact hifs.elim
    | cons c' r' => cases r with
      | nil => exact wpAny_tests_one (hifs.1 _ _ _ _ _ _ _ _ hk sit h)
      | cons => cases r' with
        | nil => exact hifs.2.elim
        | cons => exact absurd (Nat.le_of_succ_le_succ hlen) (Nat.not_succ_le_zero _)

/-- the inner frame -/
inductive Inner (C : Ctx) (n : Nat) (A : Around) (fr : List Env) (env : Env) (m : Loc) (σ : Store) (ρ : List Addr) (s : Shared) (sc : Scope) (x : Str) (cenv : Env) : Prop
  | mk (h1 : EnvOk (fun y => sc.names.lookup y) cenv) (h2 : Sit C n A fr cenv (clr (clr m x.toString) ".0") σ ρ s) (h3 : Inside env cenv m (clr (clr m x.toString) ".0")) (h4 : ∀ mj v, Inside env cenv m mj → Inside env cenv m (upd mj x.toString v)) : Inner C n A fr env m σ ρ s sc x cenv
theorem clr_el {m : Loc} {x y : String} {v : V} (e : clr m x y = some v) : m y = some v ∧ y ≠ x := by
  unfold clr at e
  by_cases h : y = x
  · rw [if_pos h] at e; exact no e
  · rw [if_neg h] at e; exact ⟨e, h⟩
theorem comp_inner {x : Str} {sc : Scope} {cl : List (Str × Addr)} {L : Addr} (hk : EnvOk k env) (sit : Sit C n A fr env m σ ρ s) (ok : CompOk k sc x) (hx : sc.names.lookup x = some .local) (hn : nameOk x = true)
    (hcl1 : ∀ p ∈ cl, env.cells.lookup p.1 = some p.2 ∧ (p.1, NameKind.free) ∈ sc.names) (hcl2 : ∀ x ∈ sc.names, x.2 = .free → ∃ a, (x.1, a) ∈ cl) {mm : Str → Option Value} (hns : s.heap.Ns L mm) (dL : Side C fr env ρ s.heap L) :
    Inner C n A fr env m σ ρ s sc x (compEnvC sc cl L env) := by
  have hkc := comp_envOk (cl := cl) (L := L) hk ok hcl2
  have hxs := (nameOk_eq hn).1
  have hcl3 : ∀ nm a, (nm, a) ∈ cl → env.cells.lookup nm = some a := fun nm a h => (hcl1 _ h).1
  have hkcell : ∀ nm a, (nm, a) ∈ cl → (compEnvC sc cl L env).kindOf nm = some .cell := fun nm a h => kind_free hk ok (ok.free _ (hcl1 _ h).2 rfl).2.1
  have hnx : ∀ nm a, (nm, a) ∈ cl → nm ≠ x := fun nm a h q => by
    have := (ok.free _ (hcl1 _ h).2 rfl).2.1
    rw [q] at this; exact nomatch hx.symm.trans this
  refine ⟨hkc, ⟨sit.room, sit.frs, sit.fok, sit.rel.sr, ⟨_, hns, fun y v e1 e2 => ?_⟩, fun nm a hm => sit.rel.cell nm a (mem_of_lookup (hcl3 nm a hm)), fun y v e1 e2 => ?_, ⟨dL.base, dL.own⟩, fun nm a hm => ?_, fun a b c h1 h2 => sit.rel.apart a b c (mem_of_lookup (hcl3 _ _ h1)) (mem_of_lookup (hcl3 _ _ h2))⟩,
    ⟨hcl3, hkcell, fun y v a h e => ?_⟩, fun mj v y => ⟨y.cells, y.kind, fun z w a h e => ?_⟩⟩
  · obtain ⟨e1, h2⟩ := clr_el e1
    obtain ⟨e1, h1⟩ := clr_el e1
    exact (kind_local hk ok e2).elim (fun q => absurd (ofString_inj (q.trans hxs.symm)) h1) fun q => absurd (ofString_inj q) h2
  · obtain ⟨e1, _⟩ := clr_el e1
    obtain ⟨e1, _⟩ := clr_el e1
    obtain ⟨q1, q2⟩ := kind_cell hk ok e2
    obtain ⟨a', c', f1, f2, f3⟩ := sit.rel.cellv y v e1 q2
    obtain ⟨a, ha⟩ := hkc.cellAt _ e2
    have : a' = a := Option.some.inj (f1.symm.trans (hcl3 _ _ (mem_of_lookup ha)))
    exact ⟨a, c', ha, this ▸ f2, f3⟩
  · have hm' := mem_of_lookup (hcl3 nm a hm)
    obtain ⟨c1, c2, c3⟩ := sit.rel.cellNew nm a hm'
    exact ⟨c1, c2, fun q => dL.ex (.inr ⟨nm, (show a = L from q) ▸ hm'⟩)⟩
  · have h1 : y ≠ x.toString := fun q => hnx _ _ h (by rw [q, hxs])
    have h2 : y ≠ ".0" := fun q => (ok.free _ (hcl1 _ h).2 rfl).2.2 (by rw [q])
    unfold clr
    rw [if_neg h2, if_neg h1]; exact e
  · have h1 : z ≠ x.toString := fun q => hnx _ _ h (by rw [q, hxs])
    unfold upd
    rw [if_neg h1]; exact y.same z w a h e

/-- what holds ahead of each turn -/
inductive CInv (C : Ctx) (n : Nat) (A : Around) (fr : List Env) (env cenv : Env) (m : Loc) (ρ₁ : List Addr) (s₁ : Shared) (I D : Addr) (sv : V) (items : List V) (x : String) (cs : List E) (e : E) (Qa : List V → Store → Prop) (j : Nat) (sj : Shared) : Prop
  | mk (acc rest : List V) (i : Nat) (mj : Loc) (σj : Store) (ρj : List Addr) (ds : List Value) (hj : j = rest.length) (hdrop : items.drop i = rest) (hdl : ds.length ≤ i) (sit : Sit C n A fr cenv mj σj ρj sj)
      (p : Post C (exOf cenv) ρ₁ ρj s₁ sj) (it : IterAt C ρj sj.heap I i sv) (dI : Side C fr cenv ρj sj.heap I) (dD : Side C fr cenv ρj sj.heap D) (hl : PlainL sj.heap D ds.toArray) (hv : VRs C ρj sj.heap acc ds) (ins : Inside env cenv m mj)
      (hW : compW sv items x (fun m σ Q => wpCs C n noX cs m σ Q) (fun m σ Q => wpE C n noX e m σ Q) rest acc mj σj Qa) : CInv C n A fr env cenv m ρ₁ s₁ I D sv items x cs e Qa j sj

theorem comp_src {sv : V} {items : List V} {x : String} {cn : Loc → Store → (Bool → Store → Prop) → Prop} {el : Loc → Store → (V → Store → Prop) → Prop} {rest acc : List V} {Qa : List V → Store → Prop} (h : compW sv items x cn el rest acc m σ Qa) : srcItems σ sv = some items := by
  cases rest <;> exact h.1

theorem comp_item {cenv : Env} {ρ₁ : List Addr} {s₁ : Shared} {I D : Addr} {sv : V} {items : List V} {x : Str} {px : Pos} {elt : Expr} {ifs : List Expr} {k' : Kinds} {cs : List E} {e : E} {Qa : List V → Store → Prop} {E3 E4 E5 E6 : Value → Shared → Prop}
    {v : V} {c : Value} {r acc : List V} {i : Nat} {ds : List Value}
    (hkc : EnvOk k' cenv) (hxl : trLoc k' x = some x.toString) (hins : ∀ mj v, Inside env cenv m mj → Inside env cenv m (upd mj x.toString v)) (hD1 : s₁.heap.get? D = none) (hID : I ≠ D) (hil : items.length < 1000000)
    (he : SoundE C n noX k' elt e) (hifs : All2 (SoundT C n noX k') ifs cs) (hlen : cs.length ≤ 1) {mj : Loc}
    (hvc : VR C ρ s.heap v c) (hdrop : items.drop i = v :: r) (hdl : ds.length ≤ i) (sit : Sit C n A fr cenv mj σ ρ s) (p : Post C (exOf cenv) ρ₁ ρ s₁ s) (it : IterAt C ρ s.heap I (i + 1) sv) (dI : Side C fr cenv ρ s.heap I) (dD : Side C fr cenv ρ s.heap D)
    (hl : PlainL s.heap D ds.toArray) (hv : VRs C ρ s.heap acc ds) (ins : Inside env cenv m mj)
    (hW : wpCs C n noX cs (upd mj x.toString v) σ fun b σ₁ => if b then wpE C n noX e (upd mj x.toString v) σ₁ fun y σ₂ => compW sv items x.toString (fun m σ Q => wpCs C n noX cs m σ Q) (fun m σ Q => wpE C n noX e m σ Q) r (acc ++ [y]) (upd mj x.toString v) σ₂ Qa
      else compW sv items x.toString (fun m σ Q => wpCs C n noX cs m σ Q) (fun m σ Q => wpE C n noX e m σ Q) r acc (upd mj x.toString v) σ₁ Qa) :
    wpAny (model C.prog C.w) A (assign (.Name x px) cenv c) (fun _ s₂ =>
      wpAny (model C.prog C.w) A (forIn ifs true fun c r => if r = true then do let ok ← isTrue c cenv (eval c cenv); pure (ForInStep.yield ok) else pure (ForInStep.yield r)) (fun ok s₃ =>
        if ok = true then wpAny (model C.prog C.w) A (eval elt cenv) (fun y s₄ =>
          wpAny (model C.prog C.w) A (call (.builtin "list.append") [.ref D, y]) (fun _ s₅ => ∃ m', m' < (v :: r).length ∧ CInv C n A fr env cenv m ρ₁ s₁ I D sv items x.toString cs e Qa m' s₅) E6 s₄) E5 s₃
        else ∃ m', m' < (v :: r).length ∧ CInv C n A fr env cenv m ρ₁ s₁ I D sv items x.toString cs e Qa m' s₃) E4 s₂) E3 s := by
  have hdrop' : items.drop (i + 1) = r := by rw [← List.drop_drop, hdrop]; rfl
  have hi : i < 1000000 := Nat.lt_trans (Nat.lt_of_not_le fun q => nomatch hdrop.symm.trans (List.drop_eq_nil_of_le q)) hil
  refine wpAny_assign_Name (store_loc hkc sit hxl hvc fun s₂ sit₂ p₂ => ?_)
  have dI₂ := dI.move it.there p₂
  have dD₂ := dD.move hl.there p₂
  have it₂ := it.move sit dI p₂
  have hl₂ := plain_move hl dD p₂
  have hv₂ := hv.post sit.rel p₂
  refine wpAny_mono (tests_sound hifs hlen hkc sit₂ hW) (fun b s₃ hp => PT.elim hp fun σ₃ ρ₃ hW₃ sit₃ p₃ => ?_) fun e s' x => x.no.elim
  have dI₃ := dI₂.move it₂.there p₃
  have dD₃ := dD₂.move hl₂.there p₃
  have it₃ := it₂.move sit₂ dI₂ p₃
  have hl₃ := plain_move hl₂ dD₂ p₃
  have hv₃ := hv₂.post sit₂.rel p₃
  have pp := (p.trans p₂).trans p₃
  clear dI₂ dD₂ it₂ hl₂ hv₂ dI dD it hl hv
  cases b with
  | false => exact ⟨r.length, Nat.lt_succ_self _, acc, r, i + 1, _, σ₃, ρ₃, ds, rfl, hdrop', Nat.le_succ_of_le hdl, sit₃, pp, it₃, dI₃, dD₃, hl₃, hv₃, hins _ _ ins, hW₃⟩
  | true =>
    refine wpAny_mono (he A fr cenv _ _ _ _ _ hkc sit₃ hW₃) (fun c₆ s₆ hp => PE.elim hp fun y σ₆ ρ₆ hW₆ hy₆ sit₆ p₆ => ?_) fun e s' x => x.no.elim
    have dI₆ := dI₃.move it₃.there p₆
    have dD₆ := dD₃.move hl₃.there p₆
    have it₆ := it₃.move sit₃ dI₃ p₆
    have hv₆ := hv₃.post sit₃.rel p₆
    refine list_append_plainL (plain_move hl₃ dD₃ p₆) (fun h₇ hl₇ hs₇ => ?_) (by rw [sizeLine_eq]; exact Nat.le_of_lt (Nat.lt_of_le_of_lt hdl (Nat.lt_trans hi (by decide : 1000000 < 16777216))))
    have keep₇ : ∀ b o, b ≠ D → s₆.heap.get? b = some o → h₇.get? b = some o := fun b o hb e => (hs₇.2 b hb).trans e
    have imm₇ : ∀ b o, s₆.heap.get? b = some o → Imm o → h₇.get? b = some o := fun b o e hi => keep₇ b o (fun q => dD₆.imm o (q ▸ e) hi) e
    have it₇ : IterAt C ρ₆ h₇ I (i + 1) sv := it₆.mono (fun _ _ e => e) imm₇ fun o e => keep₇ I o hID e
    have hl₇ : PlainL h₇ D (ds ++ [c₆]).toArray := by rw [← List.push_toArray]; exact hl₇
    exact ⟨r.length, Nat.lt_succ_self _, acc ++ [y], r, i + 1, _, σ₆, ρ₆, ds ++ [c₆], rfl, hdrop', by rw [List.length_append]; exact Nat.succ_le_succ hdl, sit₆.side (tk := s₆.toks) dD₆ keep₇, (pp.trans p₆).side (tk := s₆.toks) hD1 keep₇, it₇,
      ⟨dI₆.own, dI₆.ex, dI₆.base, dI₆.fr, it₇.imm⟩, ⟨dD₆.own, dD₆.ex, dD₆.base, dD₆.fr, isList_not_imm hl₇.isList⟩, hl₇, (hv₆.mono (fun _ _ e => e) imm₇).append (.cons (hy₆.mono (fun _ _ e => e) imm₇) .nil), hins _ _ ins, hW₆⟩

theorem comp_core {elt iter : Expr} {x : Str} {px : Pos} {ifs : List Expr} {sc : Scope} {pos pos' : Pos} {e : E} {cs : List E} {use : Option (Value → Sem Unit)} {Qf : Value → Shared → Prop} {Qa : List V → Store → Prop}
    (hk : EnvOk k env) (sit : Sit C n A fr env m σ ρ s) (ok : CompOk k sc x) (hx : sc.names.lookup x = some .local) (hn : nameOk x = true) (hset : ∀ v, foldedSetIterable iter env v = pure v)
    (he : SoundE C n noX (fun y => sc.names.lookup y) elt e) (hifs : All2 (SoundT C n noX (fun y => sc.names.lookup y)) ifs cs) (hlen : cs.length ≤ 1)
    (hsrc : wpAny (model C.prog C.w) A (eval iter env) (PE C n A fr env m ρ s (fun sv σ₁ => ob (srcItems σ₁ sv) fun items => items.length < 1000000 ∧
      compW sv items x.toString (fun m σ Q => wpCs C n noX cs m σ Q) (fun m σ Q => wpE C n noX e m σ Q) items [] (clr (clr m x.toString) ".0") σ₁ Qa)) Ex s)
    (fin : ∀ ρ' σ' s' D L mL vs ds, Sit C n A fr env m σ' ρ' s' → Post C (exOf env) ρ ρ' s s' → s.heap.get? D = none → Side C fr env ρ' s'.heap D → PlainL s'.heap D ds.toArray → VRs C ρ' s'.heap vs ds →
      s.heap.get? L = none → Side C fr env ρ' s'.heap L → s'.heap.Ns L mL → L ≠ D → Qa vs σ' → compPost (model C.prog C.w) A Ex use Qf (.ref D) L (.ok .next) s') :
    wpAny (model C.prog C.w) A (comprehension (.ListComp elt [⟨.Name x px, iter, ifs, 0⟩] sc pos) sc env pos' (newList []) false (eval iter env) use) Qf Ex s := by
  obtain ⟨cl, hclos, hcl1, hcl2⟩ := closure_at (env := env) (sc := sc) fun y hy hf => hk.cellAt _ (hk.cell _ (ok.free y hy hf).1)
  refine wpAny_comprehension_free rfl hset hclos ok.kind (fun y hy hl => (ok.locs y hy hl).2) (wpAny_mono hsrc (fun c s₁ hp => PE.elim hp fun sv σ₁ ρ₁ qq hv sit₁ p₁ => ob_el qq fun items hitems qq => ?_) fun _ _ h => h)
  obtain ⟨hil, hW⟩ := qq
  refine iter_start sit₁ hv hitems fun s₂ I sit₂ p₂ grow₂ hI1 dI₂ it₂ => wpAny_newObj_type ?_
  clear hv hsrc
  -- the accumulator
  have hD2 : s₂.heap.get? s₂.heap.objs.size = none := Heap.get?_none_of_le (Nat.le_refl _)
  have hH3 : ∀ b o, s₂.heap.get? b = some o → (s₂.heap.push { cls := .type "list", data := .seq ([] : List Value).toArray }).get? b = some o := fun b o e => Heap.get?_push_of_some _ e
  have hl₃ : PlainL (s₂.heap.push { cls := .type "list", data := .seq ([] : List Value).toArray }) s₂.heap.objs.size ([] : List Value).toArray := ⟨_, _, Heap.get?_push_size _ rfl, rfl, rfl, rfl⟩
  generalize s₂.heap.push { cls := .type "list", data := .seq ([] : List Value).toArray } = H₃ at hH3 hl₃ ⊢
  generalize s₂.heap.objs.size = D at hD2 hl₃ ⊢
  obtain ⟨sit₃, p₃⟩ := sit₂.grow (s' := { s₂ with heap := H₃ }) hH3 rfl rfl
  have dD₃ : Side C fr env ρ₁ H₃ D := ⟨(Side.new sit₂ hD2).own, (Side.new sit₂ hD2).ex, (Side.new sit₂ hD2).base, (Side.new sit₂ hD2).fr, isList_not_imm hl₃.isList⟩
  have hL3 : H₃.get? H₃.objs.size = none := Heap.get?_none_of_le (Nat.le_refl _)
  refine wpAny_newFunctionEnv ok.nocell (fun y hy => nomatch hy) (fun h₄ hns₄ hsb₄ => ?_) ok.kind
  dsimp only at hns₄ hsb₄ ⊢
  generalize H₃.objs.size = L at hL3 hns₄ hsb₄ ⊢
  have old₄ : ∀ b o, H₃.get? b = some o → h₄.get? b = some o := fun b o e => (hsb₄.2 b fun q => by rw [q, hL3] at e; exact no e).trans (Heap.get?_push_of_some _ e)
  obtain ⟨sit₄, p₄⟩ := sit₃.grow (s' := { s₂ with heap := h₄, toks := s₂.toks + ([] : List (Str × Value)).length }) old₄ rfl rfl
  have hD1 := none_back sit₁ p₂ sit₂ hD2
  have hL1 := none_back sit₁ (p₂.trans p₃) sit₃ hL3
  have hDL : D ≠ L := fun q => by obtain ⟨o, e⟩ := hl₃.there; rw [q, hL3] at e; exact no e
  have hIL : I ≠ L := fun q => by obtain ⟨o, e⟩ := it₂.there; exact (p₃.keep I o e dI₂.own dI₂.ex).not_none (by rw [q]; exact hL3)
  have hID : I ≠ D := fun q => by obtain ⟨o, e⟩ := it₂.there; rw [q, hD2] at e; exact no e
  have dL₄ : Side C fr env ρ₁ h₄ L := ⟨(Side.new sit₃ hL3).own, (Side.new sit₃ hL3).ex, (Side.new sit₃ hL3).base, (Side.new sit₃ hL3).fr, ns_not_imm hns₄⟩
  have dI₄ : Side C fr env ρ₁ h₄ I := dI₂.move (s' := { s₂ with heap := h₄, toks := s₂.toks + ([] : List (Str × Value)).length }) it₂.there (p₃.trans p₄)
  have dD₄ : Side C fr env ρ₁ h₄ D := Side.move (s := { s₂ with heap := H₃ }) (s' := { s₂ with heap := h₄, toks := s₂.toks + ([] : List (Str × Value)).length }) dD₃ hl₃.there p₄
  have hl₄ : PlainL h₄ D ([] : List Value).toArray := plainAt hl₃ fun o e => old₄ _ o e
  have it₄ : IterAt C ρ₁ h₄ I 0 sv := it₂.mono (fun _ _ e => e) (fun b o e hi => old₄ b o (hH3 b o e)) fun o e => old₄ _ o (hH3 _ o e)
  have grow₄ : ∀ b o, s₁.heap.get? b = some o → h₄.get? b = some o := fun b o e => old₄ b o (hH3 b o (grow₂ b o e))
  have p24 := (p₂.trans p₃).trans p₄
  obtain ⟨hkc, sitI, ins₀, hins⟩ := comp_inner hk sit₄ ok hx hn hcl1 hcl2 hns₄ dL₄
  clear p₃ p₄ sit₃ sit₄ dI₂ dD₃ hl₃ hH3 it₂ old₄ hsb₄ hD2 hL3
  have p0 : Post C (exOf (compEnvC sc cl L env)) ρ₁ ρ₁ s₁ { s₂ with heap := h₄, toks := s₂.toks + ([] : List (Str × Value)).length } :=
    ⟨p24.gens, p24.os, p24.pre, fun a h h' => absurd h h', fun b o e h1 h2 => .inl (grow₄ b o e)⟩
  have hcl : (compEnvC sc cl L env).locals = L := rfl
  have dI₅ := dI₄.inside ins₀ hIL
  have dD₅ := dD₄.inside ins₀ hDL
  have first : CInv C n A fr env (compEnvC sc cl L env) m ρ₁ s₁ I D sv items x.toString cs e Qa items.length { s₂ with heap := h₄, toks := s₂.toks + ([] : List (Str × Value)).length } :=
    ⟨[], items, 0, _, _, _, [], rfl, rfl, Nat.le_refl _, sitI, p0, it₄, dI₅, dD₅, hl₄, .nil, ins₀, hW⟩
  show codeAny _ _ (.compStart (.ListComp elt [⟨.Name x px, iter, ifs, 0⟩] sc pos) 0 (.ref I) (.ref D) (compEnvC sc cl L env)) _ _
  generalize compEnvC sc cl L env = cenv at hkc hins hcl first ⊢
  have loop : codeAny (model C.prog C.w) A (.compLoop (.ListComp elt [⟨.Name x px, iter, ifs, 0⟩] sc pos) 0 (.ref I) (.ref D) cenv) (compPost (model C.prog C.w) A Ex use Qf (.ref D) L) { s₂ with heap := h₄, toks := s₂.toks + ([] : List (Str × Value)).length } := by
    refine codeAny_compLoop_tests (fun j sj => CInv C n A fr env cenv m ρ₁ s₁ I D sv items x.toString cs e Qa j sj) (fun j sj hI => ?_) items.length first
    obtain ⟨acc, rest, i, mj, σj, ρj, ds, hj, hdrop, hdl, sitj, pj, itj, dIj, dDj, hlj, hvj, insj, hWj⟩ := hI
    refine iter_next sitj (comp_src hWj) itj dIj (fun v c h' tk hvi hvc it' keep' => ?_) fun h' hend keep' => ?_
    · cases rest with
      | nil => exact absurd hvi (by rw [List.getElem?_eq_none (List.drop_eq_nil_iff.mp hdrop)]; exact fun q => no q)
      | cons v' r =>
        have hvv : v = v' := by
          have := congrArg (fun l => l[0]?) hdrop
          exact Option.some.inj (hvi.symm.trans ((List.getElem?_drop (xs := items) (i := i) (j := 0)).symm.trans this))
        subst hvv
        rw [hj]
        have hl' := plainAt hlj fun o e => keep' _ o (Ne.symm hID) e
        exact comp_item (s := { sj with heap := h', toks := tk }) hkc (by unfold trLoc; rw [hn]; show grd (sc.names.lookup x == some .local || _) _ = _; rw [hx]; rfl) hins hD1 hID hil he hifs hlen hvc hdrop hdl (sitj.side (tk := tk) dIj keep') (pj.side (tk := tk) hI1 keep') it' ⟨dIj.own, dIj.ex, dIj.base, dIj.fr, it'.imm⟩ ⟨dDj.own, dDj.ex, dDj.base, dDj.fr, isList_not_imm hl'.isList⟩
          hl' (hvj.mono (fun _ _ e => e) fun b o e hi => keep' b o (fun q => dIj.imm o (q ▸ e) hi) e) insj hWj.2
    · have hr : rest = [] := hdrop.symm.trans (List.drop_eq_nil_of_le hend)
      subst hr
      have sit' := sitj.side (tk := sj.toks) dIj keep'
      obtain ⟨sitO, pO⟩ := sit₁.outOf sit' (pj.side (tk := sj.toks) hI1 keep') (by rw [hcl]; exact hL1) insj
      have hl' : PlainL h' D ds.toArray := plainAt hlj fun o e => keep' _ o (Ne.symm hID) e
      have hv' : VRs C ρj h' acc ds := hvj.mono (fun _ _ e => e) fun b o e hi => keep' b o (fun q => dIj.imm o (q ▸ e) hi) e
      obtain ⟨mL, hnsL, _⟩ := sit'.rel.ns
      rw [hcl] at hnsL
      exact fin ρj σj { sj with heap := h', toks := sj.toks } D L mL acc ds sitO (p₁.trans pO) (none_back sit p₁ sit₁ hD1)
        ⟨dDj.own, sit₁.rel.not_ex_of_none hD1, dDj.base, dDj.fr, isList_not_imm hl'.isList⟩ hl' hv' (none_back sit p₁ sit₁ hL1)
        ⟨hcl ▸ sit'.rel.locNew.2, sit₁.rel.not_ex_of_none hL1, hcl ▸ sit'.rel.locNew.1, dL₄.fr, ns_not_imm hnsL⟩ hnsL (Ne.symm hDL) hWj.2
  exact codeAny_compStart_list loop (iter_self (s := { s₂ with heap := h₄, toks := s₂.toks + ([] : List (Str × Value)).length }) it₄ loop)

theorem SoundE.comp {elt iter : Expr} {x : Str} {px : Pos} {ifs : List Expr} {sc : Scope} {pos : Pos} {e src : Mine.E} {cs : List Mine.E}
    (ok : CompOk k sc x) (hx : sc.names.lookup x = some .local) (hn : nameOk x = true) (hset : ∀ env v, foldedSetIterable iter env v = pure v)
    (he : SoundE C n noX (fun y => sc.names.lookup y) elt e) (hsrc : SoundE C n X k iter src) (hifs : All2 (SoundT C n noX (fun y => sc.names.lookup y)) ifs cs) (hlen : cs.length ≤ 1) :
    SoundE C n X k (.ListComp elt [⟨.Name x px, iter, ifs, 0⟩] sc pos) (.comp e x.toString src cs) := fun A fr env m σ ρ s Q hk sit h => by
  rw [eval_ListComp]
  refine comp_core (Qa := fun vs σ₂ => Q (.ref σ₂.length) (σ₂ ++ [AObj.list vs])) hk sit ok hx hn (hset env) he hifs hlen (hsrc _ _ _ _ _ _ _ _ hk sit h) fun ρ' σ' s' D L mL vs ds sit' p' hD dD hl hv hL dL hns hLD hq => ?_
  refine ⟨mL, hns, fun h' hs' => ?_⟩
  have keep' : ∀ b o, b ≠ L → s'.heap.get? b = some o → h'.get? b = some o := fun b o hb e => (hs'.2 b hb).trans e
  have sit'' := sit'.side (tk := s'.toks) dL keep'
  have p'' := p'.side (tk := s'.toks) hL keep'
  have hl' : PlainL h' D ds.toArray := plainAt hl fun o e => keep' _ o (Ne.symm hLD) e
  have hv' : VRs C ρ' h' vs ds := hv.mono (fun _ _ e => e) fun b o e hi => keep' b o (fun q => by subst q; exact dL.imm o e hi) e
  obtain ⟨b1, b2, b3⟩ := Sit.adopt (s' := { s' with heap := h', toks := s'.toks }) (o := .list vs) sit hD sit'' p'' dD.own (isList_not_imm hl'.isList) (fun b o _ e => e)
    (.list hl' (hv'.mono (fun _ _ e => getElem?_snoc_of e) fun b o e _ => e)) rfl rfl
  exact ⟨_, _, _, hq, b3, b1, b2⟩

end
end Mine

end

section
open PySem PySem.W PyProof.Rows
set_option linter.unusedVariables false
set_option maxRecDepth 100000
set_option tactic.hygienic false
namespace Mine

noncomputable def FlR (C : Ctx) (ρ : List Addr) (h : Heap) (fl : Fl) (f : Flow) : Prop := match fl with
  | .next => f = .next
  | .cont => f = .cont
  | .ret v => ∃ c, f = .ret c ∧ VR C ρ h v c

inductive PSt (C : Ctx) (n : Nat) (A : Around) (fr : List Env) (env : Env) (ρ : List Addr) (s : Shared) (Q : Fl → Loc → Store → Prop) (f : Flow) (s' : Shared) : Prop
  | mk (fl : Fl) (m' : Loc) (σ' : Store) (ρ' : List Addr) (q : Q fl m' σ') (hf : FlR C ρ' s'.heap fl f) (sit : Sit C n A fr env m' σ' ρ' s') (p : Post C (exOf env) ρ ρ' s s') : PSt C n A fr env ρ s Q f s'

/-- what an exception of this body may lead to -/
structure Pass (C : Ctx) (A : Around) (fr : List Env) (env : Env) (X : Store → Prop) (EB : Value → Shared → Prop) (ρ : List Addr) (s : Shared) : Prop where
  top : ∃ outer, fr = env :: outer ∧ env.frame = some env.locals
  own : PassesOwn (model C.prog C.w) A env EB
  fly : ∀ e s', ExcP C fr X (exOf env) ρ s e s' → EB e s'
  made : ∀ e s', ExcG MadeW C fr X (exOf env) ρ s e s' → EB e s'

section
variable {C : Ctx} {n : Nat} {X : Store → Prop} {k : Kinds} {A : Around} {fr : List Env} {env : Env} {m : Loc} {σ : Store} {ρ ρ' : List Addr} {s s' : Shared} {EB Ex : Value → Shared → Prop}

theorem Pass.go (p : Pass C A fr env X EB ρ s) (q : Post C (exOf env) ρ ρ' s s') (hf : FrOk C ρ s.heap fr) : Pass C A fr env X EB ρ' s' :=
  ⟨p.top, p.own, fun e s'' x => p.fly e s'' (x.after q hf), fun e s'' x => p.made e s'' (x.after q hf)⟩

theorem PSt.after {Q f s''} (x : PSt C n A fr env ρ' s' Q f s'') (q : Post C (exOf env) ρ ρ' s s') : PSt C n A fr env ρ s Q f s'' := by
  obtain ⟨fl, m', σ', ρ'', a, b, c, d⟩ := x; exact ⟨fl, m', σ', ρ'', a, b, c, q.trans d⟩
end

noncomputable def SoundS (C : Ctx) (n : Nat) (X : Store → Prop) (k : Kinds) (ast : Stmt) (st : S) : Prop :=
  ∀ A fr env m σ ρ s Q EB, EnvOk k env → Sit C n A fr env m σ ρ s → Pass C A fr env X EB ρ s → wpS C n X st m σ Q →
    wpAny (model C.prog C.w) A (exec ast env) (PSt C n A fr env ρ s Q) EB s
noncomputable def SoundSs (C : Ctx) (n : Nat) (X : Store → Prop) (k : Kinds) (ast : List Stmt) (st : List S) : Prop :=
  ∀ A fr env m σ ρ s Q EB, EnvOk k env → Sit C n A fr env m σ ρ s → Pass C A fr env X EB ρ s → wpSs C n X st m σ Q →
    wpAny (model C.prog C.w) A (execs ast env) (PSt C n A fr env ρ s Q) EB s

section
variable {C : Ctx} {n : Nat} {X : Store → Prop} {k : Kinds} {A : Around} {fr : List Env} {env : Env} {m : Loc} {σ : Store} {ρ ρ' : List Addr} {s s' : Shared} {EB Ex : Value → Shared → Prop}

/-- an expression within a statement -/
theorem SoundE.use {a : Expr} {e : Mine.E} (he : SoundE C n X k a e) (hk : EnvOk k env) (sit : Sit C n A fr env m σ ρ s) (ps : Pass C A fr env X EB ρ s) {Qa : V → Store → Prop} (h : wpE C n X e m σ Qa) {Q : Value → Shared → Prop}
    (hQ : ∀ c v σ' ρ' s', Qa v σ' → VR C ρ' s'.heap v c → Sit C n A fr env m σ' ρ' s' → Post C (exOf env) ρ ρ' s s' → Pass C A fr env X EB ρ' s' → Q c s') : wpAny (model C.prog C.w) A (eval a env) Q EB s :=
  wpAny_mono (he _ _ _ _ _ _ _ _ hk sit h) (fun c s' x => PE.elim x fun v σ' ρ' h1 h2 h3 h4 => hQ c v σ' ρ' s' h1 h2 h3 h4 (ps.go h4 sit.fok)) ps.fly
theorem SoundT.use {a : Expr} {e : Mine.E} (he : SoundT C n X k a e) (hk : EnvOk k env) (sit : Sit C n A fr env m σ ρ s) (ps : Pass C A fr env X EB ρ s) {Qa : Bool → Store → Prop} (h : wpT C n X e m σ Qa) {Q : Bool → Shared → Prop}
    (hQ : ∀ b σ' ρ' s', Qa b σ' → Sit C n A fr env m σ' ρ' s' → Post C (exOf env) ρ ρ' s s' → Pass C A fr env X EB ρ' s' → Q b s') : wpAny (model C.prog C.w) A (isTrue a env (eval a env)) Q EB s :=
  wpAny_mono (he _ _ _ _ _ _ _ _ hk sit h) (fun c s' x => PT.elim x fun σ' ρ' h1 h3 h4 => hQ c σ' ρ' s' h1 h3 h4 (ps.go h4 sit.fok)) ps.fly

theorem SoundS.pass (pos : Pos) : SoundS C n X k (.Pass pos) .pass := fun A fr env m σ ρ s Q EB hk sit ps h => by
  exact wpAny_Pass ⟨_, _, _, _, h, rfl, sit, .refl⟩
theorem SoundS.cont (pos : Pos) : SoundS C n X k (.Continue pos) .cont := fun A fr env m σ ρ s Q EB hk sit ps h => by
  exact wpAny_Continue ⟨_, _, _, _, h, rfl, sit, .refl⟩
theorem SoundS.ret {a : Expr} {e : Mine.E} (pos : Pos) (he : SoundE C n X k a e) : SoundS C n X k (.Return (some a) pos) (.ret e) := fun A fr env m σ ρ s Q EB hk sit ps h => by
  exact wpAny_Return_some (he.use hk sit ps h fun c v σ' ρ' s' h1 h2 h3 h4 _ => ⟨Fl.ret v, m, _, _, h1, ⟨c, rfl, h2⟩, h3, h4⟩)

theorem swaps_none {a : Expr} (h : isListComp a = false) (t : Option Expr) (l : Nat) (env : Env) : swapsWith a t l env = pure false := by
  cases a <;> first | rfl | exact noT h
theorem notInteractive (hk : EnvOk k env) : interactive env = false := by
  unfold interactive; rw [hk.kind]; rfl

theorem SoundS.expr {a : Expr} {e : Mine.E} (pos : Pos) (hl : isListComp a = false) (he : SoundE C n X k a e) : SoundS C n X k (.Expr a pos) (.expr e) := fun A fr env m σ ρ s Q EB hk sit ps h => by
  exact wpAny_Expr_any (he.use hk sit ps h fun c v σ' ρ' s' h1 h2 h3 h4 _ => ⟨Fl.next, _, _, _, h1, rfl, h3, h4⟩) (notInteractive hk) (swaps_none hl _ _ _)

theorem SoundS.ite {t : Expr} {e : Mine.E} {b o : List Stmt} {b' o' : List S} (pos : Pos) (he : SoundT C n X k t e) (hb : SoundSs C n X k b b') (ho : SoundSs C n X k o o') : SoundS C n X k (.If t b o pos) (.ite e b' o') :=
  fun A fr env m σ ρ s Q EB hk sit ps h => by
  refine wpAny_If (he.use hk sit ps h fun c σ' ρ' s' h1 h3 h4 ps' => ?_)
  cases c
  · exact wpAny_mono (ho _ _ _ _ _ _ _ _ _ hk h3 ps' h1) (fun f s'' x => x.after h4) fun a b x => x
  · exact wpAny_mono (hb _ _ _ _ _ _ _ _ _ hk h3 ps' h1) (fun f s'' x => x.after h4) fun a b x => x

theorem SoundSs.nil : SoundSs C n X k [] [] := fun A fr env m σ ρ s Q EB hk sit ps h => by
  exact wpAny_execs_nil ⟨_, _, _, _, h, rfl, sit, .refl⟩
theorem SoundSs.cons {a : Stmt} {r : List Stmt} {a' : S} {r' : List S} (ha : SoundS C n X k a a') (hr : SoundSs C n X k r r') : SoundSs C n X k (a :: r) (a' :: r') := fun A fr env m σ ρ s Q EB hk sit ps h => by
  refine wpAny_execs_cons (wpAny_mono (ha _ _ _ _ _ _ _ _ _ hk sit ps h) (fun f s' x => ?_) fun a b x => x)
  obtain ⟨fl, m', σ', ρ', h1, h2, h3, h4⟩ := x
  cases fl with
  | next => rw [show f = .next from h2]; exact wpAny_mono (hr _ _ _ _ _ _ _ _ _ hk h3 (ps.go h4 sit.fok) h1) (fun f s'' x => x.after h4) fun a b x => x
  | cont => rw [show f = .cont from h2]; exact ⟨Fl.cont, _, _, _, h1, rfl, h3, h4⟩
  | ret v => obtain ⟨c, rfl, h2⟩ := h2; exact ⟨Fl.ret v, _, _, _, h1, ⟨c, rfl, h2⟩, h3, h4⟩

/-- what holds ahead of each test -/
inductive WInv (C : Ctx) (n : Nat) (A : Around) (fr : List Env) (env : Env) (ρ : List Addr) (s : Shared) (t : Loc → Store → (Bool → Store → Prop) → Prop) (b : Loc → Store → (Fl → Loc → Store → Prop) → Prop) (Q : Fl → Loc → Store → Prop) (j : Nat) (sj : Shared) : Prop
  | mk (m' : Loc) (σ' : Store) (ρ' : List Addr) (h : whileW t b j m' σ' Q) (sit : Sit C n A fr env m' σ' ρ' sj) (p : Post C (exOf env) ρ ρ' s sj) : WInv C n A fr env ρ s t b Q j sj
theorem SoundS.while {t : Expr} {e : Mine.E} {b : List Stmt} {b' : List S} (pos : Pos) (he : SoundT C n X k t e) (hb : SoundSs C n X k b b') : SoundS C n X k (.While t b [] pos) (.while e b') :=
  fun A fr env m σ ρ s Q EB hk sit ps h => by
  obtain ⟨fuel, h⟩ := h
  refine wpAny_While (codeAny_whileLoop (fun j sj => WInv C n A fr env ρ s (fun m σ Q => wpT C n X e m σ Q) (fun m σ Q => wpSs C n X b' m σ Q) Q j sj) (fun j sj hI => ?_) fuel ⟨m, σ, ρ, h, sit, .refl⟩)
  obtain ⟨m', σ', ρ', hw, sitj, pj⟩ := hI
  cases j with
  | zero => exact hw.elim
  | succ j =>
    refine wpAny_passesOwn ps.own (he.use hk sitj (ps.go pj sit.fok) hw fun c σ₁ ρ₁ s₁ h1 sit₁ p₁ ps₁ => ?_)
    have pj₁ := pj.trans p₁
    cases c with
    | false => exact wpAny_passesOwn ps.own (wpAny_execs_nil ⟨Fl.next, m', σ₁, ρ₁, h1, rfl, sit₁, pj₁⟩)
    | true =>
      refine wpAny_passesOwn ps.own (wpAny_mono (hb _ _ _ _ _ _ _ _ _ hk sit₁ ps₁ h1) (fun f s₂ x => ?_) fun a b x => x)
      obtain ⟨fl, m₂, σ₂, ρ₂, h2, hf, sit₂, p₂⟩ := x
      have pj₂ := pj₁.trans p₂
      cases fl with
      | next => rw [show f = .next from hf]; exact ⟨j, Nat.lt_succ_self _, _, _, _, h2, sit₂, pj₂⟩
      | cont => rw [show f = .cont from hf]; exact ⟨j, Nat.lt_succ_self _, _, _, _, h2, sit₂, pj₂⟩
      | ret v => obtain ⟨c, rfl, hf⟩ := hf; exact ⟨Fl.ret v, _, _, _, h2, ⟨c, rfl, hf⟩, sit₂, pj₂⟩

/-- binding -/
noncomputable def SoundB (C : Ctx) (n : Nat) (k : Kinds) (ast : Expr) (t : T) : Prop :=
  ∀ A fr env m σ ρ s v c m' (Ex : Value → Shared → Prop) (Q : Unit → Shared → Prop), EnvOk k env → Sit C n A fr env m σ ρ s → VR C ρ s.heap v c → bndT t v m = some m' →
    (∀ s', Sit C n A fr env m' σ ρ s' → Post C (exOf env) ρ ρ s s' → Q () s') → wpAny (model C.prog C.w) A (assign ast env c) Q Ex s

theorem SoundB.name {x : Str} {y : String} (p : Pos) (hl : trLoc k x = some y) : SoundB C n k (.Name x p) (.name y) := fun A fr env m σ ρ s v c m' Ex Q hk sit hv hb hQ => by
  rw [← Option.some.inj hb] at hQ
  exact wpAny_assign_Name (store_loc hk sit hl hv hQ)

/-- stores one by one -/
noncomputable def StoreOk (C : Ctx) (n : Nat) (A : Around) (fr : List Env) (env : Env) (t : Value → Sem Unit) (x : String) : Prop :=
  ∀ m σ ρ s v c (Ex : Value → Shared → Prop) (Q : Unit → Shared → Prop), Sit C n A fr env m σ ρ s → VR C ρ s.heap v c →
    (∀ s', Sit C n A fr env (upd m x v) σ ρ s' → Post C (exOf env) ρ ρ s s' → Q () s') → wpAny (model C.prog C.w) A (t c) Q Ex s

theorem inOrder_sound {vs : List V} : ∀ {cs : List Value} {ts : List (Value → Sem Unit)} {xs : List String} {m m' : Loc} {s : Shared} {Q : Unit → Shared → Prop}, All2 (StoreOk C n A fr env) ts xs → Sit C n A fr env m σ ρ s → VRs C ρ s.heap vs cs →
    bindL xs vs m = some m' → (∀ s', Sit C n A fr env m' σ ρ s' → Post C (exOf env) ρ ρ s s' → Q () s') → wpAny (model C.prog C.w) A (assignInOrder ts cs) Q Ex s := by
  induction vs with
  | nil =>
    intro cs ts xs m m' s Q ht sit hv hb hQ
    cases xs with
    | cons x xs => exact no hb
    | nil =>
      cases ts with
      | cons _ _ => exact ht.elim
      | nil =>
        rw [show cs = [] from hv]
        rw [← Option.some.inj hb] at hQ
        exact wpAny_pure (hQ _ sit .refl)
  | cons v vs ih =>
    intro cs ts xs m m' s Q ht sit hv hb hQ
    cases xs with
    | nil => exact no hb
    | cons x xs =>
      cases ts with
      | nil => exact ht.elim
      | cons t ts =>
        obtain ⟨c, cs, rfl, hv, hvs⟩ := hv
        show wpAny _ _ (do holding cs (t c); assignInOrder ts cs) _ _ _
        refine wpAny_bind (wpAny_holding (ht.1 _ _ _ _ _ _ _ _ sit hv fun s₁ sit₁ p₁ => ?_))
        exact ih ht.2 sit₁ (hvs.post sit.rel p₁) hb fun s₂ sit₂ p₂ => hQ s₂ sit₂ (p₁.trans p₂)

theorem names_cons {e : Expr} {r : List Expr} {xs : List String} (h : trT.names k (e :: r) = some xs) : ∃ x p y ys, e = .Name x p ∧ trLoc k x = some y ∧ trT.names k r = some ys ∧ xs = y :: ys := by
  refine obd_el h fun x h1 h => obd_el h fun y h2 h => obd_el h fun ys h3 h => ?_
  obtain ⟨p, h4⟩ := vName_ok h1
  exact ⟨x, p, y, ys, h4, h2, h3, (Option.some.inj h).symm⟩
theorem each_names {es : List Expr} {xs : List String} (h : trT.names k es = some xs) (hk : EnvOk k env) : (assignEach es env).length = xs.length ∧ (assignEach es env).findIdx? (·.1) = none ∧ All2 (StoreOk C n A fr env) ((assignEach es env).map (·.2)) xs := by
  induction es generalizing xs with
  | nil => cases h; exact ⟨rfl, rfl, trivial⟩
  | cons e r ih =>
    obtain ⟨x, p, y, ys, rfl, ha, hb, rfl⟩ := names_cons h
    obtain ⟨h1, h2, h3⟩ := ih hb
    refine ⟨by show _ + 1 = _ + 1; rw [h1], ?_, fun m σ ρ s v c Ex Q sit hv hQ => wpAny_assign_Name (store_loc hk sit ha hv hQ), h3⟩
    show List.findIdx? _ ((false, assign (.Name x p) env) :: assignEach r env) = none
    rw [List.findIdx?_cons, h2]; rfl

theorem bindL_length {xs : List String} : ∀ {vs : List V} {m m' : Loc}, bindL xs vs m = some m' → xs.length = vs.length := by
  induction xs with
  | nil => intro vs m m' h; cases vs with
    | nil => rfl
    | cons => exact no h
  | cons x xs ih => intro vs m m' h; cases vs with
    | nil => exact no h
    | cons => exact congrArg Nat.succ (ih (show bindL xs _ _ = some m' from h))

theorem SoundB.tup {es : List Expr} {xs : List String} (kd : Nat) (p : Pos) (hn : trT.names k es = some xs) : SoundB C n k (.Tuple es kd p) (.tup xs) := fun A fr env m σ ρ s v c m' Ex Q hk sit hv hb hQ => by
  cases v with
  | tup vs =>
    obtain ⟨a, cs, rfl, ht, hvs⟩ := hv
    have hb : bindL xs vs m = some m' := hb
    obtain ⟨h1, h2, h3⟩ := each_names (C := C) (n := n) (A := A) (fr := fr) hn hk
    refine wpAny_assign_Tuple sit.room.handled ht (h1.trans ((bindL_length hb).trans hvs.length)) h2 fun h' hx => ?_
    have hn' : s.heap.get? s.heap.objs.size = none := Heap.get?_none_of_le (Nat.le_refl _)
    obtain ⟨sit₁, p₁⟩ := sit.grow (s' := { s with heap := h' }) (fun b o e => hx b o (fun q => by rw [q, hn'] at e; exact no e) e) rfl rfl
    exact inOrder_sound h3 sit₁ (hvs.post (s' := { s with heap := h' }) sit.rel p₁) hb fun s₂ sit₂ p₂ => hQ s₂ sit₂ (p₁.trans p₂)
  | _ => exact no hb

end
end Mine

end

section
open PySem PySem.W PyProof.Rows
set_option linter.unusedVariables false
set_option maxRecDepth 100000
set_option tactic.hygienic false
namespace Mine

section
variable {C : Ctx} {n : Nat} {X : Store → Prop} {k : Kinds} {A : Around} {fr : List Env} {env : Env} {m : Loc} {σ : Store} {ρ ρ' : List Addr} {s s' : Shared} {EB Ex : Value → Shared → Prop}

theorem folded_of {e : Expr} (h : isSetE e = false) (env : Env) (v : Value) : foldedSetIterable e env v = pure v := by
  cases e <;> first | rfl | exact noT h

/-- what holds ahead of each turn -/
inductive FInv (C : Ctx) (n : Nat) (A : Around) (fr : List Env) (env : Env) (ρ₁ : List Addr) (s₁ : Shared) (I : Addr) (sv : V) (items : List V) (bnd : V → Loc → Option Loc) (body : Loc → Store → (Fl → Loc → Store → Prop) → Prop) (Q : Fl → Loc → Store → Prop) (j : Nat) (sj : Shared) : Prop
  | mk (rest : List V) (i : Nat) (m' : Loc) (σ' : Store) (ρ' : List Addr) (hj : j = rest.length) (hdrop : items.drop i = rest) (sit : Sit C n A fr env m' σ' ρ' sj) (p : Post C (exOf env) ρ₁ ρ' s₁ sj) (it : IterAt C ρ' sj.heap I i sv) (d : Side C fr env ρ' sj.heap I)
      (hW : forW sv items bnd body rest m' σ' Q) : FInv C n A fr env ρ₁ s₁ I sv items bnd body Q j sj
theorem for_src {sv : V} {items : List V} {bnd : V → Loc → Option Loc} {body : Loc → Store → (Fl → Loc → Store → Prop) → Prop} {rest : List V} {Q : Fl → Loc → Store → Prop} (h : forW sv items bnd body rest m σ Q) : srcItems σ sv = some items := by
  cases rest <;> exact h.1

theorem drop_head {items : List V} {i : Nat} {v v' : V} {r : List V} (h : items.drop i = v' :: r) (e : items[i]? = some v) : v = v' :=
  Option.some.inj (e.symm.trans ((List.getElem?_drop (xs := items) (i := i) (j := 0)).symm.trans (congrArg (fun l => l[0]?) h)))

theorem SoundS.for {t it : Expr} {t' : T} {e : Mine.E} {b : List Stmt} {b' : List S} (pos : Pos) (hset : isSetE it = false) (ht : SoundB C n k t t') (he : SoundE C n X k it e) (hb : SoundSs C n X k b b') :
    SoundS C n X k (.For t it b [] pos) (.for t' e b') := fun A fr env m σ ρ s Q EB hk sit ps h => by
  refine wpAny_For (he.use hk sit ps h fun c sv σ₁ ρ₁ s₁ q hv sit₁ p₁ ps₁ => ob_el q fun items hi hW => ?_) (folded_of hset env)
  refine iter_start sit₁ hv hi fun s₂ I sit₂ p₂ grow₂ hI1 dI₂ it₂ => ?_
  refine codeAny_forLoop_any (fun j sj => FInv C n A fr env ρ₁ s₁ I sv items (bndT t') (fun m σ Q => wpSs C n X b' m σ Q) Q j sj) (fun j sj hI => ?_) items.length ⟨items, 0, m, σ₁, ρ₁, rfl, rfl, sit₂, p₂, it₂, dI₂, hW⟩
  clear hW hi hv it₂ dI₂ grow₂ p₂ sit₂ q h
  obtain ⟨rest, i, m', σ', ρ', hj, hdrop, sitj, pj, itj, dIj, hWj⟩ := hI
  refine iter_next sitj (for_src hWj) itj dIj (fun v c h' tk hvi hvc it' keep' => ?_) fun h' hend keep' => ?_
  · cases rest with
    | nil => exact absurd hvi (by rw [List.getElem?_eq_none (List.drop_eq_nil_iff.mp hdrop)]; exact fun q => no q)
    | cons v' r =>
    have hvv := drop_head hdrop hvi
    subst hvv
    rw [hj]
    refine ob_el hWj.2 fun m₂ hbnd hWj => ?_
    refine letOwned_sound (s := { sj with heap := h', toks := tk }) it' t c (ht _ _ _ _ _ _ _ _ _ _ _ _ hk (sitj.side (tk := tk) dIj keep') hvc hbnd fun s'' sit'' p'' => ?_)
    have pp := (pj.side (tk := tk) hI1 keep').trans p''
    have it'' : IterAt C ρ' s''.heap I (i + 1) sv := IterAt.move (s := { sj with heap := h', toks := tk }) it' (sitj.side (tk := tk) dIj keep') ⟨dIj.own, dIj.ex, dIj.base, dIj.fr, it'.imm⟩ p''
    have dI'' := Side.move (s := { sj with heap := h', toks := tk }) ⟨dIj.own, dIj.ex, dIj.base, dIj.fr, it'.imm⟩ it'.there p''
    clear it' keep' hvc hvi dIj itj sitj pj p''
    have hdrop' : items.drop (i + 1) = r := by rw [← List.drop_drop, hdrop]; rfl
    refine wpAny_passesOwn ps.own (wpAny_mono (hb _ _ _ _ _ _ _ _ _ hk sit'' (ps₁.go pp sit₁.fok) hWj) (fun f s₃ x => ?_) fun a b x => x)
    obtain ⟨fl, m₃, σ₃, ρ₃, h3, hf, sit₃, p₃⟩ := x
    have pp₃ := pp.trans p₃
    cases fl with
    | next => rw [show f = .next from hf]; exact ⟨r.length, Nat.lt_succ_self _, r, i + 1, m₃, σ₃, ρ₃, rfl, hdrop', sit₃, pp₃, it''.move sit'' dI'' p₃, dI''.move it''.there p₃, h3⟩
    | cont => rw [show f = .cont from hf]; exact ⟨r.length, Nat.lt_succ_self _, r, i + 1, m₃, σ₃, ρ₃, rfl, hdrop', sit₃, pp₃, it''.move sit'' dI'' p₃, dI''.move it''.there p₃, h3⟩
    | ret v => obtain ⟨c, rfl, hf⟩ := hf; exact ⟨Fl.ret v, _, _, _, h3, ⟨c, rfl, hf⟩, sit₃, p₁.trans pp₃⟩
  · have hr : rest = [] := hdrop.symm.trans (List.drop_eq_nil_of_le hend)
    subst hr
    exact wpAny_execs_nil ⟨Fl.next, m', σ', ρ', hWj.2, rfl, sitj.side (tk := sj.toks) dIj keep', p₁.trans (pj.side (tk := sj.toks) hI1 keep')⟩

theorem line_len' {k : Nat} (h : k < 1000000) : (k : Int) < 2 ^ 63 := Int.lt_trans (Int.ofNat_lt.mpr h) (by decide)
theorem plain_setItem {l : Addr} {items : Array Value} {i : Int} {t : Tok} {v : Value} {Q : Unit → Shared → Prop} (hl : PlainL s.heap l items)
    (h0 : 0 ≤ i) (hfit : i < 2 ^ 63) (hn : i < items.size)
    (hQ : ∀ h', PlainL h' l (items.setIfInBounds i.toNat v) → Heap.SameBut l s.heap h' → Q () { s with heap := h' }) :
    wpAny (model C.prog C.w) A (setItem (.ref l) (.int i t) v) Q Ex s := by
  obtain ⟨o, ne, ho, hc, hdn, hd⟩ := id hl
  unfold setItem
  try with_reducible refine wpAny_holding ?_
  first | refine wpAny_bind (wpAny_pure ?_) | skip
  refine wpAny_bind (wpAny_sequenceKey hl.isList.typeIs (by decide) ?_)
  refine wpAny_bind (wpAny_callSpecial?_slot (name := Str.ofString "__setitem__") hl.isList.typeIs slot_list_setitem
    (wpAny_call_entry slot_list_setitem hl.isList.typeIs entry_list_setitem ?_ (args_list_setitem _ _ _)))
  show wpAny _ _ (Builtin.List.listSubscript? (.int i t) >>= _) _ _ s
  refine wpAny_bind (wpAny_listSubscript_int (fitsIndex_of h0 hfit) ?_)
  clear hfit
  obtain ⟨j, rfl⟩ := Int.eq_ofNat_of_zero_le h0
  have hj : j < items.size := by omega
  have hx' : items[j]? = some items[j] := Array.getElem?_eq_getElem hj
  show wpAny _ _ ((seqItemAt l j >>= fun r => pure (r.map (j, ·))) >>= _) _ _ s
  refine wpAny_bind (wpAny_bind (wpAny_seqItemAt ho hd (wpAny_pure ?_)))
  rw [hx']
  show wpAny _ _ (setSeqItemAt l j v >>= _) _ _ s
  obtain ⟨n', hd'⟩ := Obj.data_mapSeq hd (·.setIfInBounds j v)
  have hfin : PlainL (s.heap.update l (Obj.mapSeq (·.setIfInBounds j v))) l (items.setIfInBounds j v) := by
    refine ⟨_, n', Heap.get?_update_self _ ho (Obj.isFreed_of_seq hd'), (Obj.cls_mapSeq ..).trans hc, ?_, hd'⟩
    obtain ⟨c, d, dt, sl⟩ := o
    subst hd
    exact hdn
  refine wpAny_bind (wpAny_setSeqItemAt ho hd ?_)
  first
    | exact wpAny_bind (wpAny_pure (wpAny_pure ⟨.none, rfl, wpAny_pure (hQ _ hfin (Heap.SameBut.update ..))⟩))
    | exact wpAny_pure ⟨.none, rfl, wpAny_pure (hQ _ hfin (Heap.SameBut.update ..))⟩

theorem setItem_sound (sit : Sit C n A fr env m σ ρ s) {va vi v : V} {ca ci c : Value} (ha : VR C ρ s.heap va ca) (hi : VR C ρ s.heap vi ci) (hv : VR C ρ s.heap v c) {σ' : Store} (h : setItemV σ va vi v = some σ') {Q : Unit → Shared → Prop}
    (hQ : ∀ s', Sit C n A fr env m σ' ρ s' → Post C (exOf env) ρ ρ s s' → Q () s') : wpAny (model C.prog C.w) A (setItem ca ci c) Q Ex s := by
  refine obd_el h fun i hi1 h => obd_el h fun j hj h => obd_el h fun o hs h => obd_el h fun o' ho h => ?_
  rw [← Option.some.inj h] at hQ
  rw [refV_ok hi1] at ha
  rw [intV_ok hj] at hi
  obtain ⟨l, rfl, e⟩ := ha
  obtain ⟨t, rfl⟩ := hi
  have imm : ∀ h', Heap.SameBut l s.heap h' → ∀ b o, s.heap.get? b = some o → Imm o → h'.get? b = some o := fun h' hs' b o e' hi => (hs'.2 b fun q => sit.rel.sr.not_imm e' hi (q ▸ List.mem_of_getElem? e)).trans e'
  cases o with
  | list xs =>
    refine grd_el ho fun hb ho => ?_
    have hb := of_decide_eq_true hb
    obtain ⟨cs, hl, hvs⟩ := plain_at sit hs e
    rw [hvs.length] at hb
    refine plain_setItem hl hb.1 (Int.lt_trans hb.2.1 (line_len' hb.2.2)) hb.2.1 fun h' hl' hs' => ?_
    have hl'' : PlainL h' l (cs.set j.toNat c).toArray := by rw [← List.setIfInBounds_toArray]; exact hl'
    rw [← Option.some.inj ho] at hQ
    obtain ⟨a, b⟩ := sit.update (s' := { s with heap := h' }) hs e hs' (.list hl'' ((hvs.set hv).mono (fun _ _ e => e) (imm h' hs'))) rfl rfl
    exact hQ _ a b
  | dict f z =>
    refine grd_el ho fun hz ho => ?_
    have hz := of_decide_eq_true hz
    obtain ⟨g, hm, hzl, hf⟩ := dict_at sit hs e
    rw [← Option.some.inj ho] at hQ
    refine wpAny_setItem_intMap_le hm hzl (by rw [sizeLine_eq]; exact Nat.le_of_lt (Nat.lt_trans hz (by decide : 1000000 < 16777216))) fun h' hm' hz' hs' => ?_
    obtain ⟨a, b⟩ := sit.update (s' := { s with heap := h', toks := s.toks + 1 }) (o' := .dict (fun y => if y = j then some v else f y) (z + 1)) hs e hs' ⟨_, hm', hz', fun y w e1 => by
      have e1 : (if y = j then some v else f y) = some w := e1
      by_cases q : y = j
      · rw [if_pos q] at e1
        rw [← Option.some.inj e1, q]
        exact ⟨c, if_pos rfl, hv.mono (fun _ _ e => e) (imm h' hs')⟩
      · rw [if_neg q] at e1
        obtain ⟨c', e3, e4⟩ := hf _ _ e1
        exact ⟨c', (if_neg q).trans e3, e4.mono (fun _ _ e => e) (imm h' hs')⟩⟩ rfl rfl
    exact hQ _ a b
  | _ => exact no ho

/-- assignment -/
inductive PA (C : Ctx) (n : Nat) (A : Around) (fr : List Env) (env : Env) (ρ : List Addr) (s : Shared) (Q : Loc → Store → Prop) (s' : Shared) : Prop
  | mk (m' : Loc) (σ' : Store) (ρ' : List Addr) (q : Q m' σ') (sit : Sit C n A fr env m' σ' ρ' s') (p : Post C (exOf env) ρ ρ' s s') : PA C n A fr env ρ s Q s'
noncomputable def SoundA (C : Ctx) (n : Nat) (X : Store → Prop) (k : Kinds) (ast : Expr) (t : T) : Prop :=
  ∀ A fr env m σ ρ s v c Q, EnvOk k env → Sit C n A fr env m σ ρ s → VR C ρ s.heap v c → wpAssign C n X t v m σ Q →
    wpAny (model C.prog C.w) A (assign ast env c) (fun _ s' => PA C n A fr env ρ s Q s') (ExcP C fr X (exOf env) ρ s) s

theorem SoundA.name {x : Str} {y : String} (p : Pos) (hl : trLoc k x = some y) : SoundA C n X k (.Name x p) (.name y) := fun A fr env m σ ρ s v c Q hk sit hv h =>
  SoundB.name (C := C) (n := n) (k := k) p hl _ _ _ _ _ _ _ _ _ _ _ _ hk sit hv rfl fun s' a b => ⟨_, _, _, h, a, b⟩
theorem SoundA.tup {es : List Expr} {xs : List String} (kd : Nat) (p : Pos) (hn : trT.names k es = some xs) : SoundA C n X k (.Tuple es kd p) (.tup xs) := fun A fr env m σ ρ s v c Q hk sit hv h => by
  refine ob_el h fun m' h1 h2 => ?_
  exact SoundB.tup (C := C) (n := n) (k := k) kd p hn _ _ _ _ _ _ _ _ _ _ _ _ hk sit hv h1 fun s' a b => ⟨_, _, _, h2, a, b⟩
theorem SoundA.sub {o i : Expr} {eo ei : Mine.E} (p : Pos) (hs : isSl i = false) (ho : SoundE C n X k o eo) (hi : SoundE C n X k i ei) : SoundA C n X k (.Subscript o i p) (.sub eo ei) := fun A fr env m σ ρ s v c Q hk sit hv h => by
  rw [assign_Subscript]
  refine wpAny_bind (wpAny_holding (wpAny_mono (ho _ _ _ _ _ _ _ _ hk sit h) (fun co s₁ hp => PE.elim hp fun vo σ₁ ρ₁ h₁ hvo sit₁ p₁ => ?_) fun a b x => x))
  refine wpAny_bind (wpAny_holding (go_on (hi _ _ _ _ _ _ _ _ hk sit₁ h₁) p₁ sit.fok fun ci s₂ hp => PE.elim hp fun vi σ₂ ρ₂ qq hvi sit₂ p₂ => ?_))
  refine ob_el qq fun σ' h₂ h₃ => ?_
  refine wpAny_bind (wpAny_standAt (wpAny_bind (wpAny_holding (setItem_sound sit₂ (hvo.post sit₁.rel p₂) hvi ((hv.post sit.rel p₁).post sit₁.rel p₂) h₂ fun s₃ sit₃ p₃ => wpAny_releaseD ?_))))
  exact ⟨_, _, _, h₃, sit₃, (p₁.trans p₂).trans p₃⟩
theorem SoundA.attr (OK : C.Ok) {x a : Str} (hx : nameOk x = true) (hl : isLoc k x = true) (ha : Str.ofString a.toString = a) (p pos : Pos) : SoundA C n X k (.Attribute (.Name x p) a pos) (.attr x.toString a.toString) := fun A fr env m σ ρ s v c Q hk sit hv h => by
  refine ob_el h fun va h1 h => ob_el h fun σ' h2 h3 => ?_
  rw [assign_Attribute]
  refine wpAny_bind (wpAny_holding (wpAny_Name (load_loc hk sit (nameOk_eq hx).1 hl h1 fun co hco => ?_) (nameOk_eq hx).2))
  have := setAttr_sound (E := ExcP C fr X (exOf env) ρ s) (A := A) (Q := fun _ s₁ => wpAny (model C.prog C.w) A (release [c, co] []) (fun _ s' => PA C n A fr env ρ s Q s') (ExcP C fr X (exOf env) ρ s) s₁)
    OK sit hco hv h2 fun s' a b => wpAny_releaseD ⟨_, _, _, h3, a, b⟩
  rw [ha] at this
  exact wpAny_bind (wpAny_standAt (wpAny_bind (wpAny_holding this)))

end
end Mine

end

section
open PySem PySem.W PyProof.Rows
set_option linter.unusedVariables false
set_option maxRecDepth 100000
set_option tactic.hygienic false
namespace Mine

section
variable {C : Ctx} {n : Nat} {X : Store → Prop} {k : Kinds} {A : Around} {fr : List Env} {env : Env} {m : Loc} {σ : Store} {ρ ρ' : List Addr} {s s' : Shared} {EB Ex : Value → Shared → Prop}

theorem assign_plain {t v : Expr} {t' : T} {e : Mine.E} {pos : Pos} (hl : isListComp v = false) (ha : SoundA C n X k t t') (he : SoundE C n X k v e) (hk : EnvOk k env) (sit : Sit C n A fr env m σ ρ s) (ps : Pass C A fr env X EB ρ s)
    (hE : (assignEach [t] env).map (·.2) = [assign t env]) (hw : swappedStores [t] v env = pure none) {Q : Fl → Loc → Store → Prop} (h : wpS C n X (.assign t' e) m σ Q) :
    wpAny (model C.prog C.w) A (exec (.Assign [t] v pos) env) (PSt C n A fr env ρ s Q) EB s := by
  refine wpAny_Assign_stores (he.use hk sit ps h fun c w σ₁ ρ₁ s₁ h1 hv sit₁ p₁ ps₁ => ?_) (swaps_none hl _ _ _) hw
  rw [hE]
  exact wpAny_mono (ha _ _ _ _ _ _ _ _ _ _ hk sit₁ hv h1) (fun _ s₂ x => by obtain ⟨m', σ', ρ', h2, sit₂, p₂⟩ := x; exact ⟨Fl.next, _, _, _, h2, rfl, sit₂, p₁.trans p₂⟩) ps₁.fly

theorem SoundS.assign1 {t v : Expr} {t' : T} {e : Mine.E} (pos : Pos) (hl : isListComp v = false) (ha : SoundA C n X k t t') (he : SoundE C n X k v e)
    (hE : ∀ env, (assignEach [t] env).map (·.2) = [assign t env]) (hw : ∀ env, swappedStores [t] v env = pure none) : SoundS C n X k (.Assign [t] v pos) (.assign t' e) := fun A fr env m σ ρ s Q EB hk sit ps h =>
  assign_plain hl ha he hk sit ps (hE env) (hw env) h

noncomputable def swapName (env : Env) (line : Nat) : Expr → Option Str
  | .Name id pos => if env.kindOf id == some .local && pos.line == line then some id else none
  | _ => none

theorem swapped_cases {ts vs : List Expr} {kd kd' : Nat} {p p' : Pos} (env : Env) (hc : vs.all (constantsAlone 8) = false) :
    swappedStores [.Tuple ts kd p] (.Tuple vs kd' p') env = pure none ∨
      ∃ l, swappedStores [.Tuple ts kd p] (.Tuple vs kd' p') env = pure (some (ts.filterMap (swapName env l))) ∧ (ts.filterMap (swapName env l)).length = ts.length := by
  unfold swappedStores
  dsimp only
  split
  · exact .inl rfl
  · split
    · exact .inl rfl
    · have e : (ts.filterMap fun x => match x with
        | .Name id pos => if (env.kindOf id == some .local && pos.line == (ts.head?.map (·.pos.line)).getD 0) = true then some id else none
        | _ => none) = ts.filterMap (swapName env ((ts.head?.map (·.pos.line)).getD 0)) := by
        congr 1
      split
      · exact .inl rfl
      · rename_i hn
        split
        · exact .inl rfl
        · rw [hc]
          refine .inr ⟨(ts.head?.map (·.pos.line)).getD 0, ?_, ?_⟩
          · rw [← e]; rfl
          · rw [← e]
            simp only [bne_iff_ne, ne_eq, Bool.or_eq_true, not_or, Decidable.not_not] at hn
            exact hn.1

theorem names_length {es : List Expr} {xs : List String} (h : trT.names k es = some xs) : es.length = xs.length := by
  induction es generalizing xs with
  | nil => cases h; rfl
  | cons e r ih =>
    obtain ⟨x, p, y, ys, rfl, ha, hb, rfl⟩ := names_cons h
    rw [List.length_cons, List.length_cons, ih hb]

theorem swap_names {l : Nat} {es : List Expr} {xs : List String} (h : trT.names k es = some xs) (hk : EnvOk k env) (hl : (es.filterMap (swapName env l)).length = es.length) :
    All2 (StoreOk C n A fr env) ((es.filterMap (swapName env l)).map fun n => bindName env n) xs := by
  induction es generalizing xs with
  | nil => rw [← Option.some.inj h]; trivial
  | cons e r ih =>
    obtain ⟨x, p, y', ys, rfl, ha, hb, rfl⟩ := names_cons h
    cases q : swapName env l (.Name x p) with
    | none =>
      rw [List.filterMap_cons_none q] at hl
      exact absurd (hl ▸ List.length_filterMap_le (swapName env l) r) (Nat.not_succ_le_self _)
    | some y =>
      rw [List.filterMap_cons_some q] at hl ⊢
      have q : (if env.kindOf x == some .local && p.line == l then some x else none) = some y := q
      by_cases hc : (env.kindOf x == some .local && p.line == l) = true
      · rw [if_pos hc] at q
        rw [← Option.some.inj q]
        exact ⟨fun m σ ρ s v c Ex Q sit hv hQ => wpAny_bindName (store_loc hk sit ha hv hQ), ih hb (Nat.add_right_cancel hl)⟩
      · rw [if_neg hc] at q; exact no q

theorem All2.snoc {α β : Type} {P : α → β → Prop} {a : α} {b : β} {as : List α} : ∀ {bs : List β}, All2 P as bs → P a b → All2 P (as ++ [a]) (bs ++ [b]) := by
  induction as with
  | nil => intro bs x h; cases bs with
    | nil => exact ⟨h, trivial⟩
    | cons => exact x.elim
  | cons _ _ ih => intro bs x h; cases bs with
    | nil => exact x.elim
    | cons => exact ⟨x.1, ih x.2 h⟩
theorem All2.reverse {α β : Type} {P : α → β → Prop} {as : List α} : ∀ {bs : List β}, All2 P as bs → All2 P as.reverse bs.reverse := by
  induction as with
  | nil => intro bs x; cases bs with
    | nil => exact trivial
    | cons => exact x.elim
  | cons _ _ ih => intro bs x; cases bs with
    | nil => exact x.elim
    | cons => rw [List.reverse_cons, List.reverse_cons]; exact (ih x.2).snoc x.1
theorem VRs.reverse {h : Heap} {vs : List V} : ∀ {cs : List Value}, VRs C ρ h vs cs → VRs C ρ h vs.reverse cs.reverse := by
  induction vs with
  | nil => intro cs x; rw [show cs = [] from x]; exact .nil
  | cons v vs ih => intro cs x; obtain ⟨c, r, rfl, a, b⟩ := x; rw [List.reverse_cons, List.reverse_cons]; exact (ih b).append (.cons a .nil)

theorem bindL_snoc {x : String} {v : V} {xs : List String} : ∀ {vs : List V} {m m' : Loc}, bindL xs vs m = some m' → bindL (xs ++ [x]) (vs ++ [v]) m = some (upd m' x v) := by
  induction xs with
  | nil => intro vs m m' h; cases vs with
    | nil => rw [← Option.some.inj h]; rfl
    | cons => exact no h
  | cons y xs ih => intro vs m m' h; cases vs with
    | nil => exact no h
    | cons w vs => exact ih (show bindL xs vs (upd m y w) = some m' from h)
theorem upd_comm {m : Loc} {x y : String} {v w : V} (hne : x ≠ y) : upd (upd m x v) y w = upd (upd m y w) x v := by
  funext z
  show (if z = y then some w else if z = x then some v else m z) = if z = x then some v else if z = y then some w else m z
  by_cases h1 : z = y
  · rw [if_pos h1, if_neg (fun q => hne (q.symm.trans h1)), if_pos h1]
  · rw [if_neg h1, if_neg h1]
theorem bindL_out {x : String} {v : V} {xs : List String} : ∀ {vs : List V} {m m' : Loc}, xs.contains x = false → bindL xs vs m = some m' → bindL xs vs (upd m x v) = some (upd m' x v) := by
  induction xs with
  | nil => intro vs m m' hx h; cases vs with
    | nil => rw [← Option.some.inj h]; rfl
    | cons => exact no h
  | cons y xs ih => intro vs m m' hx h; cases vs with
    | nil => exact no h
    | cons w vs =>
      rw [List.contains_cons, Bool.or_eq_false_iff] at hx
      show bindL xs vs (upd (upd m x v) y w) = _
      rw [upd_comm (fun q => by rw [q, beq_self_eq_true] at hx; exact nomatch hx.1)]
      exact ih hx.2 (show bindL xs vs (upd m y w) = some m' from h)
theorem bindL_some {xs : List String} : ∀ {vs : List V} {m : Loc}, xs.length = vs.length → ∃ m', bindL xs vs m = some m' := by
  induction xs with
  | nil => intro vs m h; cases vs with
    | nil => exact ⟨m, rfl⟩
    | cons => exact nomatch h
  | cons y xs ih => intro vs m h; cases vs with
    | nil => exact nomatch h
    | cons w vs => exact ih (m := upd m y w) (Nat.succ.inj h)
theorem bindL_reverse {xs : List String} : ∀ {vs : List V} {m m' : Loc}, noDup xs = true → bindL xs vs m = some m' → bindL xs.reverse vs.reverse m = some m' := by
  induction xs with
  | nil => intro vs m m' hx h; cases vs with
    | nil => exact h
    | cons => exact no h
  | cons x xs ih => intro vs m m' hd h; cases vs with
    | nil => exact no h
    | cons v vs =>
      have hd : (!xs.contains x && noDup xs) = true := hd
      rw [Bool.and_eq_true] at hd
      obtain ⟨m₁, h1⟩ := bindL_some (m := m) (Nat.succ.inj (bindL_length h))
      have h2 := Option.some.inj ((bindL_out (v := v) (not_true hd.1) h1).symm.trans h)
      rw [List.reverse_cons, List.reverse_cons, ← h2]
      exact bindL_snoc (ih hd.2 h1)

theorem swap_assign {st : List (Value → Sem Unit)} {ts : List Expr} {xs : List String} {l : Nat} {w : V} {c : Value} (hn : trT.names k ts = some xs) (hd : noDup xs = true) (hk : EnvOk k env) (hlen : (ts.filterMap (swapName env l)).length = ts.length) (sit : Sit C n A fr env m σ ρ s) (hv : VR C ρ s.heap w c) {m' : Loc} (h : bndT (.tup xs) w m = some m')
    {Q : Flow → Shared → Prop} (hQ : ∀ s', Sit C n A fr env m' σ ρ s' → Post C (exOf env) ρ ρ s s' → Q .next s') : wpAny (model C.prog C.w) A (assignStores env c (some (ts.filterMap (swapName env l))) st) Q EB s := by
  cases w with
  | tup vs =>
    obtain ⟨a, cs, rfl, ht, hvs⟩ := hv
    have h : bindL xs vs m = some m' := h
    unfold assignStores
    refine wpAny_bind (wpAny_rule (wpAny_bind ?_))
    rw [show (ts.filterMap (swapName env l)).length = cs.toArray.size from hlen.trans ((names_length hn).trans ((bindL_length h).trans hvs.length))]
    refine wpAny_unpackItems_tuple sit.room.handled ht fun h' hx => ?_
    have hn' : s.heap.get? s.heap.objs.size = none := Heap.get?_none_of_le (Nat.le_refl _)
    obtain ⟨sit₂, p₂⟩ := sit.grow (s' := { s with heap := h' }) (fun b o e => hx b o (fun q => by rw [q, hn'] at e; exact no e) e) rfl rfl
    refine wpAny_bind ?_
    rw [List.map_reverse]
    have hvs₂ := (hvs.post (s' := { s with heap := h' }) sit.rel p₂).reverse
    exact inOrder_sound (swap_names hn hk hlen).reverse sit₂ hvs₂ (bindL_reverse hd h) fun s₃ sit₃ p₃ => wpAny_pure (hQ s₃ sit₃ (p₂.trans p₃))
  | _ => exact no h
theorem SoundS.assignT {ts : List Expr} {xs : List String} {v : Expr} {e : Mine.E} (kd : Nat) (p pos : Pos) (hl : isListComp v = false) (hct : constTup v = false) (hn : trT.names k ts = some xs) (hd : noDup xs = true) (he : SoundE C n X k v e) :
    SoundS C n X k (.Assign [.Tuple ts kd p] v pos) (.assign (.tup xs) e) := fun A fr env m σ ρ s Q EB hk sit ps h => by
  have plain := fun hw => assign_plain (pos := pos) hl (SoundA.tup (C := C) (n := n) (X := X) kd p hn) he hk sit ps rfl hw h
  cases v with
  | Tuple vs kd' p' =>
    rcases swapped_cases (ts := ts) (kd := kd) (kd' := kd') (p := p) (p' := p') env hct with hw | ⟨l, hw, hlen⟩
    · exact plain hw
    · rw [exec_Assign_arm]
      refine wpAny_bind (wpAny_standAt ?_)
      rw [show swapsWithSole [.Tuple ts kd p] (.Tuple vs kd' p') pos.line env = pure false from rfl]
      refine wpAny_bind (wpAny_pure ?_)
      rw [if_neg (by decide), hw]
      refine wpAny_bind (he.use hk sit ps h fun c w σ₁ ρ₁ s₁ h1 hv sit₁ p₁ ps₁ => wpAny_bind (wpAny_pure (ob_el h1 fun m' h1 h2 => ?_)))
      exact swap_assign hn hd hk hlen sit₁ hv h1 fun s₃ sit₃ p₃ => ⟨Fl.next, _, _, _, h2, rfl, sit₃, p₁.trans p₃⟩
  | _ => exact plain rfl

end
end Mine

end

section
open PySem PySem.W PyProof.Rows
set_option linter.unusedVariables false
set_option maxRecDepth 100000
set_option tactic.hygienic false
namespace Mine

section
variable {C : Ctx} {n : Nat} {X : Store → Prop} {k : Kinds} {A : Around} {fr : List Env} {env : Env} {m : Loc} {σ : Store} {ρ ρ' : List Addr} {s s' : Shared} {EB Ex : Value → Shared → Prop}

theorem aug_sound {op : Operator} {v w : V} {c d : Value} (sit : Sit C n A fr env m σ ρ s) (hv : VR C ρ s.heap v c) (hw : VR C ρ s.heap w d) {Qa : V → Prop} (h : wpAug op v w Qa) {Q : Value → Shared → Prop}
    (hQ : ∀ u r t, Qa u → VR C ρ s.heap u r → Q r { s with toks := t }) : wpAny (model C.prog C.w) A (inplaceOp op c d) Q Ex s := by
  have two : ∀ {f : Int → Int → V}, (ob (intV v) fun a => ob (intV w) fun b => Qa (f a b)) → (∀ x y t u, Qa (f x y) → c = .int x t → d = .int y u → wpAny (model C.prog C.w) A (inplaceOp op c d) Q Ex s) → wpAny (model C.prog C.w) A (inplaceOp op c d) Q Ex s := fun h k =>
    ob_el h fun x h1 h => ob_el h fun y h2 h => by
      rw [intV_ok h1] at hv; rw [intV_ok h2] at hw
      obtain ⟨t, e1⟩ := hv; obtain ⟨u, e2⟩ := hw
      exact k x y t u h e1 e2
  cases op with
  | Add => exact two h fun x y t u h e1 e2 => by rw [e1, e2]; exact PySem.P.iadd_int (hQ _ _ _ h (.int _ _))
  | Sub => exact two h fun x y t u h e1 e2 => by rw [e1, e2]; exact PySem.P.isub_int (hQ _ _ _ h (.int _ _))
  | BitOr => exact two h fun x y t u h e1 e2 => by rw [e1, e2]; exact PyProof.Rows.ior_int (hQ _ _ _ h (.int _ _))
  | _ => exact h.elim

theorem SoundS.aug {x : Str} {y : String} {v : Expr} {e : Mine.E} (op : Operator) (p pos : Pos) (hl : trLoc k x = some y) (he : SoundE C n X k v e) : SoundS C n X k (.AugAssign (.Name x p) op v pos) (.aug y op e) := fun A fr env m σ ρ s Q EB hk sit ps h => by
  refine ob_el h fun old h1 h2 => ?_
  obtain ⟨hn, rfl, hloc⟩ := trLoc_isLoc hl
  refine wpAny_AugAssign_Name (load_loc hk sit (nameOk_eq hn).1 hloc h1 fun co hco => ?_)
  refine he.use hk sit ps h2 fun c v σ₁ ρ₁ s₁ h3 hv sit₁ p₁ ps₁ => ?_
  refine aug_sound sit₁ (hco.post sit.rel p₁) hv h3 fun u r t h4 hr => ?_
  exact store_loc (s := { s₁ with toks := t }) hk (sit₁.tok t) hl hr fun s₂ sit₂ p₂ => ⟨Fl.next, _, _, _, h4, rfl, sit₂, p₁.trans (Post.tok.trans p₂)⟩

theorem augStore_of {i : Expr} (h : isSl i = false) (ov iv new : Value) : augStore i ov iv new = (do holding [new, ov, iv] (setItem ov iv new); release [new, ov, iv] []; pure .next) := by
  cases i <;> first | rfl | exact noT h

theorem ItemOk.go {c d : Value} {Q : Value → Shared → Prop} (x : ItemOk C A c d s Q Ex) : wpAny (model C.prog C.w) A (getItem c d) Q Ex s := by
  obtain ⟨_, _, _, _, h⟩ := x; exact h
theorem SoundS.augsub {o i v : Expr} {eo ei e : Mine.E} (op : Operator) (p pos : Pos) (hs : isSl i = false) (ho : SoundE C n X k o eo) (hi : SoundE C n X k i ei) (he : SoundE C n X k v e) :
    SoundS C n X k (.AugAssign (.Subscript o i p) op v pos) (.augsub eo ei op e) := fun A fr env m σ ρ s Q EB hk sit ps h => by
  refine wpAny_AugAssign_Subscript_any (ho.use hk sit ps h fun co vo σ₁ ρ₁ s₁ h1 hvo sit₁ p₁ ps₁ => ?_) (augStore_of hs)
  refine hi.use hk sit₁ ps₁ h1 fun ci vi σ₂ ρ₂ s₂ h2 hvi sit₂ p₂ ps₂ => ?_
  have hvo₂ := hvo.post sit₁.rel p₂
  refine ItemOk.go (item_sound sit₂ hvo₂ hvi h2 fun y r t h3 hr => ?_)
  refine he.use (s := { s₂ with toks := t }) hk (sit₂.tok t) (ps₂.go .tok sit₂.fok) h3 fun c v σ₄ ρ₄ s₄ h4 hv sit₄ p₄ ps₄ => ?_
  have p₄ : Post C (exOf env) ρ₂ ρ₄ s₂ s₄ := Post.tok.trans p₄
  refine aug_sound sit₄ (hr.post sit₂.rel p₄) hv h4 fun u r t h5 hr' => ob_el h5 fun σ₅ h5 h6 => ?_
  refine setItem_sound (s := { s₄ with toks := t }) (sit₄.tok t) (hvo₂.post (s' := s₄) sit₂.rel p₄) (hvi.post (s' := s₄) sit₂.rel p₄) hr' h5 fun s₆ sit₆ p₆ => ?_
  exact ⟨Fl.next, _, _, _, h6, rfl, sit₆, ((p₁.trans p₂).trans p₄).trans (Post.tok.trans p₆)⟩

theorem base_of {o : Expr} (h : notSuper o = true) (a : Str) (env : Env) (w : Sem Value) : attributeBase o a env w = w := by
  cases o with
  | Name => rfl
  | Attribute => rfl
  | Subscript => rfl
  | _ => exact noB h

theorem SoundS.append {o x : Expr} {eo ex : Mine.E} {apos cpos pos : Pos} (hs : [x].any isStar = false) (hsup : notSuper o = true) (hline : (apos.endLine == cpos.line) = true) (ho : SoundE C n X k o eo) (hx : SoundE C n X k x ex) :
    SoundS C n X k (.Expr (.Call (.Attribute o "append" apos) [x] [] cpos) pos) (.append eo ex) := fun A fr env m σ ρ s Q EB hk sit ps h => by
  have htrees : backTo cpos (starEach [x] env) = [(false, eval x env)] := starEach_plain cpos env hs
  refine wpAny_Expr_any (wpAny_Call_append (base_of hsup _ _ _) (by rw [htrees]; rfl) hline htrees (ho.use hk sit ps h fun co vo σ₁ ρ₁ s₁ h1 hvo sit₁ p₁ ps₁ => ?_)) (notInteractive hk) rfl
  -- the list is a list before the item is made
  obtain ⟨hl1, h1⟩ := h1
  obtain ⟨i, xs, rfl, hi⟩ := hl1
  obtain ⟨l, rfl, e⟩ := hvo
  obtain ⟨cs, hl, _⟩ := plain_at sit₁ hi e
  refine ⟨l, _, rfl, hl, hx.use hk sit₁ ps₁ h1 fun c v σ₂ ρ₂ s₂ q hv sit₂ p₂ ps₂ => ob_el q fun σ' h2 h3 => obd_el h2 fun i' hi' h2 => obd_el h2 fun xs hs h2 => grd_el h2 fun hz h2 => ?_⟩
  rw [← Option.some.inj hi'] at hs h2
  have e := p₂.pre _ _ e
  obtain ⟨ds, hld, hvs⟩ := plain_at sit₂ (listAt_ok hs) e
  have hz : ds.length < 1000000 := hvs.length ▸ of_decide_eq_true hz
  refine list_append_plainL hld (fun h' hl' hs' => ?_) (by rw [sizeLine_eq]; exact Nat.le_of_lt (Nat.lt_trans hz (by decide : 1000000 < 16777216)))
  have imm : ∀ b o, s₂.heap.get? b = some o → Imm o → h'.get? b = some o := fun b o e' hi => (hs'.2 b fun q => sit₂.rel.sr.not_imm e' hi (q ▸ List.mem_of_getElem? e)).trans e'
  have hl'' : PlainL h' l (ds ++ [c]).toArray := by rw [← List.push_toArray]; exact hl'
  obtain ⟨a, b⟩ := sit₂.update (s' := { s₂ with heap := h' }) (listAt_ok hs) e hs' (.list hl'' ((hvs.mono (fun _ _ e => e) imm).append (.cons (hv.mono (fun _ _ e => e) imm) .nil))) rfl rfl
  rw [← Option.some.inj h2] at h3
  exact ⟨Fl.next, _, _, _, h3, rfl, a, (p₁.trans p₂).trans b⟩

/-- a comprehension's list to a name -/
theorem SoundS.assignC {elt iter : Expr} {x y : Str} {y' : String} {px py : Pos} {ifs : List Expr} {sc : Scope} {pos spos : Pos} {e src : Mine.E} {cs : List Mine.E}
    (ok : CompOk k sc x) (hx : sc.names.lookup x = some .local) (hn : nameOk x = true) (hset : ∀ env v, foldedSetIterable iter env v = pure v) (hy : trLoc k y = some y')
    (he : SoundE C n noX (fun y => sc.names.lookup y) elt e) (hsrc : SoundE C n X k iter src) (hifs : All2 (SoundT C n noX (fun y => sc.names.lookup y)) ifs cs) (hlen : cs.length ≤ 1) :
    SoundS C n X k (.Assign [.Name y py] (.ListComp elt [⟨.Name x px, iter, ifs, 0⟩] sc pos) spos) (.assign (.name y') (.comp e x.toString src cs)) := fun A fr env m σ ρ s Q EB hk sit ps h => by
  have hsw : ∃ b, swapsWithSole [.Name y py] (.ListComp elt [⟨.Name x px, iter, ifs, 0⟩] sc pos) spos.line env = pure b := ⟨_, rfl⟩
  obtain ⟨b, hsw⟩ := hsw
  rw [exec_Assign_arm, hsw]
  refine wpAny_bind (wpAny_standAt (wpAny_bind (wpAny_pure ?_)))
  replace h : wpE C n X (.comp e x.toString src cs) m σ fun v σ₁ => Q .next (upd m y' v) σ₁ := h
  cases b with
  | false =>
    rw [if_neg (by decide)]
    refine wpAny_bind ((SoundE.comp (px := px) (pos := pos) ok hx hn hset he hsrc hifs hlen).use hk sit ps h fun c v σ₁ ρ₁ s₁ h1 hv sit₁ p₁ ps₁ => ?_)
    rw [show swappedStores [.Name y py] (.ListComp elt [⟨.Name x px, iter, ifs, 0⟩] sc pos) env = pure none from rfl]
    refine wpAny_bind (wpAny_pure ?_)
    show wpAny _ _ (do assign (.Name y py) env c; pure Flow.next) _ _ _
    refine wpAny_bind (wpAny_assign_Name (store_loc hk sit₁ hy hv fun s₂ sit₂ p₂ => wpAny_pure ?_))
    exact ⟨Fl.next, _, _, _, h1, rfl, sit₂, p₁.trans p₂⟩
  | true =>
    rw [if_pos rfl]
    show wpAny _ _ (do (do let _ ← comprehension (.ListComp elt [⟨.Name x px, iter, ifs, 0⟩] sc pos) sc env (firstIterPos [⟨.Name x px, iter, ifs, 0⟩] pos) (newList []) false (eval iter env) (some (assign (.Name y py) env)); pure ()); pure Flow.next) _ _ _
    refine wpAny_bind (wpAny_bind (wpAny_mono (comp_core (Ex := EB) (use := some (assign (.Name y py) env)) (Qf := fun _ s' => PSt C n A fr env ρ s Q .next s') (Qa := fun vs σ₂ => Q .next (upd m y' (.ref σ₂.length)) (σ₂ ++ [AObj.list vs])) hk sit ok hx hn (hset env) he hifs hlen
      (wpAny_mono (hsrc _ _ _ _ _ _ _ _ hk sit h) (fun a b x => x) ps.fly) fun ρ' σ' s' D L mL vs ds sit' p' hD dD hl hv hL dL hns hLD hq => ?_) (fun _ s' x => wpAny_pure (wpAny_pure x)) fun a b x => x))
    obtain ⟨b1, b2, b3⟩ := Sit.adopt (s' := s') (o := .list vs) sit hD sit' p' dD.own (isList_not_imm hl.isList) (fun b o _ e => e)
      (.list hl (hv.mono (fun _ _ e => getElem?_snoc_of e) fun b o e _ => e)) rfl rfl
    show wpAny _ _ (assign (.Name y py) env (.ref D)) _ _ _
    refine wpAny_assign_Name (store_loc hk b1 hy b3 fun s₂ sit₂ p₂ => ?_)
    have dL' : Side C fr env (ρ' ++ [D]) s'.heap L := ⟨fun hm => by
      rcases List.mem_append.mp hm with q | q
      · exact dL.own q
      · exact hLD (List.mem_singleton.mp q), dL.ex, dL.base, dL.fr, dL.imm⟩
    have hns₂ : s₂.heap.Ns L mL := ns_kept hns fun o e => p₂.keep L o e dL'.own dL'.ex
    have dL₂ := dL'.move (by obtain ⟨o, _, _, e, _⟩ := hns; exact ⟨o, e⟩) p₂
    refine ⟨mL, hns₂, fun h' hs' => ?_⟩
    have keep' : ∀ b o, b ≠ L → s₂.heap.get? b = some o → h'.get? b = some o := fun b o hb e => (hs'.2 b hb).trans e
    exact ⟨Fl.next, _, _, _, hq, rfl, sit₂.side (tk := s₂.toks) dL₂ keep', (b2.trans p₂).side (tk := s₂.toks) hL keep'⟩

end
end Mine

end

section
open PySem PySem.W PyProof.Rows
set_option linter.unusedVariables false
set_option maxRecDepth 100000
set_option tactic.hygienic false
namespace Mine

/-- the class of the refusals -/
inductive BadOk (C : Ctx) : Prop
  | mk (Kb : Addr) (nm q : Str) (N : Addr) (bs bm : List Value) (hdct : Bool) (sn : List Str) (sub : List Value) (ab : Bool) (col : Option Bool) (dd : Option Addr) (k0 k1 k2 k3 k5 : Option Value) (newId : String) (h1 : C.fnv "BadTable" = some (.ref Kb))
      (h2 : C.B.get? Kb = some (excClassObj nm q Kb N bs bm hdct sn sub ab col dd k0 k1 k2 k3 k5 newId)) (h3 : bm.contains (.type "BaseException") = true) (h4 : GlobAt C "BadTable" (.ref Kb)) : BadOk C

section
variable {C : Ctx} {n : Nat} {X : Store → Prop} {k : Kinds} {A : Around} {fr : List Env} {env : Env} {m : Loc} {σ : Store} {ρ ρ' : List Addr} {s s' : Shared} {EB Ex : Value → Shared → Prop}

theorem frAt_mem {e : Env} {L : Addr} (he : e ∈ fr) (hf : e.frame = some L) : L ∈ frAt fr := List.mem_filterMap.mpr ⟨e, he, hf⟩

/-- the store behind a caught refusal -/
theorem Sit.landed {outer : List Env} {X : Store → Prop} {σ' : Store} {ρ' : List Addr} {ea : Addr} {a0 cls : Value} {Bx h' : Heap} {s'' : Shared} (hh : s''.heap = h') (hg : s''.gens = s.gens) (hos : s''.os = s.os) (sit : Sit C n A fr env m σ ρ s) (hfr : fr = env :: outer) (hf : env.frame = some env.locals)
    (hsr : SR C σ' ρ' Bx) (hfl : Heap.FlyingW Bx fr ea cls a0 h') (hpre : ∀ (i : Nat) (a : Addr), ρ[i]? = some a → ρ'[i]? = some a) (hfresh : ∀ a, a ∈ ρ' → a ∉ ρ → s.heap.get? a = none ∧ ¬ noEx a)
    (hkeep : ∀ b o, s.heap.get? b = some o → b ∉ ρ → ¬ noEx b → b ∉ frAt fr → Kept C b o Bx) (hfrk : ∀ L o, L ∈ frAt fr → s.heap.get? L = some o → ∃ sl, h'.get? L = some { o with slots := sl }) :
    Sit C n A fr env m σ' ρ' s'' ∧ Post C (exOf env) ρ ρ' s s'' := by
  subst hh
  have stays := hfl.1
  have dictAt : ∀ L, L ∈ frAt fr → ∃ o, s.heap.get? L = some o ∧ (∃ es ep, o.data = .dict es ep) ∧ L ∉ ρ ∧ C.B.get? L = none := fun L hL => by
    obtain ⟨e, he, hfe⟩ := List.mem_filterMap.mp hL
    obtain ⟨_, L', o, a1, a2, a3, a4, a5⟩ := sit.fok e he
    rw [hfe] at a1; cases a1
    exact ⟨o, a3, a4, a5, a2⟩
  have old : ∀ b o, s.heap.get? b = some o → b ∉ ρ → b ∉ ρ' := fun b o e h h' => by have := (hfresh b h' h).1; rw [e] at this; cases this
  have nofr : ∀ b o, s.heap.get? b = some o → (¬ ∃ es ep, o.data = .dict es ep) → b ∉ frAt fr := fun b o e hd hm => by
    obtain ⟨o', e', hd', _⟩ := dictAt b hm
    rw [e] at e'; cases e'; exact hd hd'
  have imm : ∀ b o, s.heap.get? b = some o → Imm o → s''.heap.get? b = some o := fun b o e hi =>
    stays _ _ ((hkeep b o e (sit.rel.sr.not_imm e hi) (fun q => q) (nofr b o e fun ⟨es, ep, q⟩ => not_imm_dict q hi)).imm hi)
  have cellk : ∀ b o v, s.heap.get? b = some o → o.data = .cell v → b ∉ ρ → s''.heap.get? b = some o := fun b o v e hd hb =>
    stays _ _ ((hkeep b o e hb (fun q => q) (nofr b o e fun ⟨es, ep, q⟩ => by rw [hd] at q; cases q)).cell hd)
  have hLfr : env.locals ∈ frAt fr := by rw [hfr]; exact frAt_mem (.head _) hf
  have SR' : SR C σ' ρ' s''.heap := ⟨hsr.len, fun i o a e1 e2 => (hsr.obj i o a e1 e2).mono (fun _ _ e => e) (fun b o e _ => stays b o e) (fun o e => stays a o e), hsr.inj, hsr.new, fun b o e => stays b o (hsr.base b o e)⟩
  obtain ⟨mm, hns, hns2⟩ := sit.rel.ns
  have R : Rel C env ⟨m, σ'⟩ ρ' s''.heap := by
    refine ⟨SR', ⟨mm, ?_, fun y v e1 e2 => by obtain ⟨c, e3, e4⟩ := hns2 y v e1 e2; exact ⟨c, e3, e4.mono hpre imm⟩⟩, fun nm a hm => ?_, fun y v e1 e2 => ?_, ⟨sit.rel.locNew.1, ?_⟩, fun nm a hm => ?_, sit.rel.apart⟩
    · obtain ⟨o, es, ep, e, hd, r⟩ := hns
      obtain ⟨sl, e'⟩ := hfrk _ _ hLfr e
      exact ⟨_, es, ep, e', hd, r⟩
    · obtain ⟨ov, o, h1, h2⟩ := sit.rel.cell nm a hm
      exact ⟨ov, o, cellk a o _ h1 h2 (sit.rel.cellNew nm a hm).2.1, h2⟩
    · obtain ⟨a, c, e3, ⟨o, h1, h2⟩, e5⟩ := sit.rel.cellv y v e1 e2
      exact ⟨a, c, e3, ⟨o, cellk a o _ h1 h2 (sit.rel.cellNew _ a (mem_of_lookup e3)).2.1, h2⟩, e5.mono hpre imm⟩
    · obtain ⟨o, _, _, e, _⟩ := hns
      exact old _ _ e sit.rel.locNew.2
    · obtain ⟨ov, o, h1, h2⟩ := sit.rel.cell nm a hm
      obtain ⟨c1, c2, c3⟩ := sit.rel.cellNew nm a hm
      exact ⟨c1, old _ _ h1 c2, c3⟩
  have p : Post C (exOf env) ρ ρ' s s'' := by
    refine ⟨hg, hos, hpre, fun a h1 h2 => ⟨(hfresh a h1 h2).1, sit.rel.not_ex_of_none (hfresh a h1 h2).1⟩, fun b o e h1 h2 => ?_⟩
    by_cases hb : b ∈ frAt fr
    · obtain ⟨o', e', hd, _, hB⟩ := dictAt b hb
      rw [e] at e'; cases e'
      obtain ⟨sl, e''⟩ := hfrk b o hb e
      exact .inr ⟨hB, hd, sl, e''⟩
    · exact (hkeep b o e h1 (fun q => q) hb).trans fun o₁ e₁ => .inl (stays _ _ e₁)
  exact ⟨⟨sit.room, sit.frs, sit.fok.post p (sit.rel.fr_there R), R⟩, p⟩

theorem handler_sound {outer : List Env} (BK : BadOk C) {Xc : Store → Prop} {c : Str} {cp hp pp : Pos} (hk : EnvOk k env) (hc : nameOk c = true) (hcg : k c = some .globalImplicit) (hcn : c.toString = "BadTable") (sit : Sit C n A fr env m σ ρ s) (hfr : fr = env :: outer) (hf : env.frame = some env.locals)
    {e : Value} {s₁ : Shared} (x : ExcP C fr Xc noEx ρ s e s₁) {Q : Flow → Shared → Prop}
    (hQ : ∀ σ' ρ' s', Xc σ' → Sit C n A fr env m σ' ρ' s' → Post C (exOf env) ρ ρ' s s' → Q .next s') :
    wpAny (model C.prog C.w) A (noteFrame e env) (fun _ s₂ => wpAny (model C.prog C.w) A (setFlight e none) (fun _ s₃ => wpAny (model C.prog C.w) A (handleBy e env [.ExceptHandler (some (.Name c cp)) none [.Pass pp] hp]) Q EB s₃) EB s₂) EB s₁ := by
  obtain ⟨σ', ρ', ea, a0, Bx, K, hX, rfl, hK, hfl, hsr, hg, hos, hpre, hfresh, hkeep, hfrk⟩ := x
  obtain ⟨Kb, nm, q, N, bs, bm, hdct, sn, sub, ab, col, dd, k0, k1, k2, k3, k5, newId, b1, b2, b3, b4⟩ := BK
  rw [hK] at b1; cases b1
  have hfl' := hfl
  rw [hfr] at hfl
  refine wpAny_looks_onW (sit.frs.trans (by rw [hfr])) hf hfl fun h₄ held₄ sm₄ => ?_
  refine wpAny_landsW held₄ fun h₅ fl₅ sm₅ => ?_
  have hB₅ : C.B.StaysIn h₅ := fun b o e => fl₅.1 b o (hsr.base b o e)
  refine wpAny_handleBy_cons (codeAny_handlers_test ?_) (by intro q; cases q)
  refine Calls.Name_function_global hk.kind (hk.glob _ hcg) (load_globB (s := { s₁ with heap := h₅ }) hB₅ hk (nameOk_eq hc).1 (by rw [hcn]; exact b4) ?_) (nameOk_eq hc).2
  obtain ⟨ob, hob, hobc⟩ := fl₅.there
  refine wpAny_excMatches_sub_self (hB₅ _ _ b2) hob hobc b3 ?_
  refine codeAny_handlers_suite (lands_againW fl₅ fun h₆ fl₆ sm₆ => ?_)
  refine wpAny_execs_cons (wpAny_Pass (wpAny_execs_nil ?_))
  have sm : s₁.heap.UpToSlots h₆ := (sm₄.trans sm₅).trans sm₆
  have fl₆' : Heap.FlyingW Bx fr ea (.ref K) a0 h₆ := by rw [hfr]; exact fl₆
  obtain ⟨sit', p'⟩ := Sit.landed (s'' := { s₁ with heap := h₆ }) (X := Xc) rfl hg hos sit hfr hf hsr fl₆' hpre hfresh hkeep (fun L o hL e => by
    obtain ⟨sl, e'⟩ := hfrk L o hL (fun q => q) e
    obtain ⟨e0, he0, hfe⟩ := List.mem_filterMap.mp hL
    obtain ⟨_, L', o', a1, a2, a3, ⟨es, ep, a4⟩, a5⟩ := sit.fok e0 he0
    rw [hfe] at a1; cases a1
    rw [e] at a3; cases a3
    obtain ⟨sl', e''⟩ := sm L _ e' (fun vs q => by simp only at q; rw [a4] at q; cases q)
    exact ⟨sl', e''⟩)
  exact hQ σ' ρ' _ hX sit' p'

end
end Mine

end

section
open PySem PySem.W PyProof.Rows
set_option linter.unusedVariables false
set_option maxRecDepth 100000
set_option tactic.hygienic false
namespace Mine

section
variable {C : Ctx} {n : Nat}

noncomputable def SoundEx (C : Ctx) (n : Nat) (X : Store → Prop) (k : Kinds) (a : Expr) (e : Mine.E) : Prop := SoundE C n X k a e ∧ SoundT C n X k a e

theorem SoundEx.plain {X : Store → Prop} {k : Kinds} {a : Expr} {e : Mine.E} (ha : SoundE C n X k a e) (he : ∀ m σ Q, wpT C n X e m σ Q → wpE C n X e m σ (truthQ Q))
    (hi : ∀ env whole, isTrue a env whole = (do let v ← whole; standAt a.pos; holding [v] (truthy v))) : SoundEx C n X k a e := ⟨ha, .plain ha he hi⟩

theorem name_sound (OK : C.Ok) {X : Store → Prop} {k : Kinds} {x : Str} {e : Mine.E} (p : Pos) (h : trName k x = some e) : SoundE C n X k (.Name x p) e := by
  obtain ⟨hn, ⟨h1, rfl⟩ | ⟨h1, rfl⟩⟩ := trName_cases h
  · exact .glob OK hn h1 p
  · exact .loc hn h1 p

theorem All2.fst {X : Store → Prop} {k : Kinds} : ∀ {as : List Expr} {es : List Mine.E}, All2 (SoundEx C n X k) as es → All2 (SoundE C n X k) as es
  | [], [], _ => trivial
  | _ :: _, _ :: _, ⟨a, b⟩ => ⟨a.1, All2.fst b⟩
theorem All2.snd {X : Store → Prop} {k : Kinds} : ∀ {as : List Expr} {es : List Mine.E}, All2 (SoundEx C n X k) as es → All2 (SoundT C n X k) as es
  | [], [], _ => trivial
  | _ :: _, _ :: _, ⟨a, b⟩ => ⟨a.2, All2.snd b⟩

theorem globOk_ok {k : Kinds} {x : Str} (h : globOk k x = true) : nameOk x = true ∧ k x = some .globalImplicit := by
  unfold globOk at h
  rw [Bool.and_eq_true, beq_iff_eq] at h
  exact h
theorem small {m n : Nat} (h : (!decide (m < n)) = true) : n ≤ m := Nat.le_of_not_lt (of_decide_eq_false (not_true h))

theorem comp_parts {f : Nat} {k : Kinds} {elt : Expr} {gens : List Comprehension} {sc : Scope} {pos : Pos} {e : Mine.E} (h : trE (f + 1) k (.ListComp elt gens sc pos) = some e) : ∃ x p iter ifs a b cs, gens = [⟨.Name x p, iter, ifs, 0⟩] ∧ e = .comp a x.toString b cs ∧
    trE.compOk k sc x = true ∧ sc.names.lookup x = some .local ∧ nameOk x = true ∧ isSetE iter = false ∧ trE f (fun y => sc.names.lookup y) elt = some a ∧ trE f k iter = some b ∧ trList (trE f fun y => sc.names.lookup y) ifs = some cs ∧ cs.length ≤ 1 := by
  refine obd_el h fun g h1 h => obd_el h fun x h2 h => ?_
  refine grd_el h fun hc h => obd_el h fun a ha h => ?_
  refine obd_el h fun b hb h => obd_el h fun cs hcs h => ?_
  refine grd_el h fun hlen h => ?_
  cases h
  obtain ⟨tg, iter, ifs, asy⟩ := g
  obtain ⟨p, e2⟩ := vName_ok h2
  have e2 : tg = .Name x p := e2
  subst e2
  rw [Bool.and_eq_true, Bool.and_eq_true, Bool.and_eq_true, Bool.and_eq_true, beq_iff_eq, beq_iff_eq] at hc
  obtain ⟨c0, c1, c2, c3, c4⟩ := hc
  have c0 : asy = 0 := c0
  subst c0
  exact ⟨x, p, iter, ifs, a, b, cs, vOne_ok h1, rfl, c1, c2, c3, not_true c4, ha, hb, hcs, of_decide_eq_true hlen⟩

theorem trE_step (OK : C.Ok) {f : Nat} (IH : ∀ {X : Store → Prop} {k : Kinds} {a : Expr} {e : Mine.E}, trE f k a = some e → SoundEx C n X k a e)
    (L : ∀ {X : Store → Prop} {k : Kinds} {as : List Expr} {es : List Mine.E}, trList (trE f k) as = some es → All2 (SoundEx C n X k) as es) {X : Store → Prop} {k : Kinds} {ast : Expr} {e : Mine.E} (h : trE (f + 1) k ast = some e) : SoundEx C n X k ast e := by
  cases ast with
  | Constant c kd pos =>
    cases c with
    | int i => cases h; exact .plain (.cint _ _ _) (fun m σ Q h => h) (fun _ _ => rfl)
    | bool i => cases h; exact .plain (.cbool _ _ _) (fun m σ Q h => h) (fun _ _ => rfl)
    | none => cases h; exact .plain (.cnone _ _) (fun m σ Q h => h) (fun _ _ => rfl)
    | str t =>
      refine grd_el h fun hs h => ?_
      cases h; exact .plain (.cstr (beq_iff_eq.mp hs) _ _) (fun m σ Q h => h) (fun _ _ => rfl)
    | _ => exact no h
  | Name x p =>
    obtain ⟨hn, ⟨h1, rfl⟩ | ⟨h1, rfl⟩⟩ := trName_cases h
    · exact .plain (.glob OK hn h1 p) (fun m σ Q h => h) (fun _ _ => rfl)
    · exact .plain (.loc hn h1 p) (fun m σ Q h => h) (fun _ _ => rfl)
  | BinOp l op r pos =>
    refine obd_el h fun a ha h => obd_el h fun b hb h => ?_
    cases h
    exact .plain (.bin op pos (IH ha).1 (IH hb).1) (fun m σ Q h => h) (fun _ _ => rfl)
  | UnaryOp op x pos =>
    refine obd_el h fun a ha h => ?_
    cases op with
    | USub => cases h; exact .plain (.neg pos (IH ha).1) (fun m σ Q h => h) (fun _ _ => rfl)
    | Not => cases h; exact ⟨.not pos (IH ha).1, .not pos (IH ha).2⟩
    | Invert => cases h; exact .plain (.inv pos (IH ha).1) (fun m σ Q h => h) (fun _ _ => rfl)
    | _ => exact no h
  | Compare l ops rs pos =>
    refine obd_el h fun op h1 h => obd_el h fun r h2 h => ?_
    refine grd_el h fun hs h => obd_el h fun a ha h => ?_
    refine obd_el h fun b hb h => ?_
    cases h
    rw [vOne_ok h1, vOne_ok h2]
    exact ⟨.cmp op pos (not_true hs) (IH ha).1 (IH hb).1, .cmp op pos (not_true hs) (IH ha).1 (IH hb).1⟩
  | BoolOp op vs pos =>
    refine grd_el h fun hne h => obd_el h fun es hes h => ?_
    have hne' : vs ≠ [] := fun q => by subst q; cases hne
    cases op with
    | And => cases h; exact ⟨.all pos hne' (L hes).fst, .all pos (L hes).snd⟩
    | Or => cases h; exact ⟨.any pos hne' (L hes).fst, .any pos (L hes).snd⟩
  | IfExp t b o pos =>
    refine obd_el h fun t' ht h => obd_el h fun b' hb h => ?_
    refine obd_el h fun o' ho h => ?_
    cases h
    exact ⟨.ite pos (IH ht).2 (IH hb).1 (IH ho).1, .ite pos (IH ht).2 (IH hb).2 (IH ho).2⟩
  | Call fn args kws pos =>
    refine grd_el h fun hc h => ?_
    rw [Bool.and_eq_true, Bool.and_eq_true, List.isEmpty_iff] at hc
    obtain ⟨hk, hst, hem⟩ := hc
    have hst := not_true hst
    have hne : args ≠ [] := fun q => by subst q; cases hem
    refine obd_el h fun x h1 h => obd_el h fun g hg h => ?_
    refine obd_el h fun es hes h => ?_
    obtain ⟨p, e1⟩ := vName_ok h1
    obtain ⟨hn, ⟨i1, e2⟩ | ⟨i1, e2⟩⟩ := trName_cases hg
    · rw [e2] at h
      have h : some (if bnames.contains x.toString then _ else _) = some e := h
      cases h
      subst e1 hk
      by_cases hb : bnames.contains x.toString = true
      · rw [if_pos hb]
        exact .plain (.bcall OK hn i1 hb hst hne (L hes).fst) (fun m σ Q h => h) (fun _ _ => rfl)
      · rw [if_neg hb]
        exact .plain (.call OK (.glob OK hn i1 p) hst hne (L hes).fst) (fun m σ Q h => h) (fun _ _ => rfl)
    · rw [e2] at h
      cases h
      subst e1 hk
      rw [e2] at hg
      exact .plain (.call OK (name_sound OK p hg) hst hne (L hes).fst) (fun m σ Q h => h) (fun _ _ => rfl)
  | Attribute o a pos =>
    refine obd_el h fun x h1 h => grd_el h fun hc h => ?_
    cases h
    obtain ⟨p, rfl⟩ := vName_ok h1
    rw [Bool.and_eq_true, Bool.and_eq_true, beq_iff_eq] at hc
    exact .plain (.attr OK hc.1 hc.2.1 hc.2.2 p pos) (fun m σ Q h => h) (fun _ _ => rfl)
  | Subscript v i pos =>
    have h : (if isSl i then _ else _) = some e := h
    by_cases hs : isSl i = true
    · rw [if_pos hs] at h
      refine obd_el h fun u hu h => obd_el h fun a ha h => ?_
      cases h
      obtain ⟨kd, p, q, rfl⟩ := vUp_ok hu
      exact .plain (.upto (IH ha).1) (fun m σ Q h => h) (fun _ _ => rfl)
    · rw [if_neg hs] at h
      refine obd_el h fun a ha h => obd_el h fun b hb h => ?_
      cases h
      exact .plain (.sub pos (Bool.eq_false_iff.mpr hs) (IH ha).1 (IH hb).1) (fun m σ Q h => h) (fun _ _ => rfl)
  | Tuple es kd pos =>
    refine grd_el h fun hc h => obd_el h fun xs hxs h => ?_
    cases h
    rw [Bool.and_eq_true] at hc
    exact .plain (.tup kd pos (not_true hc.1) (small hc.2) (L hxs).fst) (fun m σ Q h => h) (fun _ _ => rfl)
  | List es pos =>
    refine grd_el h fun hc h => obd_el h fun xs hxs h => ?_
    cases h
    rw [Bool.and_eq_true] at hc
    exact .plain (.lst pos (not_true hc.1) (small hc.2) (L hxs).fst) (fun m σ Q h => h) (fun _ _ => rfl)
  | Dict ks vs pos =>
    refine obd_el h fun ke h1 h => obd_el h fun ke' h2 h => ?_
    refine obd_el h fun x h3 h => obd_el h fun v h4 h => ?_
    refine obd_el h fun y h5 h => grd_el h fun hc h => ?_
    cases h
    rw [Bool.and_eq_true] at hc
    obtain ⟨p, e3⟩ := vName_ok h3
    obtain ⟨q, e5⟩ := vName_ok h5
    rw [vOne_ok h1, vOne_ok h4, h2, e3, e5]
    exact .plain (.dct OK p q pos (globOk_ok hc.1).1 (globOk_ok hc.1).2 (globOk_ok hc.2).1 (globOk_ok hc.2).2) (fun m σ Q h => False.elim h) (fun _ _ => rfl)
  | ListComp elt gens sc pos =>
    obtain ⟨x, p, iter, ifs, a, b, cs, rfl, rfl, c1, c2, c3, c4, ha, hb, hcs, hlen⟩ := comp_parts h
    exact .plain (.comp (.of c1) c2 c3 (folded_of c4) (IH ha).1 (IH hb).1 (L hcs).snd hlen) (fun m σ Q h => False.elim h) (fun _ _ => rfl)
  | _ => exact no h

theorem trE_sound (OK : C.Ok) : ∀ (fuel : Nat) (X : Store → Prop) (k : Kinds) (ast : Expr) (e : Mine.E), trE fuel k ast = some e → SoundEx C n X k ast e
  | 0, X, k, ast, e, h => nomatch (show none = some e from h)
  | f + 1, X, k, ast, e, h => trE_step OK (fun q => trE_sound OK f _ _ _ _ q) (fun h => All2.of_trList (P := SoundEx C n _ _) (fun a e q => trE_sound OK f _ _ _ _ q) h) h

end
end Mine

end

section
open PySem PySem.W PyProof.Rows
set_option linter.unusedVariables false
set_option maxRecDepth 100000
set_option tactic.hygienic false
namespace Mine

/-- raising a refusal -/
noncomputable def RaiseOk (C : Ctx) (n : Nat) : Prop :=
  ∀ A fr env m σ ρ s (k : Kinds) (X : Store → Prop) (x t : Str) np cp cpos pos kd (EB : Value → Shared → Prop) (Q : Flow → Shared → Prop), EnvOk k env → Sit C n A fr env m σ ρ s → Pass C A fr env X EB ρ s → nameOk x = true → k x = some .globalImplicit → x.toString = "BadTable" → X σ →
    wpAny (model C.prog C.w) A (exec (.Raise (some (.Call (.Name x np) [.Constant (.str t) kd cp] [] cpos)) none pos) env) Q EB s

section
variable {C : Ctx} {n : Nat}

theorem SoundS.raise {X : Store → Prop} {k : Kinds} (RK : RaiseOk C n) {x t : Str} {np cp cpos pos : Pos} {kd : Nat} (hx : nameOk x = true) (hg : k x = some .globalImplicit) :
    SoundS C n X k (.Raise (some (.Call (.Name x np) [.Constant (.str t) kd cp] [] cpos)) none pos) (.raise x.toString t.toString) := fun A fr env m σ ρ s Q EB hk sit ps h => by
  exact RK _ _ _ _ _ _ _ _ _ _ _ _ _ _ _ _ _ _ hk sit ps hx hg (chk_el h fun a _ => beq_iff_eq.mp a) (chk_el h fun _ a => a)

theorem SoundS.try (OK : C.Ok) (BK : BadOk C) {X : Store → Prop} {k : Kinds} {x c : Str} {np cp callp ep rp vp hp pp pos : Pos} {kd : Nat} {f : Mine.E} {as : List Expr} {es : List Mine.E} (hf : SoundE C n noX k (.Name x np) f) (hs : as.any isStar = false) (hne : as ≠ [])
    (h : All2 (SoundE C n noX k) as es) (hc : nameOk c = true) (hcg : k c = some .globalImplicit) :
    SoundS C n X k (.Try [.Expr (.Call (.Name x np) as [] callp) ep, .Return (some (.Constant (.bool false) kd vp)) rp] [.ExceptHandler (some (.Name c cp)) none [.Pass pp] hp] [] [] pos) (.try f es c.toString) := fun A fr env m σ ρ s Q EB hk sit ps hq => by
  refine chk_el hq fun hcn hq => ?_
  have hcn := beq_iff_eq.mp hcn
  obtain ⟨outer, hfr, hfl⟩ := ps.top
  refine wpAny_Try_except (wpAny_execs_cons (wpAny_Expr_any (wpAny_mono (call_core (Q := fun _ σ₃ => Q (.ret (.bool false)) m σ₃) (Xa := noX) (Xc := fun σ₃ => Q .next m σ₃) OK hf hs hne h hk sit hq (fun e s' x => x.no.elim)
    fun e s' σ₂ ρ₂ s₂ sit₂ p₂ x => handler_sound (EB := EB) (hp := hp) (pp := pp) (cp := cp) BK hk hc hcg hcn sit₂ hfr hfl x (Q := PSt C n A fr env ρ s Q) fun σ' ρ' s' hX sit' p' => ⟨Fl.next, _, _, _, hX, rfl, sit', p₂.trans p'⟩)
    (fun c s₁ x => PE.elim x fun v σ₁ ρ₁ q hv sit₁ p₁ => ?_) fun a b x => x) (notInteractive hk) rfl))
  exact wpAny_execs_cons (wpAny_Return_some (wpAny_Constant_bool ⟨Fl.ret (.bool false), m, σ₁, ρ₁, q, ⟨_, rfl, rfl⟩, sit₁, p₁⟩))

end

section
variable {C : Ctx} {n : Nat}
theorem SoundB.of_trT {f : Nat} {k : Kinds} {t : Expr} {t' : T} (h : trT f k t = some t') : SoundB C n k t t' := by
  cases t with
  | Name x p =>
    refine obd_el h fun y hy h => ?_
    cases h
    exact .name p hy
  | Tuple es kd p =>
    refine obd_el h fun xs hxs h => grd_el h fun _ h => ?_
    cases h
    exact .tup kd p hxs
  | Subscript v i p =>
    refine grd_el h fun _ h => obd_el h fun a _ h => ?_
    refine obd_el h fun b _ h => ?_
    cases h
    exact fun A fr env m σ ρ s v c m' Ex Q hk sit hv hb hQ => nomatch (show none = some m' from hb)
  | Attribute o a p =>
    refine obd_el h fun x _ h => grd_el h fun _ h => ?_
    cases h
    exact fun A fr env m σ ρ s v c m' Ex Q hk sit hv hb hQ => nomatch (show none = some m' from hb)
  | _ => exact no h

theorem comp_value {v : Expr} (hl : isListComp v = true) {f : Nat} {k : Kinds} {e : Mine.E} (h : trE f k v = some e) : ∃ f' elt gens sc pos, f = f' + 1 ∧ v = .ListComp elt gens sc pos := by
  cases f with
  | zero => cases h
  | succ f =>
    cases v with
    | ListComp elt gens sc pos => exact ⟨f, elt, gens, sc, pos, rfl, rfl⟩
    | SetComp _ _ _ _ => cases h
    | DictComp _ _ _ _ _ => cases h
    | _ => cases hl

theorem assign_sound (OK : C.Ok) {f : Nat} {X : Store → Prop} {k : Kinds} {t v : Expr} {t' : T} {e : Mine.E} (pos : Pos) (hc : (!((isTupE t && constTup v) || (isListComp v && !isNameE t))) = true) (ht : trT f k t = some t') (he : trE f k v = some e) :
    SoundS C n X k (.Assign [t] v pos) (.assign t' e) := by
  have IE : ∀ {X : Store → Prop} {k : Kinds} {a : Expr} {e : Mine.E}, trE f k a = some e → SoundEx C n X k a e := fun h => trE_sound OK f _ _ _ _ h
  have hc := Bool.or_eq_false_iff.mp (not_true hc)
  cases t with
  | Name x p =>
    refine obd_el ht fun y hy h => ?_
    cases h
    cases hl : isListComp v with
    | true =>
      obtain ⟨f', elt, gens, sc, lpos, rfl, rfl⟩ := comp_value hl he
      obtain ⟨x, p, iter, ifs, a, b, cs, rfl, rfl, c1, c2, c3, c4, ha, hb, hcs, hlen⟩ := comp_parts he
      exact .assignC (.of c1) c2 c3 (folded_of c4) hy (trE_sound OK f' _ _ _ _ ha).1 (trE_sound OK f' _ _ _ _ hb).1 (All2.of_trList (P := SoundEx C n _ _) (fun a e q => trE_sound OK f' _ _ _ _ q) hcs).snd hlen
    | false => exact .assign1 pos hl (.name p hy) (IE he).1 (fun _ => rfl) (fun _ => rfl)
  | Tuple es kd p =>
    refine obd_el ht fun xs hxs h => grd_el h fun hd h => ?_
    cases h
    have hl : isListComp v = false := by
      have := hc.2
      rw [show (!isNameE (.Tuple es kd p)) = true from rfl, Bool.and_true] at this; exact this
    exact .assignT kd p pos hl hc.1 hxs hd (IE he).1
  | Subscript o i p =>
    refine grd_el ht fun hs h => obd_el h fun a ha h => ?_
    refine obd_el h fun b hb h => ?_
    cases h
    have hl : isListComp v = false := by
      have := hc.2
      rw [show (!isNameE (.Subscript o i p)) = true from rfl, Bool.and_true] at this; exact this
    exact .assign1 pos hl (.sub p (not_true hs) (IE ha).1 (IE hb).1) (IE he).1 (fun _ => rfl) (fun _ => rfl)
  | Attribute o a p =>
    refine obd_el ht fun x h1 h => grd_el h fun hq h => ?_
    cases h
    obtain ⟨xp, rfl⟩ := vName_ok h1
    rw [Bool.and_eq_true, Bool.and_eq_true, beq_iff_eq] at hq
    have hl : isListComp v = false := by
      have := hc.2
      rw [show (!isNameE (.Attribute (.Name x xp) a p)) = true from rfl, Bool.and_true] at this; exact this
    exact .assign1 pos hl (.attr OK hq.1 hq.2.1 hq.2.2 xp p) (IE he).1 (fun _ => rfl) (fun _ => rfl)
  | _ => exact no ht

theorem isName_ok {t : Expr} {x : Str} (h : vName t = some x) : ∃ p, t = .Name x p := vName_ok h
theorem raise_sound (RK : RaiseOk C n) {X : Store → Prop} {k : Kinds} {e c : Option Expr} {st : S} (pos : Pos) (h : raiseV k e c = some st) : SoundS C n X k (.Raise e c pos) st := by
  refine grd_el h fun hc h => obd_el h fun r h1 h => ?_
  refine obd_el h fun q h2 h => obd_el h fun x h3 h => ?_
  refine obd_el h fun a h4 h => obd_el h fun ct h5 h => ?_
  refine obd_el h fun m h6 h => grd_el h fun hq h => ?_
  cases h
  rw [Bool.and_eq_true, Bool.and_eq_true, Bool.and_eq_true, beq_iff_eq] at hq
  obtain ⟨np, e3⟩ := vName_ok h3
  obtain ⟨kd, cp, e5⟩ := vConst_ok h5
  rw [h1, Option.isNone_iff_eq_none.mp hc, vCall_ok h2, e3, vOne_ok h4, e5, cStr_ok h6, List.isEmpty_iff.mp hq.1]
  exact .raise RK hq.2.1 hq.2.2.1
end

/-- what a list of statements means -/
theorem trS_step {C : Ctx} {n : Nat} (OK : C.Ok) (BK : BadOk C) (RK : RaiseOk C n) {f : Nat} {X : Store → Prop} {k : Kinds} (ISs : ∀ {ast : List Stmt} {st : List S}, trSs f k ast = some st → SoundSs C n X k ast st) {ast : Stmt} {st : S} (h : trS (f + 1) k ast = some st) : SoundS C n X k ast st := by
  have IE : ∀ {X : Store → Prop} {k : Kinds} {a : Expr} {e : Mine.E}, trE f k a = some e → SoundEx C n X k a e := fun h => trE_sound OK f _ _ _ _ h
  cases ast with
  | Return v pos =>
    refine obd_el h fun r h1 h => obd_el h fun e' he h => ?_
    cases h
    rw [h1]
    exact .ret pos (IE he).1
  | Pass pos => cases h; exact .pass pos
  | Continue pos => cases h; exact .cont pos
  | If t b o pos =>
    refine obd_el h fun t' ht h => obd_el h fun b' hb h => ?_
    refine obd_el h fun o' ho h => ?_
    cases h
    exact .ite pos (IE ht).2 (ISs hb) (ISs ho)
  | While t b o pos =>
    refine grd_el h fun ho h => obd_el h fun t' ht h => ?_
    refine obd_el h fun b' hb h => ?_
    cases h
    rw [List.isEmpty_iff.mp ho]
    exact .while pos (IE ht).2 (ISs hb)
  | For t it b o pos =>
    refine grd_el h fun ho h => obd_el h fun t' ht h => ?_
    refine obd_el h fun e' he h => obd_el h fun b' hb h => ?_
    cases h
    rw [Bool.and_eq_true, List.isEmpty_iff] at ho
    rw [ho.2]
    exact .for pos (not_true ho.1) (.of_trT ht) (IE he).1 (ISs hb)
  | Expr e pos =>
    have h : (if (vMeth e).isSome then _ else _) = some st := h
    by_cases hm : (vMeth e).isSome = true
    · rw [if_pos hm] at h
      refine obd_el h fun c h1 h => grd_el h fun hc h => ?_
      refine obd_el h fun x h2 h => obd_el h fun a ha h => ?_
      refine obd_el h fun b hb h => ?_
      cases h
      rw [Bool.and_eq_true, Bool.and_eq_true, Bool.and_eq_true, Bool.and_eq_true, beq_iff_eq, List.isEmpty_iff] at hc
      obtain ⟨c1, c2, c3, c4, c5⟩ := hc
      have c3 := not_true c3
      rw [vOne_ok h2] at c3
      rw [vMeth_ok h1, c1, c2, vOne_ok h2]
      exact .append c3 c4 c5 (IE ha).1 (IE hb).1
    · rw [if_neg hm] at h
      refine grd_el h fun hl h => obd_el h fun a ha h => ?_
      cases h
      exact .expr pos (not_true hl) (IE ha).1
  | AugAssign t op v pos =>
    have h : (if isNameE t then _ else _) = some st := h
    by_cases hn : isNameE t = true
    · rw [if_pos hn] at h
      refine obd_el h fun x h1 h => obd_el h fun a ha h => ?_
      refine obd_el h fun b hb h => ?_
      cases h
      obtain ⟨p, rfl⟩ := vName_ok h1
      exact .aug op p pos ha (IE hb).1
    · rw [if_neg hn] at h
      refine obd_el h fun q h1 h => grd_el h fun hs h => ?_
      refine obd_el h fun a ha h => obd_el h fun i hi h => ?_
      refine obd_el h fun b hb h => ?_
      cases h
      obtain ⟨p, rfl⟩ := vSub_ok h1
      exact .augsub op p pos (not_true hs) (IE ha).1 (IE hi).1 (IE hb).1
  | Raise e c pos => exact raise_sound RK pos h
  | Try b hs o fin pos =>
    refine grd_el h fun hof h => obd_el h fun v hv h => ?_
    refine grd_el h fun hc h => obd_el h fun g hg h => ?_
    refine obd_el h fun es hes h => ?_
    rw [Bool.and_eq_true, List.isEmpty_iff, List.isEmpty_iff] at hof
    rw [Bool.and_eq_true, Bool.and_eq_true] at hc
    have hne : v.args ≠ [] := fun q => by
      have h2 := hc.2.1
      rw [q] at h2; cases h2
    cases g with
    | loc y =>
      cases h
      obtain ⟨np, callp, ep, kd, vp, rp, cp, pp, hp, e1, e2⟩ := vTry_ok hv
      rw [e1, e2, hof.1, hof.2]
      exact .try OK BK (name_sound OK np hg) (not_true hc.1) hne (All2.of_trList (P := SoundEx C n _ _) (fun a e q => IE q) hes).fst (globOk_ok hc.2.2).1 (globOk_ok hc.2.2).2
    | _ => exact no h
  | Assign ts v pos =>
    refine obd_el h fun t h1 h => grd_el h fun hc h => ?_
    refine obd_el h fun t' ht h => obd_el h fun e' he h => ?_
    cases h
    rw [vOne_ok h1]
    exact assign_sound OK pos hc ht he
  | _ => exact no h

theorem trS_sound {C : Ctx} {n : Nat} (OK : C.Ok) (BK : BadOk C) (RK : RaiseOk C n) : ∀ (fuel : Nat) (X : Store → Prop) (k : Kinds),
    (∀ (ast : Stmt) (st : S), trS fuel k ast = some st → SoundS C n X k ast st) ∧ (∀ (ast : List Stmt) (st : List S), trSs fuel k ast = some st → SoundSs C n X k ast st)
  | 0, X, k => ⟨fun ast st h => (nomatch (show none = some st from h)), fun ast st h => (nomatch (show none = some st from h))⟩
  | f + 1, X, k => by
    obtain ⟨IS, ISs⟩ := trS_sound OK BK RK f X k
    refine ⟨fun ast st h => trS_step OK BK RK (fun q => ISs _ _ q) h, fun ast st h => ?_⟩
    cases ast with
    | nil => cases h; exact .nil
    | cons a r =>
      refine obd_el h fun a' ha h => obd_el h fun r' hr h => ?_
      cases h
      exact .cons (IS _ _ ha) (ISs _ _ hr)

end Mine

end

section
open PySem PySem.W PyProof.Rows
set_option linter.unusedVariables false
set_option maxRecDepth 100000
set_option tactic.hygienic false
namespace Mine

noncomputable def oneCell : List (Str × NameKind) → Bool
  | [] => true
  | (x, k) :: r => (k != .cell || r.all fun p => p.1 != x) && oneCell r
noncomputable def scopeOk (sc : Scope) : Bool := sc.kind == .function && !sc.isCoroutine && !sc.isGenerator && oneCell sc.names && sc.names.all fun p => p.2 != .free
noncomputable def paramOk (sc : Scope) (p : String) : Bool := sc.names.lookup (Str.ofString p) == some .local || sc.names.lookup (Str.ofString p) == some .cell

/-- a function of the program and its inner form -/
inductive FnOk (C : Ctx) (f : String) (ps : List String) (b : List S) : Prop
  | mk (a : Addr) (oc : Value) (od : Option Addr) (osl : Array (Option Value)) (fd : FuncData) (body : List Stmt) (e1 : C.fnv f = some (.ref a)) (e2 : C.B.get? a = some ⟨oc, od, .func fd, osl⟩) (e3 : C.B.CodeRec fd.code fd.qualname) (e4 : fd.body = .stmts body) (e5 : fd.closure = []) (e6 : fd.globals = mainGlobals) (e7 : fd.builtins = builtinsNs)
      (e8 : scopeOk fd.scope = true) (e9 : ps.all (paramOk fd.scope) = true) (e10 : ∀ (s : Shared) (vals : List Value), C.B.StaysIn s.heap → vals.length = ps.length → BindsTo s fd ⟨vals, []⟩ ((ps.map Str.ofString).zip vals))
      (fuel : Nat) (e11 : trSs fuel (fun x => fd.scope.names.lookup x) body = some b) : FnOk C f ps b

theorem cellsFrom_mem (names : List (Str × NameKind)) : ∀ (n : Nat) (acc : List (Str × Addr)) (x : Str), ((x, NameKind.cell) ∈ names ∨ ∃ a, (x, a) ∈ acc) → ∃ a, (x, a) ∈ cellsFrom n names acc := by
  induction names with
  | nil => exact fun n acc x h => h.elim (fun h => nomatch h) id
  | cons p r ih =>
    intro n acc x h
    obtain ⟨nm, kd⟩ := p
    show ∃ a, (x, a) ∈ if (kd == .cell) = true then cellsFrom (n + 1) r ((nm, n) :: acc) else cellsFrom n r acc
    by_cases hk : (kd == .cell) = true
    · rw [if_pos hk]
      refine ih _ _ x (h.elim (fun h => (List.mem_cons.mp h).elim (fun q => .inr ⟨n, ?_⟩) .inl) fun ⟨a, h⟩ => .inr ⟨a, .tail _ h⟩)
      rw [(Prod.mk.inj q).1]; exact .head _
    · rw [if_neg hk]
      refine ih _ _ x (h.elim (fun h => (List.mem_cons.mp h).elim (fun q => absurd ?_ hk) .inl) .inr)
      rw [← (Prod.mk.inj q).2]; rfl

theorem cellsFrom_fun (names : List (Str × NameKind)) : ∀ (n : Nat) (acc : List (Str × Addr)), oneCell names = true → (∀ x, (∃ a, (x, a) ∈ acc) → (x, NameKind.cell) ∉ names) → (∀ x a b, (x, a) ∈ acc → (x, b) ∈ acc → a = b) →
    ∀ x a b, (x, a) ∈ cellsFrom n names acc → (x, b) ∈ cellsFrom n names acc → a = b := by
  induction names with
  | nil => exact fun n acc _ _ h => h
  | cons p r ih =>
    intro n acc ho hd hu
    obtain ⟨nm, kd⟩ := p
    have ho : ((kd != .cell || r.all fun p => p.1 != nm) && oneCell r) = true := ho
    rw [Bool.and_eq_true] at ho
    show ∀ x a b, (x, a) ∈ (if (kd == .cell) = true then cellsFrom (n + 1) r ((nm, n) :: acc) else cellsFrom n r acc) → (x, b) ∈ (if (kd == .cell) = true then cellsFrom (n + 1) r ((nm, n) :: acc) else cellsFrom n r acc) → a = b
    by_cases hk : (kd == .cell) = true
    · rw [if_pos hk]
      have hk' := beq_iff_eq.mp hk
      subst hk'
      have hr : ∀ b, (nm, b) ∉ r := fun b hm => bne_iff_ne.mp (List.all_eq_true.mp ho.1 _ hm) rfl
      have hin : ∀ a, (nm, a) ∉ acc := fun a ha => hd nm ⟨a, ha⟩ (.head _)
      refine ih _ _ ho.2 (fun x h hm => ?_) (fun x a b h1 h2 => ?_)
      · obtain ⟨a, hx⟩ := h
        rcases List.mem_cons.mp hx with q | q
        · rw [(Prod.mk.inj q).1] at hm; exact hr _ hm
        · exact hd x ⟨a, q⟩ (.tail _ hm)
      · rcases List.mem_cons.mp h1 with q | q
        · rcases List.mem_cons.mp h2 with q' | q'
          · exact (Prod.mk.inj q).2.trans (Prod.mk.inj q').2.symm
          · rw [(Prod.mk.inj q).1] at q'; exact absurd q' (hin b)
        · rcases List.mem_cons.mp h2 with q' | q'
          · rw [(Prod.mk.inj q').1] at q; exact absurd q (hin a)
          · exact hu x a b q q'
    · rw [if_neg hk]
      exact ih _ _ ho.2 (fun x hx hm => hd x hx (.tail _ hm)) hu

theorem lookup_of_mem {x : Str} {a : Addr} {l : List (Str × Addr)} (h : (x, a) ∈ l) : ∃ b, l.lookup x = some b := by
  cases q : l.lookup x with
  | some b => exact ⟨b, rfl⟩
  | none =>
    rw [List.lookup_eq_none_iff] at q
    exact absurd (q _ h) (by simp)

section
variable {C : Ctx} {n : Nat} {A : Around} {fr : List Env} {σ : Store} {ρ : List Addr} {s : Shared}

/-- what the parameters hold -/
theorem params_sound {kindOf : Str → Option NameKind} {ρ : List Addr} {h : Heap} : ∀ {ps : List String} {vs : List V} {cs : List Value} {m m' : Loc} {mm cm : Str → Option Value}, VRs C ρ h vs cs → bindL ps vs m = some m' →
    (∀ x v, m x = some v → kindOf (Str.ofString x) = some .local → ∃ c, mm (Str.ofString x) = some c ∧ VR C ρ h v c) → (∀ x v, m x = some v → kindOf (Str.ofString x) = some .cell → ∃ c, cm (Str.ofString x) = some c ∧ VR C ρ h v c) →
    (∀ p ∈ ps, kindOf (Str.ofString p) = some .local ∨ kindOf (Str.ofString p) = some .cell) →
    (∀ x v, m' x = some v → kindOf (Str.ofString x) = some .local → ∃ c, PySem.bindL kindOf ((ps.map Str.ofString).zip cs) mm (Str.ofString x) = some c ∧ VR C ρ h v c) ∧
    (∀ x v, m' x = some v → kindOf (Str.ofString x) = some .cell → ∃ c, PySem.bindC kindOf ((ps.map Str.ofString).zip cs) cm (Str.ofString x) = some c ∧ VR C ρ h v c) := by
  intro ps
  induction ps with
  | nil =>
    intro vs cs m m' mm cm hv hb h1 h2 hp
    cases vs with
    | nil => rw [← Option.some.inj hb]; exact ⟨h1, h2⟩
    | cons _ _ => exact no hb
  | cons p ps ih =>
    intro vs cs m m' mm cm hv hb h1 h2 hp
    cases vs with
    | nil => exact no hb
    | cons v vs =>
      obtain ⟨c, cs, rfl, hv, hvs⟩ := hv
      have hb : bindL ps vs (upd m p v) = some m' := hb
      rw [List.map_cons, List.zip_cons_cons, PySem.bindL, PySem.bindC]
      have hp' := fun q hq => hp q (.tail _ hq)
      have set : ∀ {g : Str → Option Value} {x : String} {w : V}, (m x = some w → ∃ c, g (Str.ofString x) = some c ∧ VR C ρ h w c) → upd m p v x = some w → ∃ c', (if Str.ofString x = Str.ofString p then some c else g (Str.ofString x)) = some c' ∧ VR C ρ h w c' := fun hg e =>
        upd_el e (fun q1 q2 => ⟨c, if_pos (congrArg _ q1), q2 ▸ hv⟩) fun q e => by
          obtain ⟨c', e3, e4⟩ := hg e
          exact ⟨c', (if_neg fun z => q (ofString_inj z)).trans e3, e4⟩
      have skip : ∀ {kd kd' : NameKind} {g : Str → Option Value} {x : String} {w : V}, kindOf (Str.ofString p) = some kd → kd ≠ kd' → kindOf (Str.ofString x) = some kd' → (m x = some w → ∃ c, g (Str.ofString x) = some c ∧ VR C ρ h w c) → upd m p v x = some w → ∃ c', g (Str.ofString x) = some c' ∧ VR C ρ h w c' := fun hk hne hx hg e =>
        upd_el e (fun q1 q2 => absurd (by rw [q1, hk] at hx; exact Option.some.inj hx) hne) fun _ e => hg e
      rcases hp p (.head _) with hk | hk
      · rw [if_pos hk, if_pos hk]
        exact ih hvs hb (fun x w e1 e2 => set (fun e => h1 x w e e2) e1) (fun x w e1 e2 => skip hk (by decide) e2 (fun e => h2 x w e e2) e1) hp'
      · have hk' : ¬ kindOf (Str.ofString p) = some .local := by rw [hk]; decide
        rw [if_neg hk', if_neg hk']
        exact ih hvs hb (fun x w e1 e2 => skip hk (by decide) e2 (fun e => h1 x w e e2) e1) (fun x w e1 e2 => set (fun e => h2 x w e e2) e1) hp'

theorem leave_common {env : Env} {X : Store → Prop} {ρ : List Addr} {s s₁ s' : Shared} {h' : Heap} {ea : Addr} {a0 : Value} {K : Addr} {σ' : Store} {ρ' : List Addr} {Bx : Heap} (hs : ∀ b o, s.heap.get? b = some o → s₁.heap.get? b = some o ∧ ¬ exOf env b) (hf : env.frame = some env.locals)
    (hg1 : s₁.gens = s.gens) (hos1 : s₁.os = s.os) (hfok : FrOk C ρ s.heap fr)
    (hX : X σ') (hK : C.fnv "BadTable" = some (.ref K)) (hsr : SR C σ' ρ' Bx) (hg : s'.gens = s₁.gens) (hos : s'.os = s₁.os) (hpre : ∀ (i : Nat) (a : Addr), ρ[i]? = some a → ρ'[i]? = some a) (hfresh : ∀ a, a ∈ ρ' → a ∉ ρ → s₁.heap.get? a = none ∧ ¬ exOf env a)
    (hkeep : ∀ b o, s₁.heap.get? b = some o → b ∉ ρ → ¬ exOf env b → b ∉ frAt (env :: fr) → Kept C b o Bx) (hfrk : ∀ L o, L ∈ frAt (env :: fr) → ¬ exOf env L → s₁.heap.get? L = some o → ∃ sl, s'.heap.get? L = some { o with slots := sl })
    (hfl : Heap.FlyingW Bx fr ea (.ref K) a0 h') (hsm : ∀ b o, s'.heap.get? b = some o → (∀ vs, o.data ≠ .fields vs) → ∃ sl, h'.get? b = some { o with slots := sl }) :
    ExcP C fr X noEx ρ s (.ref ea) { s' with heap := h' } := by
  refine ⟨σ', ρ', ea, a0, Bx, K, hX, rfl, hK, hfl, hsr, hg.trans hg1, hos.trans hos1, hpre, fun a h1 h2 => ⟨?_, fun q => q⟩, fun b o e h1 _ h3 => ?_, fun L o hL _ e => ?_⟩
  · cases q : s.heap.get? a with
    | none => rfl
    | some o => have := (hs a o q).1; rw [(hfresh a h1 h2).1] at this; cases this
  · obtain ⟨e1, e2⟩ := hs b o e
    refine hkeep b o e1 h1 e2 fun hm => ?_
    obtain ⟨e0, he0, hfe⟩ := List.mem_filterMap.mp hm
    rcases List.mem_cons.mp he0 with q | q
    · subst q; rw [hf] at hfe; cases hfe; exact e2 (.inl rfl)
    · exact h3 (List.mem_filterMap.mpr ⟨e0, q, hfe⟩)
  · obtain ⟨e1, e2⟩ := hs L o e
    obtain ⟨e0, he0, hfe⟩ := List.mem_filterMap.mp hL
    obtain ⟨_, L', o', a1, a2, a3, ⟨es, ep, a4⟩, a5⟩ := hfok e0 he0
    rw [hfe] at a1; cases a1
    rw [e] at a3; cases a3
    obtain ⟨sl, e'⟩ := hfrk L o (List.mem_filterMap.mpr ⟨e0, .tail _ he0, hfe⟩) e2 e1
    obtain ⟨sl', e''⟩ := hsm L _ e' (fun vs q => by simp only at q; rw [a4] at q; cases q)
    exact ⟨sl', e''⟩

theorem leave_fly {A' : Around} {env : Env} {X : Store → Prop} {s₁ s' : Shared} {e : Value} {EE : Value → Shared → Prop} (hfr : A'.frames = some (env :: fr)) (hf : env.frame = some env.locals) (hs : ∀ b o, s.heap.get? b = some o → s₁.heap.get? b = some o ∧ ¬ exOf env b)
    (hg1 : s₁.gens = s.gens) (hos1 : s₁.os = s.os) (hfok : FrOk C ρ s.heap fr) (x : ExcP C (env :: fr) X (exOf env) ρ s₁ e s') :
    wpAny (model C.prog C.w) A' (leaving env e) (fun _ s'' => ExcP C fr X noEx ρ s e s'') EE s' := by
  obtain ⟨σ', ρ', ea, a0, Bx, K, hX, rfl, hK, hfl, hsr, hg, hos, hpre, hfresh, hkeep, hfrk⟩ := x
  exact wpAny_leaves_onW hfr hf hfl fun h' fl sm => leave_common hs hf hg1 hos1 hfok hX hK hsr hg hos hpre hfresh hkeep hfrk fl sm

theorem leave_made {A' : Around} {env : Env} {X : Store → Prop} {s₁ s' : Shared} {e : Value} {EE : Value → Shared → Prop} (hfr : A'.frames = some (env :: fr)) (hf : env.frame = some env.locals) (hs : ∀ b o, s.heap.get? b = some o → s₁.heap.get? b = some o ∧ ¬ exOf env b)
    (hg1 : s₁.gens = s.gens) (hos1 : s₁.os = s.os) (hfok : FrOk C ρ s.heap fr) (x : ExcG MadeW C (env :: fr) X (exOf env) ρ s₁ e s') :
    wpAny (model C.prog C.w) A' (leaving env e) (fun _ s'' => ExcP C fr X noEx ρ s e s'') EE s' := by
  obtain ⟨σ', ρ', ea, a0, Bx, K, hX, rfl, hK, ⟨w1, w2, w3, oe, vs, w4, w5, w6, w7, w8⟩, hsr, hg, hos, hpre, hfresh, hkeep, hfrk⟩ := x
  refine wpAny_leaving_firstW hfr w3 hf w4 w1 w2 w6 w7 w8 fun h' hL => ?_
  obtain ⟨k1, ⟨_, _, k2⟩, k3, k4⟩ := hL
  rw [w5] at k3
  exact leave_common hs hf hg1 hos1 hfok hX hK hsr hg hos hpre hfresh hkeep hfrk ⟨k1, w2, k2, k3⟩ k4

theorem newEnv_ok {fd : FuncData} {L a : Addr} (hsc : scopeOk fd.scope = true) (hg : fd.globals = mainGlobals) (hb : fd.builtins = builtinsNs) : EnvOk (fun x => fd.scope.names.lookup x) (callEnvC fd L a) := by
  unfold scopeOk at hsc
  simp only [Bool.and_eq_true, beq_iff_eq, List.all_eq_true, bne_iff_ne, ne_eq] at hsc
  refine ⟨hsc.1.1.1.1, hg, hb, fun x h => h, fun x h => h, fun x h => h, fun x h => absurd rfl (hsc.2 _ (mem_of_lookup h)), fun x h => ?_⟩
  obtain ⟨b, hb'⟩ := cellsFrom_mem fd.scope.names (L + 1) [] x (.inl (mem_of_lookup h))
  exact lookup_of_mem hb'

/-- a new frame: what is known of its state -/
structure NewF (C : Ctx) (n : Nat) (A : Around) (fr : List Env) (env : Env) (m : Loc) (σ : Store) (ρ : List Addr) (s s₁ : Shared) : Prop where
  frame : env.frame = some env.locals
  old : ∀ b o, s.heap.get? b = some o → s₁.heap.get? b = some o ∧ ¬ exOf env b
  gens : s₁.gens = s.gens
  os : s₁.os = s.os
  sit : Sit C n (A.deeper env) (env :: fr) env m σ ρ s₁

theorem new_frame {f : String} {ps : List String} {fd : FuncData} {a : Addr} {m₀ : Loc} {vs : List V} {cs : List Value} {s₁ : Shared} {env : Env} (henv : env = callEnvC fd s.heap.objs.size a) (hroom : Room A (n + 1)) (hfrs : A.frames = some fr) (hfok : FrOk C ρ s.heap fr) (hsr : SR C σ ρ s.heap) (hvs : VRs C ρ s.heap vs cs) (hb : bindL ps vs (fun _ => none) = some m₀)
    (hk : EnvOk (fun x => fd.scope.names.lookup x) env) (hone : oneCell fd.scope.names = true) (hpk : ∀ p ∈ ps, fd.scope.names.lookup (Str.ofString p) = some .local ∨ fd.scope.names.lookup (Str.ofString p) = some .cell)
    (IC : InCallC s env.locals (PySem.bindL env.kindOf ((ps.map Str.ofString).zip cs) fun _ => none) env.cells (PySem.bindC env.kindOf ((ps.map Str.ofString).zip cs) fun _ => none) s₁) : NewF C n A fr env m₀ σ ρ s s₁ := by
  have hloc : env.locals = s.heap.objs.size := by rw [henv]; rfl
  have hframe : env.frame = some env.locals := by rw [henv]; rfl
  have hcl : env.cells = cellsFrom (s.heap.objs.size + 1) fd.scope.names [] := by rw [henv]; rfl
  have hko' : ∀ x, env.kindOf x = fd.scope.names.lookup x := fun x => by rw [henv]; rfl
  clear henv
  obtain ⟨hh, tk, hs₁⟩ := IC.toInCall.same
  have hexn : ∀ b, exOf env b → s.heap.get? b = none := fun b q => Heap.get?_none_of_le (q.elim (fun q => Nat.le_of_eq (q.trans hloc).symm) fun ⟨nm, q⟩ => Nat.le_of_lt (Nat.lt_of_le_of_lt IC.toInCall.fresh (IC.above nm b q)))
  have hsk : ∀ b o, s.heap.get? b = some o → s₁.heap.get? b = some o ∧ ¬ exOf env b := fun b o e => ⟨IC.toInCall.keep b o e, fun q => no ((hexn b q).symm.trans e)⟩
  have hBn : ∀ b, exOf env b → C.B.get? b = none := fun b q => by
    cases z : C.B.get? b with
    | none => rfl
    | some o => exact no ((hexn b q).symm.trans (hsr.base b o z))
  have hρn : ∀ b, exOf env b → b ∉ ρ := fun b q hm => by
    obtain ⟨_, _, _, _, r⟩ := hsr.owned hm
    obtain ⟨_, e, _⟩ := r.there
    exact no ((hexn b q).symm.trans e)
  have hsr₁ : SR C σ ρ s₁.heap := ⟨hsr.len, fun i o a e1 e2 => (hsr.obj i o a e1 e2).mono (fun _ _ e => e) (fun b o e _ => (hsk b o e).1) (fun o e => (hsk a o e).1), hsr.inj, hsr.new, fun b o e => (hsk b o (hsr.base b o e)).1⟩
  obtain ⟨P1, P2⟩ := params_sound (C := C) (kindOf := env.kindOf) (mm := fun _ => none) (cm := fun _ => none) (hvs.mono (fun _ _ e => e) fun b o e _ => (hsk b o e).1) hb (fun x v e => no e) (fun x v e => no e) (fun p hp => by rw [hko']; exact hpk p hp)
  refine ⟨hframe, hsk, by rw [hs₁], by rw [hs₁], ⟨hroom.handled, ?_, ?_⟩, Around.frames_deeper hfrs, fun e he => ?_, hsr₁, ⟨_, IC.toInCall.ns, P1⟩, fun nm c hm => ?_, fun x v e1 e2 => ?_, ⟨hBn _ (.inl rfl), hρn _ (.inl rfl)⟩, fun nm c hm => ⟨hBn _ (.inr ⟨nm, hm⟩), hρn _ (.inr ⟨nm, hm⟩), fun q => ?_⟩, fun n1 n2 c h1 h2 => name_of_addr IC.apart h1 h2⟩
  · show A.depth + 1 + n + 60 < _
    have := hroom.depth
    rw [Nat.add_right_comm A.depth 1 n]; exact this
  · show A.units + 3 + 4 * n + 200 < _
    have := hroom.units; omega
  · rcases List.mem_cons.mp he with q | q
    · subst q
      obtain ⟨o, es, ep, e1, e2, _⟩ := IC.toInCall.ns
      exact ⟨by rw [hk.kind]; decide, _, o, hframe, hBn _ (.inl rfl), e1, ⟨es, ep, e2⟩, hρn _ (.inl rfl)⟩
    · obtain ⟨hk, L, o, a1, a2, a3, a4, a5⟩ := hfok e q
      exact ⟨hk, L, o, a1, a2, (hsk L o a3).1, a4, a5⟩
  · obtain ⟨d, hd⟩ := lookup_of_mem hm
    have hmd := mem_of_lookup hd
    rw [hcl] at hm hmd
    rw [← cellsFrom_fun _ _ _ hone (fun x h => by obtain ⟨_, h⟩ := h; cases h) (fun x a b h => by cases h) _ _ _ hmd hm]
    exact ⟨_, IC.cell nm d hd⟩
  · obtain ⟨c, hc, hv⟩ := P2 x v e1 e2
    obtain ⟨d, hd⟩ := hk.cellAt _ e2
    exact ⟨d, c, hd, by rw [← hc]; exact IC.cell _ d hd, hv⟩
  · have := IC.above nm c hm; rw [q] at this; exact Nat.lt_irrefl _ this

/-- what a function's end gives back -/
noncomputable def retQ (Q : V → Store → Prop) (fl : Fl) (_ : Loc) (σ : Store) : Prop := match fl with
  | .ret v => Q v σ
  | .next => Q .none σ
  | .cont => False

/-- a function's call by what its body means -/
theorem fn_code (OK : C.Ok) (BK : BadOk C) (RK : RaiseOk C n) {f : String} {ps : List String} {b : List S} (F : FnOk C f ps b) {vs : List V} {m₀ : Loc} {X : Store → Prop} {Q : V → Store → Prop} (hb : bindL ps vs (fun _ => none) = some m₀)
    (h : wpSs C n X b m₀ σ (retQ Q)) (A : Around) (fr : List Env) (ρ : List Addr) (s : Shared) (c : Value) (cs : List Value) (hroom : Room A (n + 1)) (hfrs : A.frames = some fr) (hfok : FrOk C ρ s.heap fr) (hsr : SR C σ ρ s.heap) (hvs : VRs C ρ s.heap vs cs) (hc : C.fnv f = some c) :
    codeAny (model C.prog C.w) A (.call c ⟨cs, []⟩) (fun r s' => match r with
      | .ok (.ret v) => PC C ρ s Q v s'
      | .ok _ => False
      | .error e => ExcP C fr X noEx ρ s e s') s := by
  obtain ⟨a, oc, od, osl, fd, body, e1, e2, e3, e4, e5, e6, e7, e8, e9, e10, fuel, e11⟩ := F
  rw [e1] at hc; cases hc
  have hB := hsr.base
  have hlen : cs.length = ps.length := hvs.length.symm.trans (bindL_length hb).symm
  have hko : EnvOk (fun x => fd.scope.names.lookup x) (callEnvC fd s.heap.objs.size a) := newEnv_ok e8 e6 e7
  unfold scopeOk at e8
  rw [Bool.and_eq_true, Bool.and_eq_true, Bool.and_eq_true, Bool.and_eq_true, beq_iff_eq] at e8
  have hpk : ∀ p ∈ ps, fd.scope.names.lookup (Str.ofString p) = some .local ∨ fd.scope.names.lookup (Str.ofString p) = some .cell := fun p hp => or_beq (List.all_eq_true.mp e9 p hp)
  refine codeAny_call_function (Nat.lt_of_le_of_lt (Nat.le_trans (Nat.le_add_right _ _) (Nat.le_add_right _ _)) hroom.depth) (hB _ _ e2) rfl (not_true e8.1.1.1.2) (not_true e8.1.1.2) e4 (e3.keeps hB) (e10 s cs hB hlen _ _ _ _ ?_)
  rw [e5]
  refine wpAny_newFunctionEnv_cells e8.1.1.1.1 (fun x hx => ?_) fun env he s₁ IC => ?_
  · obtain ⟨p, hp, hq⟩ := List.mem_map.mp (List.of_mem_zip (b := x.2) (show (x.1, x.2) ∈ _ from hx)).1
    rw [← hq]
    refine (hpk p hp).imp id fun q => ⟨q, ?_⟩
    obtain ⟨c, hc⟩ := cellsFrom_mem fd.scope.names (s.heap.objs.size + 1) [] _ (.inl (mem_of_lookup q))
    obtain ⟨d, hd⟩ := lookup_of_mem hc
    rw [hd]; rfl
  have he' : env = callEnvC fd s.heap.objs.size a := he
  have hko : EnvOk (fun x => fd.scope.names.lookup x) env := he' ▸ hko
  obtain ⟨hframe, hsk, hg1, hos1, sit⟩ := new_frame (f := f) he' hroom hfrs hfok hsr hvs hb hko e8.1.2 hpk IC
  have hnl := (OK.nolimit.keeps hB).keeps IC.toInCall.keep
  clear IC he he' hvs hlen hpk e1 e2 e3 e4 e5 e6 e7 e8 e9 e10 hB
  refine ⟨hnl, codeAny_func ?_⟩
  have ps : Pass C (A.deeper env) (env :: fr) env X (fun e s' => wpAny (model C.prog C.w) (A.deeper env) (leaving env e) (fun _ s'' => ExcP C fr X noEx ρ s e s'') (fun e' s'' => ExcP C fr X noEx ρ s e' s'') s') ρ s₁ :=
    ⟨⟨fr, rfl, hframe⟩, PassesOwn.leaving, fun e s' x => leave_fly (Around.frames_deeper hfrs) hframe hsk hg1 hos1 hfok x, fun e s' x => leave_made (Around.frames_deeper hfrs) hframe hsk hg1 hos1 hfok x⟩
  refine wpAny_mono ((trS_sound OK BK RK fuel X (fun x => fd.scope.names.lookup x)).2 body b e11 _ _ _ _ _ _ _ _ _ hko sit ps h) (fun fl s' x => ?_) fun a b x => x
  obtain ⟨fl', m', σ', ρ', hq, hfl, sit', p⟩ := x
  have p' : Post C noEx ρ ρ' s s' := ⟨p.gens.trans hg1, p.os.trans hos1, p.pre, fun a h1 h2 => ⟨(by
      cases q : s.heap.get? a with
      | none => rfl
      | some o => exact no ((p.fresh a h1 h2).1.symm.trans (hsk a o q).1)), fun q => q⟩, fun b o e h1 _ => p.keep b o (hsk b o e).1 h1 (hsk b o e).2⟩
  cases fl' with
  | next => rw [show fl = .next from hfl]; exact ⟨.none, σ', ρ', hq, .none, sit'.rel.sr, p'⟩
  | cont => exact hq.elim
  | ret v => obtain ⟨c, rfl, hfl⟩ := hfl; exact ⟨_, σ', ρ', hq, hfl, sit'.rel.sr, p'⟩

theorem fn_call (OK : C.Ok) (BK : BadOk C) (RK : RaiseOk C n) {f : String} {ps : List String} {b : List S} (F : FnOk C f ps b) {vs : List V} {m₀ : Loc} {X : Store → Prop} {Q : V → Store → Prop} (hb : bindL ps vs (fun _ => none) = some m₀)
    (h : wpSs C n X b m₀ σ (retQ Q)) : SemCall C (n + 1) f vs σ Q X := fun A fr ρ s c cs h1 h2 h3 h4 h5 h6 =>
  wpAny_call (fn_code OK BK RK F hb h A fr ρ s c cs h1 h2 h3 h4 h5 h6)

end
end Mine

end

section
open PySem
set_option linter.unusedVariables false
set_option maxRecDepth 100000
set_option tactic.hygienic false
namespace Mine

noncomputable def b_Geometry_init : List S := [
  .assign (.attr "self" "files") (.loc "files"),
  .assign (.attr "self" "ranks") (.loc "ranks"),
  .assign (.attr "self" "size") (.bin .Mult (.loc "files") (.loc "ranks")),
  .assign (.attr "self" "full") (.bin .Sub (.bin .LShift (.cint 1) (.bin .Mult (.loc "files") (.loc "ranks"))) (.cint 1)),
  .assign (.attr "self" "has_double") (.all [(.loc "has_double"), (.cmp .GtE (.loc "ranks") (.cint 5))]),
  .assign (.attr "self" "has_castling") (.loc "has_castling"),
  .assign (.attr "self" "file_masks") (.lst []),
  .assign (.attr "self" "rank_masks") (.lst []),
  .assign (.attr "self" "rays") (.lst []),
  .assign (.attr "self" "king") (.lst []),
  .assign (.attr "self" "knight") (.lst []),
  .assign (.attr "self" "pawn") (.lst [(.lst []), (.lst [])]),
  .assign (.attr "self" "castles") (.lst []),
  .assign (.attr "self" "rights_lost") (.lst [])]

noncomputable def b_is_growing : List S := [
  .ret (.any [(.cmp .Gt (.sub (.glob "STEP_RANKS") (.loc "d")) (.cint 0)), (.cmp .Eq (.loc "d") (.cint 1))])]

noncomputable def b_add_masks : List S := [
  .assign (.name "row") (.bin .Sub (.bin .LShift (.cint 1) (.attr "geo" "files")) (.cint 1)),
  .assign (.name "column") (.cint 0),
  .for (.name "r") (.bcall "range" [(.attr "geo" "ranks")]) [
    .append (.attr "geo" "rank_masks") (.bin .LShift (.loc "row") (.bin .Mult (.loc "r") (.attr "geo" "files"))),
    .aug "column" .BitOr (.bin .LShift (.cint 1) (.bin .Mult (.loc "r") (.attr "geo" "files")))],
  .for (.name "f") (.bcall "range" [(.attr "geo" "files")]) [
    .append (.attr "geo" "file_masks") (.bin .LShift (.loc "column") (.loc "f"))]]

noncomputable def b_inner_squares : List S := [
  .assign (.name "edge") (.cint 0),
  .ite (.cmp .Gt (.sub (.glob "STEP_FILES") (.loc "d")) (.cint 0)) [
    .aug "edge" .BitOr (.sub (.attr "geo" "file_masks") (.bin .Sub (.attr "geo" "files") (.cint 1)))] [],
  .ite (.cmp .Lt (.sub (.glob "STEP_FILES") (.loc "d")) (.cint 0)) [
    .aug "edge" .BitOr (.sub (.attr "geo" "file_masks") (.cint 0))] [],
  .ite (.cmp .Gt (.sub (.glob "STEP_RANKS") (.loc "d")) (.cint 0)) [
    .aug "edge" .BitOr (.sub (.attr "geo" "rank_masks") (.bin .Sub (.attr "geo" "ranks") (.cint 1)))] [],
  .ite (.cmp .Lt (.sub (.glob "STEP_RANKS") (.loc "d")) (.cint 0)) [
    .aug "edge" .BitOr (.sub (.attr "geo" "rank_masks") (.cint 0))] [],
  .ret (.bin .BitAnd (.attr "geo" "full") (.inv (.loc "edge")))]

noncomputable def b_add_rays : List S := [
  .assign (.attr "geo" "king") (.bin .Mult (.lst [(.cint 0)]) (.attr "geo" "size")),
  .for (.name "d") (.bcall "range" [(.cint 8)]) [
    .assign (.name "inner") (.call (.glob "inner_squares") [(.loc "geo"), (.loc "d")]),
    .assign (.name "delta") (.bin .Add (.bin .Mult (.sub (.glob "STEP_RANKS") (.loc "d")) (.attr "geo" "files")) (.sub (.glob "STEP_FILES") (.loc "d"))),
    .assign (.name "ray") (.bin .Mult (.lst [(.cint 0)]) (.attr "geo" "size")),
    .assign (.name "order") (.bcall "range" [(.attr "geo" "size")]),
    .ite (.call (.glob "is_growing") [(.loc "d")]) [
      .assign (.name "order") (.bcall "range" [(.bin .Sub (.attr "geo" "size") (.cint 1)), (.neg (.cint 1)), (.neg (.cint 1))])] [],
    .for (.name "square") (.loc "order") [
      .ite (.bin .BitAnd (.bin .RShift (.loc "inner") (.loc "square")) (.cint 1)) [
        .assign (.name "goal") (.bin .Add (.loc "square") (.loc "delta")),
        .assign (.sub (.loc "ray") (.loc "square")) (.bin .BitOr (.sub (.loc "ray") (.loc "goal")) (.bin .LShift (.cint 1) (.loc "goal"))),
        .augsub (.attr "geo" "king") (.loc "square") .BitOr (.bin .LShift (.cint 1) (.loc "goal"))] []],
    .append (.attr "geo" "rays") (.loc "ray")]]

noncomputable def b_add_pawns : List S := [
  .for (.name "square") (.bcall "range" [(.attr "geo" "size")]) [
    .append (.sub (.attr "geo" "pawn") (.cint 0)) (.bin .BitAnd (.sub (.attr "geo" "king") (.loc "square")) (.bin .BitOr (.sub (.sub (.attr "geo" "rays") (.cint 4)) (.loc "square")) (.sub (.sub (.attr "geo" "rays") (.cint 7)) (.loc "square")))),
    .append (.sub (.attr "geo" "pawn") (.cint 1)) (.bin .BitAnd (.sub (.attr "geo" "king") (.loc "square")) (.bin .BitOr (.sub (.sub (.attr "geo" "rays") (.cint 5)) (.loc "square")) (.sub (.sub (.attr "geo" "rays") (.cint 6)) (.loc "square"))))]]

noncomputable def b_add_knights : List S := [
  .assign (.name "files") (.attr "geo" "files"),
  .assign (.name "not_first") (.bin .BitAnd (.attr "geo" "full") (.inv (.sub (.attr "geo" "file_masks") (.cint 0)))),
  .assign (.name "not_last") (.bin .BitAnd (.attr "geo" "full") (.inv (.sub (.attr "geo" "file_masks") (.bin .Sub (.loc "files") (.cint 1))))),
  .assign (.name "not_first_two") (.bin .BitAnd (.loc "not_first") (.inv (.sub (.attr "geo" "file_masks") (.cint 1)))),
  .assign (.name "not_last_two") (.bin .BitAnd (.loc "not_last") (.inv (.sub (.attr "geo" "file_masks") (.bin .Sub (.loc "files") (.cint 2))))),
  .for (.name "square") (.bcall "range" [(.attr "geo" "size")]) [
    .assign (.name "b") (.bin .LShift (.cint 1) (.loc "square")),
    .assign (.name "near") (.bin .BitOr (.bin .BitAnd (.bin .LShift (.loc "b") (.cint 1)) (.loc "not_first")) (.bin .BitAnd (.bin .RShift (.loc "b") (.cint 1)) (.loc "not_last"))),
    .assign (.name "far") (.bin .BitOr (.bin .BitAnd (.bin .LShift (.loc "b") (.cint 2)) (.loc "not_first_two")) (.bin .BitAnd (.bin .RShift (.loc "b") (.cint 2)) (.loc "not_last_two"))),
    .assign (.name "found") (.bin .BitOr (.bin .BitOr (.bin .BitOr (.bin .LShift (.loc "near") (.bin .Mult (.cint 2) (.loc "files"))) (.bin .RShift (.loc "near") (.bin .Mult (.cint 2) (.loc "files")))) (.bin .LShift (.loc "far") (.loc "files"))) (.bin .RShift (.loc "far") (.loc "files"))),
    .append (.attr "geo" "knight") (.bin .BitAnd (.loc "found") (.attr "geo" "full"))]]

noncomputable def b_add_castles : List S := [
  .assign (.attr "geo" "rights_lost") (.bin .Mult (.lst [(.cint 0)]) (.attr "geo" "size")),
  .assign (.name "start") (.bin .FloorDiv (.attr "geo" "files") (.cint 2)),
  .for (.name "index") (.bcall "range" [(.cint 4)]) [
    .assign (.name "base") (.bin .Mult (.bin .Mult (.bin .RShift (.loc "index") (.cint 1)) (.bin .Sub (.attr "geo" "ranks") (.cint 1))) (.attr "geo" "files")),
    .assign (.name "corner") (.bin .Sub (.attr "geo" "files") (.cint 1)),
    .assign (.name "way") (.cint 1),
    .ite (.bin .BitAnd (.loc "index") (.cint 1)) [
      .assign (.name "corner") (.cint 0),
      .assign (.name "way") (.neg (.cint 1))] [],
    .assign (.name "goal") (.bin .Add (.loc "start") (.bin .Mult (.cint 2) (.loc "way"))),
    .ite (.all [(.attr "geo" "has_castling"), (.cmp .Gt (.bin .Mult (.bin .Sub (.loc "corner") (.loc "goal")) (.loc "way")) (.cint 0))]) [
      .append (.attr "geo" "castles") (.tup [(.bin .Add (.loc "base") (.loc "start")), (.bin .Add (.loc "base") (.loc "goal")), (.bin .Add (.loc "base") (.loc "corner")), (.bin .Sub (.bin .Add (.loc "base") (.loc "goal")) (.loc "way"))]),
      .augsub (.attr "geo" "rights_lost") (.bin .Add (.loc "base") (.loc "start")) .BitOr (.bin .LShift (.cint 1) (.loc "index")),
      .augsub (.attr "geo" "rights_lost") (.bin .Add (.loc "base") (.loc "corner")) .BitOr (.bin .LShift (.cint 1) (.loc "index"))] [
      .append (.attr "geo" "castles") .cnone]]]

noncomputable def b_make_geometry : List S := [
  .ite (.any [(.cmp .Lt (.loc "files") (.cint 2)), (.cmp .Gt (.loc "files") (.cint 8)), (.cmp .Lt (.loc "ranks") (.cint 3)), (.cmp .Gt (.loc "ranks") (.cint 8))]) [
    .raise "ChessError" "no board has that many files and ranks"] [],
  .assign (.name "geo") (.call (.glob "Geometry") [(.loc "files"), (.loc "ranks"), (.loc "has_double"), (.loc "has_castling")]),
  .expr (.call (.glob "add_masks") [(.loc "geo")]),
  .expr (.call (.glob "add_rays") [(.loc "geo")]),
  .expr (.call (.glob "add_pawns") [(.loc "geo")]),
  .expr (.call (.glob "add_knights") [(.loc "geo")]),
  .expr (.call (.glob "add_castles") [(.loc "geo")]),
  .ret (.loc "geo")]

noncomputable def b_ray_attacks : List S := [
  .assign (.name "ray") (.sub (.sub (.attr "geo" "rays") (.loc "d")) (.loc "square")),
  .assign (.name "stop") (.bin .BitAnd (.loc "ray") (.loc "occupied")),
  .ite (.cmp .Eq (.loc "stop") (.cint 0)) [
    .ret (.loc "ray")] [],
  .ite (.call (.glob "is_growing") [(.loc "d")]) [
    .ret (.bin .BitAnd (.loc "ray") (.bin .BitXor (.loc "stop") (.bin .Sub (.loc "stop") (.cint 1))))] [],
  .assign (.name "behind") (.bin .RShift (.loc "stop") (.cint 1)),
  .aug "behind" .BitOr (.bin .RShift (.loc "behind") (.cint 1)),
  .aug "behind" .BitOr (.bin .RShift (.loc "behind") (.cint 2)),
  .aug "behind" .BitOr (.bin .RShift (.loc "behind") (.cint 4)),
  .aug "behind" .BitOr (.bin .RShift (.loc "behind") (.cint 8)),
  .aug "behind" .BitOr (.bin .RShift (.loc "behind") (.cint 16)),
  .aug "behind" .BitOr (.bin .RShift (.loc "behind") (.cint 32)),
  .ret (.bin .BitAnd (.loc "ray") (.inv (.loc "behind")))]

noncomputable def b_rook_attacks : List S := [
  .assign (.name "found") (.cint 0),
  .for (.name "d") (.bcall "range" [(.cint 4)]) [
    .aug "found" .BitOr (.call (.glob "ray_attacks") [(.loc "geo"), (.loc "d"), (.loc "square"), (.loc "occupied")])],
  .ret (.loc "found")]

noncomputable def b_bishop_attacks : List S := [
  .assign (.name "found") (.cint 0),
  .for (.name "d") (.bcall "range" [(.cint 4), (.cint 8)]) [
    .aug "found" .BitOr (.call (.glob "ray_attacks") [(.loc "geo"), (.loc "d"), (.loc "square"), (.loc "occupied")])],
  .ret (.loc "found")]

noncomputable def b_queen_attacks : List S := [
  .ret (.bin .BitOr (.call (.glob "rook_attacks") [(.loc "geo"), (.loc "square"), (.loc "occupied")]) (.call (.glob "bishop_attacks") [(.loc "geo"), (.loc "square"), (.loc "occupied")]))]

noncomputable def b_slider_attacks : List S := [
  .ite (.cmp .Eq (.loc "kind") (.glob "BISHOP")) [
    .ret (.call (.glob "bishop_attacks") [(.loc "geo"), (.loc "square"), (.loc "occupied")])] [],
  .ite (.cmp .Eq (.loc "kind") (.glob "ROOK")) [
    .ret (.call (.glob "rook_attacks") [(.loc "geo"), (.loc "square"), (.loc "occupied")])] [],
  .ite (.cmp .Eq (.loc "kind") (.glob "QUEEN")) [
    .ret (.call (.glob "queen_attacks") [(.loc "geo"), (.loc "square"), (.loc "occupied")])] [],
  .ret (.cint 0)]

noncomputable def b_piece_attacks : List S := [
  .ite (.cmp .Eq (.loc "kind") (.glob "PAWN")) [
    .ret (.sub (.sub (.attr "geo" "pawn") (.loc "side")) (.loc "square"))] [],
  .ite (.cmp .Eq (.loc "kind") (.glob "KNIGHT")) [
    .ret (.sub (.attr "geo" "knight") (.loc "square"))] [],
  .ite (.cmp .Eq (.loc "kind") (.glob "KING")) [
    .ret (.sub (.attr "geo" "king") (.loc "square"))] [],
  .ret (.call (.glob "slider_attacks") [(.loc "geo"), (.loc "kind"), (.loc "square"), (.loc "occupied")])]

noncomputable def b_solve : List S := [
  .assign (.name "values") (.bin .Mult (.lst [(.glob "NO_MATE")]) (.bcall "len" [(.loc "after")])),
  .assign (.name "left") (.lst []),
  .assign (.name "before") (.comp (.lst []) "n" (.loc "after") []),
  .assign (.name "queue") (.lst []),
  .for (.name "n") (.bcall "range" [(.bcall "len" [(.loc "after")])]) [
    .append (.loc "left") (.bcall "len" [(.sub (.loc "after") (.loc "n"))]),
    .for (.name "m") (.sub (.loc "after") (.loc "n")) [
      .ite (.cmp .NotEq (.loc "m") (.glob "OUTSIDE")) [
        .append (.sub (.loc "before") (.loc "m")) (.loc "n")] []],
    .ite (.sub (.loc "lost") (.loc "n")) [
      .assign (.sub (.loc "values") (.loc "n")) (.cint 0),
      .append (.loc "queue") (.loc "n")] []],
  .assign (.name "at") (.cint 0),
  .while (.cmp .Lt (.loc "at") (.bcall "len" [(.loc "queue")])) [
    .assign (.name "m") (.sub (.loc "queue") (.loc "at")),
    .aug "at" .Add (.cint 1),
    .for (.name "n") (.sub (.loc "before") (.loc "m")) [
      .augsub (.loc "left") (.loc "n") .Sub (.cint 1),
      .ite (.all [(.cmp .Eq (.sub (.loc "values") (.loc "n")) (.glob "NO_MATE")), (.any [(.cmp .Eq (.sub (.loc "sides") (.loc "n")) (.glob "STRONG_MOVES")), (.cmp .Eq (.sub (.loc "left") (.loc "n")) (.cint 0))])]) [
        .assign (.sub (.loc "values") (.loc "n")) (.bin .Add (.sub (.loc "values") (.loc "m")) (.cint 1)),
        .append (.loc "queue") (.loc "n")] []]],
  .ret (.loc "values")]

noncomputable def b_index_of : List S := [
  .ret (.bin .Add (.bin .Mult (.bin .Add (.bin .Mult (.bin .Add (.bin .Mult (.loc "side") (.loc "size")) (.loc "strong")) (.loc "size")) (.loc "piece")) (.loc "size")) (.loc "weak"))]

noncomputable def b_parts_of : List S := [
  .ret (.tup [(.bin .FloorDiv (.loc "n") (.bin .Mult (.bin .Mult (.loc "size") (.loc "size")) (.loc "size"))), (.bin .Mod (.bin .FloorDiv (.loc "n") (.bin .Mult (.loc "size") (.loc "size"))) (.loc "size")), (.bin .Mod (.bin .FloorDiv (.loc "n") (.loc "size")) (.loc "size")), (.bin .Mod (.loc "n") (.loc "size"))])]

noncomputable def b_mark_places : List S := [
  .assign (.name "size") (.attr "geo" "size"),
  .assign (.name "places") (.lst []),
  .for (.name "strong") (.bcall "range" [(.loc "size")]) [
    .for (.name "piece") (.bcall "range" [(.loc "size")]) [
      .assign (.name "free") (.bin .BitAnd (.attr "geo" "full") (.inv (.bin .BitOr (.bin .BitOr (.sub (.attr "geo" "king") (.loc "strong")) (.bin .LShift (.cint 1) (.loc "strong"))) (.bin .LShift (.cint 1) (.loc "piece"))))),
      .ite (.any [(.cmp .Eq (.bin .BitAnd (.bin .RShift (.loc "zone") (.loc "strong")) (.cint 1)) (.cint 0)), (.cmp .Eq (.loc "piece") (.loc "strong")), (.cmp .Eq (.loc "free") (.cint 0))]) [
        .cont] [],
      .assign (.name "checked") (.call (.glob "piece_attacks") [(.loc "geo"), (.glob "WHITE"), (.loc "kind"), (.loc "piece"), (.bin .LShift (.cint 1) (.loc "strong"))]),
      .for (.name "weak") (.bcall "range" [(.loc "size")]) [
        .ite (.bin .BitAnd (.bin .RShift (.loc "free") (.loc "weak")) (.cint 1)) [
          .append (.loc "places") (.call (.glob "index_of") [(.loc "size"), (.glob "WEAK_MOVES"), (.loc "strong"), (.loc "piece"), (.loc "weak")]),
          .ite (.cmp .Eq (.bin .BitAnd (.bin .RShift (.loc "checked") (.loc "weak")) (.cint 1)) (.cint 0)) [
            .append (.loc "places") (.call (.glob "index_of") [(.loc "size"), (.glob "STRONG_MOVES"), (.loc "strong"), (.loc "piece"), (.loc "weak")])] []] []]]],
  .for (.name "n") (.loc "places") [
    .assign (.sub (.loc "table") (.loc "n")) (.glob "NO_MATE")],
  .ret (.loc "places")]

noncomputable def b_weak_moves : List S := [
  .assign (.name "out") (.lst []),
  .assign (.name "steps") (.sub (.attr "geo" "king") (.loc "weak")),
  .for (.name "goal") (.bcall "range" [(.attr "geo" "size")]) [
    .ite (.cmp .Eq (.bin .BitAnd (.bin .RShift (.loc "steps") (.loc "goal")) (.cint 1)) (.cint 0)) [
      .cont] [],
    .ite (.cmp .Eq (.loc "goal") (.loc "piece")) [
      .ite (.cmp .Eq (.bin .BitAnd (.bin .RShift (.sub (.attr "geo" "king") (.loc "strong")) (.loc "piece")) (.cint 1)) (.cint 0)) [
        .append (.loc "out") (.tup [(.loc "weak"), (.loc "goal"), (.glob "OUTSIDE")])] []] [
      .assign (.name "place") (.call (.glob "index_of") [(.attr "geo" "size"), (.glob "STRONG_MOVES"), (.loc "strong"), (.loc "piece"), (.loc "goal")]),
      .ite (.cmp .NotEq (.sub (.loc "table") (.loc "place")) (.glob "NOT_A_PLACE")) [
        .append (.loc "out") (.tup [(.loc "weak"), (.loc "goal"), (.loc "place")])] []]],
  .ret (.loc "out")]

noncomputable def b_strong_moves : List S := [
  .assign (.name "out") (.lst []),
  .assign (.name "steps") (.sub (.attr "geo" "king") (.loc "strong")),
  .assign (.name "slides") (.call (.glob "piece_attacks") [(.loc "geo"), (.glob "WHITE"), (.loc "kind"), (.loc "piece"), (.bin .BitOr (.bin .LShift (.cint 1) (.loc "strong")) (.bin .LShift (.cint 1) (.loc "weak")))]),
  .for (.name "goal") (.bcall "range" [(.attr "geo" "size")]) [
    .ite (.bin .BitAnd (.bin .RShift (.loc "steps") (.loc "goal")) (.cint 1)) [
      .assign (.name "place") (.call (.glob "index_of") [(.attr "geo" "size"), (.glob "WEAK_MOVES"), (.loc "goal"), (.loc "piece"), (.loc "weak")]),
      .ite (.cmp .NotEq (.sub (.loc "table") (.loc "place")) (.glob "NOT_A_PLACE")) [
        .append (.loc "out") (.tup [(.loc "strong"), (.loc "goal"), (.loc "place")])] []] []],
  .for (.name "goal") (.bcall "range" [(.attr "geo" "size")]) [
    .ite (.bin .BitAnd (.bin .RShift (.loc "slides") (.loc "goal")) (.cint 1)) [
      .assign (.name "place") (.call (.glob "index_of") [(.attr "geo" "size"), (.glob "WEAK_MOVES"), (.loc "strong"), (.loc "goal"), (.loc "weak")]),
      .ite (.cmp .NotEq (.sub (.loc "table") (.loc "place")) (.glob "NOT_A_PLACE")) [
        .append (.loc "out") (.tup [(.loc "piece"), (.loc "goal"), (.loc "place")])] []] []],
  .ret (.loc "out")]

noncomputable def b_moves_at : List S := [
  .ite (.cmp .Eq (.loc "side") (.glob "WEAK_MOVES")) [
    .ret (.call (.glob "weak_moves") [(.loc "geo"), (.loc "table"), (.loc "strong"), (.loc "piece"), (.loc "weak")])] [],
  .ret (.call (.glob "strong_moves") [(.loc "geo"), (.loc "table"), (.loc "kind"), (.loc "strong"), (.loc "piece"), (.loc "weak")])]

noncomputable def b_build_zone : List S := [
  .ite (.any [(.cmp .Lt (.loc "kind") (.glob "KNIGHT")), (.cmp .Gt (.loc "kind") (.glob "QUEEN"))]) [
    .raise "BadTable" "no table for this kind"] [],
  .assign (.name "half") (.bin .Mult (.bin .Mult (.attr "geo" "size") (.attr "geo" "size")) (.attr "geo" "size")),
  .assign (.name "table") (.bin .Mult (.lst [(.glob "NOT_A_PLACE")]) (.bin .Mult (.cint 2) (.loc "half"))),
  .assign (.name "places") (.call (.glob "mark_places") [(.loc "geo"), (.loc "kind"), (.loc "zone"), (.loc "table")]),
  .assign (.name "where") (.dct (.glob "OUTSIDE") (.glob "OUTSIDE")),
  .for (.name "k") (.bcall "range" [(.bcall "len" [(.loc "places")])]) [
    .assign (.sub (.loc "where") (.sub (.loc "places") (.loc "k"))) (.loc "k")],
  .assign (.name "sides") (.lst []),
  .assign (.name "after") (.lst []),
  .assign (.name "lost") (.lst []),
  .for (.name "n") (.loc "places") [
    .assign (.tup ["side", "strong", "piece", "weak"]) (.call (.glob "parts_of") [(.attr "geo" "size"), (.loc "n")]),
    .assign (.name "row") (.lst []),
    .for (.tup ["origin", "goal", "place"]) (.call (.glob "moves_at") [(.loc "geo"), (.loc "table"), (.loc "kind"), (.loc "side"), (.loc "strong"), (.loc "piece"), (.loc "weak")]) [
      .append (.loc "row") (.sub (.loc "where") (.loc "place"))],
    .append (.loc "sides") (.loc "side"),
    .append (.loc "after") (.loc "row"),
    .append (.loc "lost") (.all [(.cmp .Eq (.loc "side") (.glob "WEAK_MOVES")), (.cmp .Eq (.loc "row") (.lst [])), (.cmp .Eq (.sub (.loc "table") (.bin .Sub (.loc "n") (.loc "half"))) (.glob "NOT_A_PLACE"))])],
  .assign (.name "values") (.call (.glob "solve") [(.loc "sides"), (.loc "after"), (.loc "lost")]),
  .for (.name "k") (.bcall "range" [(.bcall "len" [(.loc "places")])]) [
    .assign (.sub (.loc "table") (.sub (.loc "places") (.loc "k"))) (.sub (.loc "values") (.loc "k"))],
  .ret (.loc "table")]

noncomputable def b_probe : List S := [
  .assign (.name "size") (.attr "geo" "size"),
  .ite (.any [(.cmp .Lt (.loc "kind") (.glob "KNIGHT")), (.cmp .Gt (.loc "kind") (.glob "QUEEN"))]) [
    .raise "BadTable" "no table for this kind"] [],
  .ite (.cmp .NotEq (.bcall "len" [(.loc "table")]) (.bin .Mult (.bin .Mult (.bin .Mult (.cint 2) (.loc "size")) (.loc "size")) (.loc "size"))) [
    .raise "BadTable" "the table is of another shape"] [],
  .ite (.all [(.cmp .NotEq (.loc "side") (.glob "STRONG_MOVES")), (.cmp .NotEq (.loc "side") (.glob "WEAK_MOVES"))]) [
    .raise "BadTable" "no such side"] [],
  .for (.name "square") (.tup [(.loc "strong"), (.loc "piece"), (.loc "weak")]) [
    .ite (.any [(.cmp .Lt (.loc "square") (.cint 0)), (.cmp .GtE (.loc "square") (.loc "size"))]) [
      .raise "BadTable" "no such square"] []],
  .ret (.sub (.loc "table") (.call (.glob "index_of") [(.loc "size"), (.loc "side"), (.loc "strong"), (.loc "piece"), (.loc "weak")]))]

noncomputable def b_best_move : List S := [
  .assign (.name "best") (.tup [(.neg (.cint 1)), (.neg (.cint 1))]),
  .ite (.cmp .Eq (.call (.glob "probe") [(.loc "geo"), (.loc "table"), (.loc "kind"), (.loc "side"), (.loc "strong"), (.loc "piece"), (.loc "weak")]) (.glob "NOT_A_PLACE")) [
    .ret (.loc "best")] [],
  .assign (.name "top") (.cint 0),
  .for (.tup ["origin", "goal", "place"]) (.call (.glob "moves_at") [(.loc "geo"), (.loc "table"), (.loc "kind"), (.loc "side"), (.loc "strong"), (.loc "piece"), (.loc "weak")]) [
    .assign (.name "worth") (.bcall "len" [(.loc "table")]),
    .ite (.all [(.cmp .NotEq (.loc "place") (.glob "OUTSIDE")), (.cmp .NotEq (.sub (.loc "table") (.loc "place")) (.glob "NO_MATE"))]) [
      .assign (.name "worth") (.sub (.loc "table") (.loc "place"))] [],
    .ite (.cmp .Eq (.loc "side") (.glob "STRONG_MOVES")) [
      .assign (.name "worth") (.neg (.loc "worth"))] [],
    .ite (.any [(.cmp .Eq (.loc "best") (.tup [(.neg (.cint 1)), (.neg (.cint 1))])), (.cmp .Gt (.loc "worth") (.loc "top"))]) [
      .assign (.name "best") (.tup [(.loc "origin"), (.loc "goal")]),
      .assign (.name "top") (.loc "worth")] []],
  .ret (.loc "best")]

noncomputable def b_mate_line : List S := [
  .assign (.name "out") (.lst []),
  .assign (.name "plies") (.call (.glob "probe") [(.loc "geo"), (.loc "table"), (.loc "kind"), (.loc "side"), (.loc "strong"), (.loc "piece"), (.loc "weak")]),
  .while (.cmp .Gt (.loc "plies") (.cint 0)) [
    .assign (.tup ["origin", "goal"]) (.call (.glob "best_move") [(.loc "geo"), (.loc "table"), (.loc "kind"), (.loc "side"), (.loc "strong"), (.loc "piece"), (.loc "weak")]),
    .append (.loc "out") (.tup [(.loc "origin"), (.loc "goal")]),
    .ite (.cmp .Eq (.loc "origin") (.loc "strong")) [
      .assign (.name "strong") (.loc "goal")] [
      .ite (.cmp .Eq (.loc "origin") (.loc "piece")) [
        .assign (.name "piece") (.loc "goal")] [
        .assign (.name "weak") (.loc "goal")]],
    .assign (.name "side") (.bin .Sub (.cint 1) (.loc "side")),
    .aug "plies" .Sub (.cint 1)],
  .ret (.loc "out")]

noncomputable def b__law_number : List S := [
  .ret (.ite (.cmp .Lt (.loc "i") (.bcall "len" [(.loc "script")])) (.sub (.loc "script") (.loc "i")) (.bin .Mult (.bin .Mult (.cint 5) (.loc "i")) (.bin .Sub (.loc "i") (.cint 1))))]

noncomputable def b__law_apart : List S := [
  .ret (.tup [(.bcall "abs" [(.bin .Sub (.bin .Mod (.loc "a") (.loc "files")) (.bin .Mod (.loc "b") (.loc "files")))]), (.bcall "abs" [(.bin .Sub (.bin .FloorDiv (.loc "a") (.loc "files")) (.bin .FloorDiv (.loc "b") (.loc "files")))])])]

noncomputable def b__law_touch : List S := [
  .ret (.cmp .Eq (.bcall "max" [(.call (.glob "_law_apart") [(.loc "files"), (.loc "a"), (.loc "b")])]) (.cint 1))]

noncomputable def b__law_strikes : List S := [
  .assign (.tup ["across", "up"]) (.call (.glob "_law_apart") [(.loc "files"), (.loc "origin"), (.loc "goal")]),
  .ite (.cmp .Eq (.loc "kind") (.cint 2)) [
    .ret (.cmp .Eq (.bcall "sorted" [(.lst [(.loc "across"), (.loc "up")])]) (.lst [(.cint 1), (.cint 2)]))] [],
  .assign (.name "is_straight") (.cmp .NotEq (.cmp .Eq (.loc "across") (.cint 0)) (.cmp .Eq (.loc "up") (.cint 0))),
  .assign (.name "is_aslant") (.all [(.cmp .Eq (.loc "across") (.loc "up")), (.cmp .Gt (.loc "across") (.cint 0))]),
  .ite (.not (.any [(.all [(.loc "is_straight"), (.cmp .In (.loc "kind") (.tup [(.cint 4), (.cint 5)]))]), (.all [(.loc "is_aslant"), (.cmp .In (.loc "kind") (.tup [(.cint 3), (.cint 5)]))])])) [
    .ret (.cbool false)] [],
  .assign (.name "length") (.bcall "max" [(.loc "across"), (.loc "up")]),
  .for (.name "far") (.bcall "range" [(.cint 1), (.loc "length")]) [
    .assign (.name "x") (.bin .Add (.bin .Mod (.loc "origin") (.loc "files")) (.bin .FloorDiv (.bin .Mult (.bin .Sub (.bin .Mod (.loc "goal") (.loc "files")) (.bin .Mod (.loc "origin") (.loc "files"))) (.loc "far")) (.loc "length"))),
    .assign (.name "y") (.bin .Add (.bin .FloorDiv (.loc "origin") (.loc "files")) (.bin .FloorDiv (.bin .Mult (.bin .Sub (.bin .FloorDiv (.loc "goal") (.loc "files")) (.bin .FloorDiv (.loc "origin") (.loc "files"))) (.loc "far")) (.loc "length"))),
    .ite (.cmp .In (.bin .Add (.bin .Mult (.loc "y") (.loc "files")) (.loc "x")) (.loc "wall")) [
      .ret (.cbool false)] []],
  .ret (.cbool true)]

noncomputable def b__law_stands : List S := [
  .assign (.tup ["files", "size", "kind", "zone"]) (.loc "board"),
  .assign (.tup ["side", "king", "man", "bare"]) (.loc "place"),
  .ite (.any [(.cmp .NotIn (.loc "king") (.loc "zone")), (.cmp .In (.loc "man") (.tup [(.loc "king"), (.loc "bare")])), (.cmp .Eq (.loc "king") (.loc "bare")), (.call (.glob "_law_touch") [(.loc "files"), (.loc "king"), (.loc "bare")])]) [
    .ret (.cbool false)] [],
  .ret (.any [(.cmp .Eq (.loc "side") (.cint 1)), (.not (.call (.glob "_law_strikes") [(.loc "files"), (.loc "kind"), (.loc "man"), (.loc "bare"), (.lst [(.loc "king")])]))])]

noncomputable def b__law_ways : List S := [
  .assign (.tup ["files", "size", "kind", "zone"]) (.loc "board"),
  .assign (.tup ["side", "king", "man", "bare"]) (.loc "place"),
  .assign (.name "found") (.lst []),
  .for (.name "goal") (.bcall "range" [(.loc "size")]) [
    .ite (.cmp .Eq (.loc "side") (.cint 1)) [
      .ite (.call (.glob "_law_touch") [(.loc "files"), (.loc "bare"), (.loc "goal")]) [
        .ite (.cmp .Eq (.loc "goal") (.loc "man")) [
          .ite (.not (.call (.glob "_law_touch") [(.loc "files"), (.loc "king"), (.loc "man")])) [
            .append (.loc "found") (.tup [(.loc "bare"), (.loc "goal"), .cnone])] []] [
          .ite (.call (.glob "_law_stands") [(.loc "board"), (.tup [(.cint 0), (.loc "king"), (.loc "man"), (.loc "goal")])]) [
            .append (.loc "found") (.tup [(.loc "bare"), (.loc "goal"), (.tup [(.cint 0), (.loc "king"), (.loc "man"), (.loc "goal")])])] []]] [],
      .cont] [],
    .ite (.all [(.call (.glob "_law_touch") [(.loc "files"), (.loc "king"), (.loc "goal")]), (.call (.glob "_law_stands") [(.loc "board"), (.tup [(.cint 1), (.loc "goal"), (.loc "man"), (.loc "bare")])])]) [
      .append (.loc "found") (.tup [(.loc "king"), (.loc "goal"), (.tup [(.cint 1), (.loc "goal"), (.loc "man"), (.loc "bare")])])] [],
    .ite (.all [(.call (.glob "_law_strikes") [(.loc "files"), (.loc "kind"), (.loc "man"), (.loc "goal"), (.lst [(.loc "king"), (.loc "bare")])]), (.call (.glob "_law_stands") [(.loc "board"), (.tup [(.cint 1), (.loc "king"), (.loc "goal"), (.loc "bare")])])]) [
      .append (.loc "found") (.tup [(.loc "man"), (.loc "goal"), (.tup [(.cint 1), (.loc "king"), (.loc "goal"), (.loc "bare")])])] []],
  .ret (.loc "found")]

noncomputable def b__law_word : List S := [
  .ite (.cmp .Is (.loc "place") .cnone) [
    .ret (.neg (.cint 1))] [],
  .ret (.call (.glob "probe") [(.loc "geo"), (.loc "table"), (.sub (.loc "board") (.cint 2)), (.sub (.loc "place") (.cint 0)), (.sub (.loc "place") (.cint 1)), (.sub (.loc "place") (.cint 2)), (.sub (.loc "place") (.cint 3))])]

noncomputable def b__law_due : List S := [
  .assign (.name "won") (.comp (.loc "word") "word" (.loc "words") [(.cmp .GtE (.loc "word") (.cint 0))]),
  .ite (.cmp .Eq (.sub (.loc "place") (.cint 0)) (.cint 0)) [
    .ret (.ite (.cmp .NotEq (.loc "won") (.lst [])) (.bin .Add (.cint 1) (.bcall "min" [(.loc "won")])) (.neg (.cint 1)))] [],
  .ite (.cmp .Eq (.loc "words") (.lst [])) [
    .ret (.ite (.call (.glob "_law_strikes") [(.sub (.loc "board") (.cint 0)), (.sub (.loc "board") (.cint 2)), (.sub (.loc "place") (.cint 2)), (.sub (.loc "place") (.cint 3)), (.lst [(.sub (.loc "place") (.cint 1))])]) (.cint 0) (.neg (.cint 1)))] [],
  .ret (.ite (.cmp .Eq (.bcall "len" [(.loc "won")]) (.bcall "len" [(.loc "words")])) (.bin .Add (.cint 1) (.bcall "max" [(.loc "won")])) (.neg (.cint 1)))]

noncomputable def b__law_right : List S := [
  .assign (.tup ["side", "king", "man", "bare"]) (.loc "place"),
  .assign (.name "word") (.call (.glob "_law_word") [(.loc "geo"), (.loc "board"), (.loc "table"), (.loc "place")]),
  .assign (.name "heard") (.call (.glob "best_move") [(.loc "geo"), (.loc "table"), (.sub (.loc "board") (.cint 2)), (.loc "side"), (.loc "king"), (.loc "man"), (.loc "bare")]),
  .ite (.not (.call (.glob "_law_stands") [(.loc "board"), (.loc "place")])) [
    .ret (.all [(.cmp .Eq (.loc "word") (.neg (.cint 2))), (.cmp .Eq (.loc "heard") (.tup [(.neg (.cint 1)), (.neg (.cint 1))]))])] [],
  .assign (.name "ways") (.call (.glob "_law_ways") [(.loc "board"), (.loc "place")]),
  .assign (.name "words") (.comp (.call (.glob "_law_word") [(.loc "geo"), (.loc "board"), (.loc "table"), (.sub (.loc "way") (.cint 2))]) "way" (.loc "ways") []),
  .ite (.cmp .NotEq (.loc "word") (.call (.glob "_law_due") [(.loc "board"), (.loc "place"), (.loc "words")])) [
    .ret (.cbool false)] [],
  .ite (.cmp .Eq (.loc "ways") (.lst [])) [
    .ret (.cmp .Eq (.loc "heard") (.tup [(.neg (.cint 1)), (.neg (.cint 1))]))] [],
  .assign (.name "chosen") (.comp (.sub (.loc "words") (.loc "i")) "i" (.bcall "range" [(.bcall "len" [(.loc "ways")])]) [(.cmp .Eq (.upto (.sub (.loc "ways") (.loc "i")) 2) (.loc "heard"))]),
  .ite (.cmp .NotEq (.bcall "len" [(.loc "chosen")]) (.cint 1)) [
    .ret (.cbool false)] [],
  .ite (.cmp .Gt (.loc "word") (.cint 0)) [
    .ret (.cmp .Eq (.sub (.loc "chosen") (.cint 0)) (.bin .Sub (.loc "word") (.cint 1)))] [],
  .ret (.any [(.cmp .Eq (.loc "side") (.cint 0)), (.cmp .Eq (.sub (.loc "chosen") (.cint 0)) (.neg (.cint 1)))])]

noncomputable def b__law_line_right : List S := [
  .assign (.name "word") (.call (.glob "_law_word") [(.loc "geo"), (.loc "board"), (.loc "table"), (.loc "place")]),
  .assign (.name "played") (.call (.glob "mate_line") [(.loc "geo"), (.loc "table"), (.sub (.loc "board") (.cint 2)), (.sub (.loc "place") (.cint 0)), (.sub (.loc "place") (.cint 1)), (.sub (.loc "place") (.cint 2)), (.sub (.loc "place") (.cint 3))]),
  .ite (.cmp .NotEq (.bcall "len" [(.loc "played")]) (.bcall "max" [(.loc "word"), (.cint 0)])) [
    .ret (.cbool false)] [],
  .for (.name "turn") (.loc "played") [
    .assign (.name "behind") (.comp (.sub (.loc "way") (.cint 2)) "way" (.call (.glob "_law_ways") [(.loc "board"), (.loc "place")]) [(.cmp .Eq (.upto (.loc "way") 2) (.loc "turn"))]),
    .ite (.any [(.cmp .NotEq (.bcall "len" [(.loc "behind")]) (.cint 1)), (.cmp .Is (.sub (.loc "behind") (.cint 0)) .cnone), (.cmp .NotEq (.call (.glob "_law_word") [(.loc "geo"), (.loc "board"), (.loc "table"), (.sub (.loc "behind") (.cint 0))]) (.bin .Sub (.loc "word") (.cint 1)))]) [
      .ret (.cbool false)] [],
    .assign (.tup ["place", "word"]) (.tup [(.sub (.loc "behind") (.cint 0)), (.bin .Sub (.loc "word") (.cint 1))]),
    .ite (.not (.call (.glob "_law_right") [(.loc "geo"), (.loc "board"), (.loc "table"), (.loc "place")])) [
      .ret (.cbool false)] []],
  .ite (.cmp .Eq (.loc "played") (.lst [])) [
    .ret (.cbool true)] [],
  .ret (.all [(.cmp .Eq (.sub (.loc "place") (.cint 0)) (.cint 1)), (.cmp .Eq (.call (.glob "_law_ways") [(.loc "board"), (.loc "place")]) (.lst [])), (.not (.call (.glob "_law_stands") [(.loc "board"), (.tup [(.cint 0), (.sub (.loc "place") (.cint 1)), (.sub (.loc "place") (.cint 2)), (.sub (.loc "place") (.cint 3))])]))])]

noncomputable def b__law_place : List S := [
  .ret (.tup [(.bin .Mod (.bin .FloorDiv (.loc "n") (.bin .Pow (.loc "size") (.cint 3))) (.cint 2)), (.bin .Mod (.bin .FloorDiv (.loc "n") (.bin .Pow (.loc "size") (.cint 2))) (.loc "size")), (.bin .Mod (.bin .FloorDiv (.loc "n") (.loc "size")) (.loc "size")), (.bin .Mod (.loc "n") (.loc "size"))])]

noncomputable def b__law_refused : List S := [
  .assign (.tup ["size", "kind"]) (.tup [(.sub (.loc "board") (.cint 1)), (.sub (.loc "board") (.cint 2))]),
  .assign (.name "asked") (.sub (.lst [(.tup [(.loc "table"), (.cint 1), (.cint 0), (.cint 0), (.cint 1), (.bin .Sub (.loc "size") (.cint 1))]), (.tup [(.loc "table"), (.cint 6), (.cint 1), (.cint 0), (.cint 1), (.bin .Sub (.loc "size") (.cint 1))]), (.tup [(.loc "table"), (.loc "kind"), (.cint 2), (.cint 0), (.cint 1), (.cint 2)]), (.tup [(.loc "table"), (.loc "kind"), (.neg (.cint 1)), (.cint 0), (.cint 1), (.cint 2)]), (.tup [(.loc "table"), (.loc "kind"), (.cint 0), (.loc "size"), (.cint 1), (.cint 2)]), (.tup [(.loc "table"), (.loc "kind"), (.cint 1), (.cint 0), (.neg (.cint 1)), (.cint 2)]), (.tup [(.loc "table"), (.loc "kind"), (.cint 0), (.cint 0), (.cint 1), (.bin .Add (.loc "size") (.bin .Mod (.loc "n") (.cint 3)))]), (.tup [(.bin .Add (.loc "table") (.lst [(.cint 0)])), (.loc "kind"), (.cint 0), (.cint 0), (.cint 1), (.bin .Sub (.loc "size") (.cint 1))])]) (.bin .Mod (.loc "n") (.cint 8))),
  .for (.name "work") (.tup [(.glob "probe"), (.glob "best_move"), (.glob "mate_line")]) [
    .try (.loc "work") [(.loc "geo"), (.sub (.loc "asked") (.cint 0)), (.sub (.loc "asked") (.cint 1)), (.sub (.loc "asked") (.cint 2)), (.sub (.loc "asked") (.cint 3)), (.sub (.loc "asked") (.cint 4)), (.sub (.loc "asked") (.cint 5))] "BadTable"],
  .ret (.cbool true)]

noncomputable def b_law : List S := [
  .assign (.tup ["files", "ranks"]) (.sub (.lst [(.tup [(.cint 2), (.cint 3)]), (.tup [(.cint 3), (.cint 3)]), (.tup [(.cint 2), (.cint 4)]), (.tup [(.cint 3), (.cint 4)])]) (.bin .Mod (.call (.glob "_law_number") [(.loc "script"), (.cint 0)]) (.cint 4))),
  .assign (.tup ["size", "kind"]) (.tup [(.bin .Mult (.loc "files") (.loc "ranks")), (.sub (.lst [(.cint 5), (.cint 4), (.cint 2), (.cint 3)]) (.bin .Mod (.call (.glob "_law_number") [(.loc "script"), (.cint 1)]) (.cint 4)))]),
  .assign (.name "zone") (.comp (.bin .Mod (.call (.glob "_law_number") [(.loc "script"), (.loc "i")]) (.loc "size")) "i" (.tup [(.cint 2), (.cint 3), (.cint 4)]) []),
  .ite (.cmp .Eq (.loc "size") (.cint 6)) [
    .assign (.name "zone") (.bcall "list" [(.bcall "range" [(.loc "size")])])] [],
  .ite (.cmp .Eq (.loc "size") (.cint 12)) [
    .assign (.name "zone") (.upto (.loc "zone") 1)] [],
  .assign (.name "geo") (.call (.glob "make_geometry") [(.loc "files"), (.loc "ranks"), (.cbool false), (.cbool false)]),
  .assign (.name "table") (.call (.glob "build_zone") [(.loc "geo"), (.loc "kind"), (.bcall "sum" [(.comp (.bin .Pow (.cint 2) (.loc "square")) "square" (.bcall "range" [(.loc "size")]) [(.cmp .In (.loc "square") (.loc "zone"))])])]),
  .assign (.name "board") (.tup [(.loc "files"), (.loc "size"), (.loc "kind"), (.loc "zone")]),
  .for (.name "i") (.tup [(.cint 5), (.cint 6), (.cint 7)]) [
    .assign (.name "place") (.call (.glob "_law_place") [(.loc "size"), (.bin .Mod (.call (.glob "_law_number") [(.loc "script"), (.loc "i")]) (.bcall "len" [(.loc "table")]))]),
    .ite (.any [(.not (.call (.glob "_law_right") [(.loc "geo"), (.loc "board"), (.loc "table"), (.loc "place")])), (.not (.call (.glob "_law_line_right") [(.loc "geo"), (.loc "board"), (.loc "table"), (.loc "place")]))]) [
      .ret (.cbool false)] []],
  .assign (.name "won") (.comp (.loc "n") "n" (.bcall "range" [(.bcall "len" [(.loc "table")])]) [(.cmp .Gt (.sub (.loc "table") (.loc "n")) (.cint 0))]),
  .ite (.cmp .NotEq (.loc "won") (.lst [])) [
    .assign (.name "place") (.call (.glob "_law_place") [(.loc "size"), (.sub (.loc "won") (.bin .Mod (.call (.glob "_law_number") [(.loc "script"), (.cint 8)]) (.bcall "len" [(.loc "won")])))]),
    .ite (.any [(.not (.call (.glob "_law_right") [(.loc "geo"), (.loc "board"), (.loc "table"), (.loc "place")])), (.not (.call (.glob "_law_line_right") [(.loc "geo"), (.loc "board"), (.loc "table"), (.loc "place")]))]) [
      .ret (.cbool false)] []] [],
  .ret (.call (.glob "_law_refused") [(.loc "geo"), (.loc "board"), (.loc "table"), (.call (.glob "_law_number") [(.loc "script"), (.cint 9)])])]

end Mine

end

section
open PySem
set_option linter.unusedVariables false
set_option maxRecDepth 100000
set_option tactic.hygienic false
namespace Mine

/-- a call of the class Geometry -/
noncomputable def GeoOk (C : Ctx) : Prop :=
  ∀ (n : Nat) (vs : List V) (σ : Store) (Q : V → Store → Prop) (X : Store → Prop) (m₀ : Loc), bindL ["self", "files", "ranks", "has_double", "has_castling"] (.ref (σ.length + 1) :: vs) (fun _ => none) = some m₀ →
    wpSs C n X b_Geometry_init m₀ (σ ++ [.ns fun _ => none] ++ [.inst "Geometry" σ.length]) (retQ fun v σ' => v = .none ∧ Q (.ref (σ.length + 1)) σ') → SemCall C (n + 4) "Geometry" vs σ Q X

/-- the program's tables -/
structure Prg (C : Ctx) : Prop where
  OK : C.Ok
  BK : BadOk C
  RK : ∀ n, RaiseOk C n
  geo : GeoOk C
  f_is_growing : FnOk C "is_growing" ["d"] b_is_growing
  f_add_masks : FnOk C "add_masks" ["geo"] b_add_masks
  f_inner_squares : FnOk C "inner_squares" ["geo", "d"] b_inner_squares
  f_add_rays : FnOk C "add_rays" ["geo"] b_add_rays
  f_add_pawns : FnOk C "add_pawns" ["geo"] b_add_pawns
  f_add_knights : FnOk C "add_knights" ["geo"] b_add_knights
  f_add_castles : FnOk C "add_castles" ["geo"] b_add_castles
  f_make_geometry : FnOk C "make_geometry" ["files", "ranks", "has_double", "has_castling"] b_make_geometry
  f_ray_attacks : FnOk C "ray_attacks" ["geo", "d", "square", "occupied"] b_ray_attacks
  f_rook_attacks : FnOk C "rook_attacks" ["geo", "square", "occupied"] b_rook_attacks
  f_bishop_attacks : FnOk C "bishop_attacks" ["geo", "square", "occupied"] b_bishop_attacks
  f_queen_attacks : FnOk C "queen_attacks" ["geo", "square", "occupied"] b_queen_attacks
  f_slider_attacks : FnOk C "slider_attacks" ["geo", "kind", "square", "occupied"] b_slider_attacks
  f_piece_attacks : FnOk C "piece_attacks" ["geo", "side", "kind", "square", "occupied"] b_piece_attacks
  f_solve : FnOk C "solve" ["sides", "after", "lost"] b_solve
  f_index_of : FnOk C "index_of" ["size", "side", "strong", "piece", "weak"] b_index_of
  f_parts_of : FnOk C "parts_of" ["size", "n"] b_parts_of
  f_mark_places : FnOk C "mark_places" ["geo", "kind", "zone", "table"] b_mark_places
  f_weak_moves : FnOk C "weak_moves" ["geo", "table", "strong", "piece", "weak"] b_weak_moves
  f_strong_moves : FnOk C "strong_moves" ["geo", "table", "kind", "strong", "piece", "weak"] b_strong_moves
  f_moves_at : FnOk C "moves_at" ["geo", "table", "kind", "side", "strong", "piece", "weak"] b_moves_at
  f_build_zone : FnOk C "build_zone" ["geo", "kind", "zone"] b_build_zone
  f_probe : FnOk C "probe" ["geo", "table", "kind", "side", "strong", "piece", "weak"] b_probe
  f_best_move : FnOk C "best_move" ["geo", "table", "kind", "side", "strong", "piece", "weak"] b_best_move
  f_mate_line : FnOk C "mate_line" ["geo", "table", "kind", "side", "strong", "piece", "weak"] b_mate_line
  f__law_number : FnOk C "_law_number" ["script", "i"] b__law_number
  f__law_apart : FnOk C "_law_apart" ["files", "a", "b"] b__law_apart
  f__law_touch : FnOk C "_law_touch" ["files", "a", "b"] b__law_touch
  f__law_strikes : FnOk C "_law_strikes" ["files", "kind", "origin", "goal", "wall"] b__law_strikes
  f__law_stands : FnOk C "_law_stands" ["board", "place"] b__law_stands
  f__law_ways : FnOk C "_law_ways" ["board", "place"] b__law_ways
  f__law_word : FnOk C "_law_word" ["geo", "board", "table", "place"] b__law_word
  f__law_due : FnOk C "_law_due" ["board", "place", "words"] b__law_due
  f__law_right : FnOk C "_law_right" ["geo", "board", "table", "place"] b__law_right
  f__law_line_right : FnOk C "_law_line_right" ["geo", "board", "table", "place"] b__law_line_right
  f__law_place : FnOk C "_law_place" ["size", "n"] b__law_place
  f__law_refused : FnOk C "_law_refused" ["geo", "board", "table", "n"] b__law_refused
  f_law : FnOk C "law" ["script"] b_law
  f_init : FnOk C "Geometry.__init__" ["self", "files", "ranks", "has_double", "has_castling"] b_Geometry_init

theorem SemCall.up {C : Ctx} {a b : Nat} {f : String} {vs : List V} {σ : Store} {Q : V → Store → Prop} {X : Store → Prop} (h : SemCall C a f vs σ Q X) (hab : a ≤ b) : SemCall C b f vs σ Q X :=
  fun A fr ρ s c cs h1 h2 h3 h4 h5 h6 => h A fr ρ s c cs (h1.mono hab) h2 h3 h4 h5 h6

theorem Prg.call {C : Ctx} (P : Prg C) {n : Nat} {f : String} {ps : List String} {b : List S} (F : FnOk C f ps b) {vs : List V} {m₀ : Loc} {σ : Store} {X : Store → Prop} {Q : V → Store → Prop} (hb : bindL ps vs (fun _ => none) = some m₀)
    (h : wpSs C n X b m₀ σ (retQ Q)) : SemCall C (n + 1) f vs σ Q X := fn_call P.OK P.BK (P.RK n) F hb h

end Mine

end

section
open PySem PySem.W PyProof.Rows
set_option linter.unusedVariables false
set_option maxRecDepth 100000
set_option tactic.hygienic false
namespace Mine

noncomputable def plainArgs (p : Arguments) (ps : List String) : Bool :=
  p.posonlyargs.isEmpty && p.args.map (·.arg) == ps.map Str.ofString && p.vararg.isNone && p.kwonlyargs.isEmpty && p.kwarg.isNone

noncomputable def theFn (K : Frag) (f : String) : Option (Addr × FuncData) := match nsIn K mainGlobals (Str.ofString f) with
  | some (some (.ref a)) => (match K.lookup a with
    | some ⟨_, _, .func fd, _⟩ => some (a, fd)
    | _ => none)
  | _ => none

noncomputable def fnAt (K : Frag) (a : Addr) : Option (Addr × FuncData) := match K.lookup a with
    | some ⟨_, _, .func fd, _⟩ => some (a, fd)
    | _ => none

noncomputable def chkOf (K : Frag) (r : Option (Addr × FuncData)) (ps : List String) : Option (List S) := match r with
  | some (_, fd) => if codeIn K fd.code fd.qualname && fd.closure.isEmpty && fd.globals == mainGlobals && fd.builtins == builtinsNs && (fd.defaults == .none) && scopeOk fd.scope && ps.all (paramOk fd.scope) && plainArgs fd.params ps then
      (match fd.body with
      | .stmts body => trSs 60 (fun x => fd.scope.names.lookup x) body
      | _ => none) else none
  | none => none
noncomputable def chkFn (K : Frag) (f : String) (ps : List String) : Option (List S) := chkOf K (theFn K f) ps
end Mine

end

section
open PySem PySem.W PyProof.Rows
set_option linter.unusedVariables false
set_option maxRecDepth 1000000
set_option maxHeartbeats 0
set_option tactic.hygienic false
namespace Mine

noncomputable def fnAddrs : List (String × Nat) := [("is_growing", 76), ("add_masks", 83), ("inner_squares", 90), ("add_rays", 97), ("add_pawns", 104), ("add_knights", 111), ("add_castles", 118), ("make_geometry", 125), ("ray_attacks", 132), ("rook_attacks", 139), ("bishop_attacks", 146), ("queen_attacks", 153), ("slider_attacks", 160), ("piece_attacks", 167), ("solve", 172), ("index_of", 179), ("parts_of", 186), ("mark_places", 193), ("weak_moves", 200), ("strong_moves", 207), ("moves_at", 214), ("build_zone", 221), ("probe", 228), ("best_move", 235), ("mate_line", 242), ("_law_number", 249), ("_law_apart", 256), ("_law_touch", 263), ("_law_strikes", 270), ("_law_stands", 277), ("_law_ways", 284), ("_law_word", 291), ("_law_due", 296), ("_law_right", 301), ("_law_line_right", 306), ("_law_place", 313), ("_law_refused", 320), ("Geometry", 65), ("BadTable", 44), ("law", 325)]
noncomputable def allAddrs : List (String × Nat) := ("Geometry.__init__", 62) :: fnAddrs
noncomputable def mkC (prog : Program) (w : World) (B : Heap) (K : Frag) : Ctx := { prog, w, B, fnv := fun x => (allAddrs.lookup x).map .ref, K }
noncomputable def fnTab : List (String × List String × List S) := [("is_growing", ["d"], b_is_growing), ("add_masks", ["geo"], b_add_masks), ("inner_squares", ["geo", "d"], b_inner_squares), ("add_rays", ["geo"], b_add_rays), ("add_pawns", ["geo"], b_add_pawns), ("add_knights", ["geo"], b_add_knights), ("add_castles", ["geo"], b_add_castles), ("make_geometry", ["files", "ranks", "has_double", "has_castling"], b_make_geometry), ("ray_attacks", ["geo", "d", "square", "occupied"], b_ray_attacks), ("rook_attacks", ["geo", "square", "occupied"], b_rook_attacks), ("bishop_attacks", ["geo", "square", "occupied"], b_bishop_attacks), ("queen_attacks", ["geo", "square", "occupied"], b_queen_attacks), ("slider_attacks", ["geo", "kind", "square", "occupied"], b_slider_attacks), ("piece_attacks", ["geo", "side", "kind", "square", "occupied"], b_piece_attacks), ("solve", ["sides", "after", "lost"], b_solve), ("index_of", ["size", "side", "strong", "piece", "weak"], b_index_of), ("parts_of", ["size", "n"], b_parts_of), ("mark_places", ["geo", "kind", "zone", "table"], b_mark_places), ("weak_moves", ["geo", "table", "strong", "piece", "weak"], b_weak_moves), ("strong_moves", ["geo", "table", "kind", "strong", "piece", "weak"], b_strong_moves), ("moves_at", ["geo", "table", "kind", "side", "strong", "piece", "weak"], b_moves_at), ("build_zone", ["geo", "kind", "zone"], b_build_zone), ("probe", ["geo", "table", "kind", "side", "strong", "piece", "weak"], b_probe), ("best_move", ["geo", "table", "kind", "side", "strong", "piece", "weak"], b_best_move), ("mate_line", ["geo", "table", "kind", "side", "strong", "piece", "weak"], b_mate_line), ("_law_number", ["script", "i"], b__law_number), ("_law_apart", ["files", "a", "b"], b__law_apart), ("_law_touch", ["files", "a", "b"], b__law_touch), ("_law_strikes", ["files", "kind", "origin", "goal", "wall"], b__law_strikes), ("_law_stands", ["board", "place"], b__law_stands), ("_law_ways", ["board", "place"], b__law_ways), ("_law_word", ["geo", "board", "table", "place"], b__law_word), ("_law_due", ["board", "place", "words"], b__law_due), ("_law_right", ["geo", "board", "table", "place"], b__law_right), ("_law_line_right", ["geo", "board", "table", "place"], b__law_line_right), ("_law_place", ["size", "n"], b__law_place), ("_law_refused", ["geo", "board", "table", "n"], b__law_refused), ("law", ["script"], b_law)]

noncomputable def intC (c : Value) : Option Int := match c with
  | .int i _ => some i
  | _ => none
theorem intC_ok {c : Value} {i : Int} (h : intC c = some i) : ∃ t, c = .int i t := by
  cases c with
  | int j t => rw [← Option.some.inj h]; exact ⟨t, rfl⟩
  | _ => exact no h
noncomputable def refC (c : Value) : Option Addr := match c with
  | .ref i => some i
  | _ => none
theorem refC_ok {c : Value} {i : Addr} (h : refC c = some i) : c = .ref i := by
  cases c with
  | ref j => rw [← Option.some.inj h]
  | _ => exact no h
noncomputable def seqD (d : Data) : Option (Array Value × Option Nat) := match d with
  | .seq xs n => some (xs, n)
  | _ => none
noncomputable def chkInts (vs : List V) : List Value → Bool := List.rec (motive := fun _ => List Value → Bool) (fun cs => cs.isEmpty) (fun v _ ih cs => match cs with
  | [] => false
  | c :: s => intV v == intC c && ((intC c).isSome && ih s)) vs
noncomputable def chkVal (K : Frag) (v : V) (c : Value) : Bool := match v with
  | .int i => intC c == some i
  | .fn x => (match c with
    | .ref a => allAddrs.lookup x == some a
    | _ => false)
  | .tup vs => (match c with
    | .ref a => (match K.lookup a with
      | some ⟨.type t, _, .seq xs _, _⟩ => t == "tuple" && chkInts vs xs.toList
      | _ => false)
    | _ => false)
  | _ => false
noncomputable def glbNames : List String := ["STEP_FILES", "STEP_RANKS", "WHITE", "PAWN", "KNIGHT", "BISHOP", "ROOK", "QUEEN", "KING", "NOT_A_PLACE", "NO_MATE", "OUTSIDE", "STRONG_MOVES", "WEAK_MOVES"] ++ fnNames
noncomputable def chkGlb (K : Frag) (x : String) : Bool := match glbTab x, nsIn K mainGlobals (Str.ofString x) with
  | some v, some (some c) => chkVal K v c
  | _, _ => false

theorem k_blt2 : bnames.all (fun f => bootBuiltins (Str.ofString f) == some (bval f) && (Str.ofString f != ("__name__" : Str))) = true := by kernel_rfl

noncomputable def badMro : List Value := [.ref 44, .ref 31, .type "Exception", .type "BaseException", .type "object"]
noncomputable def initFn (K : Frag) : Option FuncData := match K.lookup 28 with
  | some ⟨_, _, .func fd, _⟩ => some fd
  | _ => none
noncomputable def vTwo {α : Type} (l : List α) : Option (α × α) := match l with
  | [] => none
  | a :: r => obd (vOne r) fun b => some (a, b)
theorem vTwo_ok {α : Type} {l : List α} {p : α × α} (h : vTwo l = some p) : l = [p.1, p.2] := by
  cases l with
  | nil => exact no h
  | cons a r => exact obd_el h fun b h1 h => by rw [← Option.some.inj h, vOne_ok h1]
noncomputable def svAsg (v : SV) : Option (List Expr × Expr) := match v with
  | .asg ts v _ => some (ts, v)
  | _ => none
theorem svAsg_ok {v : SV} {s : Stmt} {p : List Expr × Expr} (b : v.back s) (h : svAsg v = some p) : ∃ q, s = .Assign p.1 p.2 q := by
  cases v with
  | asg ts v q => rw [← Option.some.inj h]; exact ⟨q, b⟩
  | _ => exact no h
noncomputable def vInit (b : List Stmt) : Option Unit := match b with
  | [] => none
  | s1 :: b' => obd (vOne b') fun s2 => obd (sv s1).ex fun e1 => obd (vMeth e1) fun q => obd (vName q.o) fun a => obd (vTwo q.args) fun cd => obd (vName cd.1) fun c => obd (vName cd.2) fun d => obd (svAsg (sv s2)) fun tv => obd (vOne tv.1) fun t => obd (vAttr t) fun at' => obd (vName at'.o) fun e => obd (vName tv.2) fun g =>
    grd (a == ("Exception" : Str) && q.m == ("__init__" : Str)) (grd (c == ("self" : Str) && d == ("text" : Str)) (grd (e == ("self" : Str) && at'.a == ("text" : Str)) (grd (g == ("text" : Str) && q.apos.endLine == q.pos.line) (grd q.kws.isEmpty (some ())))))
inductive InitB (b : List Stmt) : Prop
  | mk (p1 p2 p3 p4 p5 p6 p7 p8 p9 p10 : Pos) (h : b = [.Expr (.Call (.Attribute (.Name "Exception" p1) "__init__" p2) [.Name "self" p3, .Name "text" p4] [] p5) p6, .Assign [.Attribute (.Name "self" p7) "text" p8] (.Name "text" p9) p10]) (hl : (p2.endLine == p5.line) = true) : InitB b
theorem two_beq {α β : Type} [BEq α] [LawfulBEq α] [BEq β] [LawfulBEq β] {a b : α} {c d : β} (h : (a == b && c == d) = true) : a = b ∧ c = d := by
  rw [Bool.and_eq_true, beq_iff_eq, beq_iff_eq] at h; exact h
theorem vInit_ok {b : List Stmt} {u : Unit} (h : vInit b = some u) : InitB b := by
  cases b with
  | nil => exact no h
  | cons s1 b' =>
    refine obd_el h fun s2 h1 h => obd_el h fun e1 h2 h => obd_el h fun q h3 h => obd_el h fun a h4 h => obd_el h fun cd h5 h => obd_el h fun c h6 h => obd_el h fun d h7 h => obd_el h fun tv h8 h => obd_el h fun t h9 h => obd_el h fun at' ha h => obd_el h fun e hb h => obd_el h fun g hc h => grd_el h fun k1 h => grd_el h fun k2 h => grd_el h fun k3 h => grd_el h fun k4 h => grd_el h fun k5 h => ?_
    clear h
    obtain ⟨p6, f1⟩ := SV.ex_ok (sv_back s1) h2
    obtain ⟨p1, f2⟩ := vName_ok h4
    obtain ⟨p3, f3⟩ := vName_ok h6
    obtain ⟨p4, f4⟩ := vName_ok h7
    obtain ⟨p10, f5⟩ := svAsg_ok (sv_back s2) h8
    obtain ⟨p7, f6⟩ := vName_ok hb
    obtain ⟨p9, f7⟩ := vName_ok hc
    have k1 := two_beq k1; have k2 := two_beq k2; have k3 := two_beq k3
    rw [Bool.and_eq_true, beq_iff_eq] at k4
    refine ⟨p1, q.apos, p3, p4, q.pos, p6, p7, at'.pos, p9, p10, ?_, k4.2⟩
    rw [vOne_ok h1, f1, vMeth_ok h3, f2, vTwo_ok h5, f3, f4, f5, vOne_ok h9, vAttr_ok ha, f6, f7, k1.1, k1.2, k2.1, k2.2, k3.1, k3.2, k4.1, List.isEmpty_iff.mp k5]
noncomputable def initBody (b : FuncBody) : Bool := match b with
  | .stmts b => (vInit b).isSome
  | _ => false
theorem initBody_ok {fb : FuncBody} (h : initBody fb = true) : ∃ b, fb = .stmts b ∧ InitB b := by
  cases fb with
  | stmts b => obtain ⟨u, e⟩ := Option.isSome_iff_exists.mp h; exact ⟨b, rfl, vInit_ok e⟩
  | _ => exact noB h
noncomputable def initScope (sc : Scope) : Bool := sc.kind == .function && !sc.isCoroutine && !sc.isGenerator && sc.names.all (fun p => p.2 != .cell) && sc.names.lookup ("self" : Str) == some .local && sc.names.lookup ("text" : Str) == some .local && sc.names.lookup ("Exception" : Str) == some .globalImplicit
noncomputable def initChk (K : Frag) : Bool := match initFn K with
  | some fd => codeIn K fd.code fd.qualname && fd.closure.isEmpty && fd.globals == mainGlobals && fd.builtins == builtinsNs && initScope fd.scope && initBody fd.body
  | none => false
noncomputable def giPs : List String := ["self", "files", "ranks", "has_double", "has_castling"]

noncomputable def tabC (K : Frag) : List (String × List String × List S) → List (Option (List S))
  | [] => []
  | t :: r => chkFn K t.1 t.2.1 :: tabC K r
noncomputable def expC : List (String × List String × List S) → List (Option (List S))
  | [] => []
  | t :: r => some t.2.2 :: expC r
noncomputable def tabD (K : Frag) (S : Setting) (c : List Value) : List (String × List String × List Mine.S) → List (Option (List (Str × Value)))
  | [] => []
  | t :: r => ((theFn K t.1).bind fun f => peek K S (bindArgs f.2 ⟨c.take t.2.1.length, []⟩)) :: tabD K S c r
noncomputable def expD (c : List Value) : List (String × List String × List S) → List (Option (List (Str × Value)))
  | [] => []
  | t :: r => some ((t.2.1.map Str.ofString).zip (c.take t.2.1.length)) :: expD c r

noncomputable def bools (K : Frag) : List Bool := [fnAddrs.all (fun q => match nsIn K mainGlobals (Str.ofString q.1) with | some (some (.ref a)) => a == q.2 | _ => false),
  glbNames.all (chkGlb K), bnames.all (fun f => match nsIn K mainGlobals (Str.ofString f) with | some none => true | _ => false),
  geoAttrs.all (fun n => match findIn K (.ref 65) (Str.ofString n) with | some none => true | _ => false), plainOver K 65, makesIn K 65, initChk K]
noncomputable def finds (K : Frag) : List (Option (Option Value)) := [findIn K (.ref 65) "__getattribute__", findIn K (.ref 65) "__setattr__", findIn K (.ref 65) "__init__", findIn K (.ref 44) "__setattr__", findIn K (.ref 44) "text", findIn K (.ref 44) "__init__", nsIn K mainGlobals "Exception"]
noncomputable def mros (K : Frag) : List (Option Bool) := [(clsIn K 65).map (·.hasDict), mroIn K 44 (.type "object"), mroIn K 44 (.type "BaseException"), mroIn K 44 (.ref 44)]
noncomputable def types (K : Frag) : List (Option Value) := [typeIn K (.ref 62), typeIn K (.ref 28)]
noncomputable def excCls (K : Frag) : Option (Value × Option (List Value × Bool) × Option (Option Value) × Nat) := (K.lookup 44).map (fun o => (o.cls, (match o.data with | .cls cd => some (cd.mro, cd.hasDel) | _ => none), o.slots.toList[4]?, o.slots.size))

/-- what the proof sees of the ground -/
structure Kf (K : Frag) : Prop where
  bools : bools K = [true, true, true, true, true, true, true]
  finds : finds K = [some (some (.builtin "object.__getattribute__")), some (some (.builtin "object.__setattr__")), some (some (.ref 62)), some (some (.builtin "object.__setattr__")), some none, some (some (.ref 28)), some none]
  mros : mros K = [some true, some true, some true, some true]
  types : types K = [some (.type "function"), some (.type "function")]
  bad : (clsIn K 44).map (fun cd => (cd.mro, cd.hasDict)) = some (badMro, true)
  badCls : excCls K = some (.type "type", some (badMro, false), some (some (.builtin "Exception.__new__")), 6)
  excInit : findCls K (.type "Exception") (.type "type") "__init__" = some (.val (.builtin "Exception.__init__"))
  tabC : tabC K fnTab = expC fnTab
  gi : chkOf K (fnAt K 62) giPs = some b_Geometry_init
  keep : (fun S : Setting => allAddrs.all fun q => (peek K S (keeperOf (.ref q.2))).isSome) = fun _ => true
  tabD : (fun (S : Setting) (c0 c1 c2 c3 c4 c5 c6 : Value) => tabD K S [c0, c1, c2, c3, c4, c5, c6] fnTab) = fun _ c0 c1 c2 c3 c4 c5 c6 => expD [c0, c1, c2, c3, c4, c5, c6] fnTab
  giD : (fun (S : Setting) (c0 c1 c2 c3 c4 : Value) => (fnAt K 62).bind fun r => peek K S (bindArgs r.2 ⟨[c0, c1, c2, c3, c4], []⟩)) = fun _ c0 c1 c2 c3 c4 => some ((giPs.map Str.ofString).zip [c0, c1, c2, c3, c4])
  badD : (fun (S : Setting) (c1 c2 : Value) => (initFn K).bind fun fd => peek K S (bindArgs fd ⟨[c1, c2], []⟩)) = fun _ c1 c2 => some [(("self" : Str), c1), (("text" : Str), c2)]

theorem nth {α : Type} {l r : List α} (h : l = r) (i : Nat) {a b : α} (ha : l[i]? = some a) (hb : r[i]? = some b) : a = b := by
  rw [h, hb] at ha
  exact (Option.some.inj ha).symm
namespace Kf
variable {K : Frag} (F : Kf K)
include F
theorem names : fnAddrs.all (fun q => match nsIn K mainGlobals (Str.ofString q.1) with | some (some (.ref a)) => a == q.2 | _ => false) = true := nth F.bools 0 rfl rfl
theorem glb : glbNames.all (chkGlb K) = true := nth F.bools 1 rfl rfl
theorem blt : bnames.all (fun f => match nsIn K mainGlobals (Str.ofString f) with | some none => true | _ => false) = true := nth F.bools 2 rfl rfl
theorem attrs : geoAttrs.all (fun n => match findIn K (.ref 65) (Str.ofString n) with | some none => true | _ => false) = true := nth F.bools 3 rfl rfl
theorem geoPlain : plainOver K 65 = true := nth F.bools 4 rfl rfl
theorem geoMakes : makesIn K 65 = true := nth F.bools 5 rfl rfl
theorem init : initChk K = true := nth F.bools 6 rfl rfl
theorem geoGet : findIn K (.ref 65) "__getattribute__" = some (some (.builtin "object.__getattribute__")) := nth F.finds 0 rfl rfl
theorem geoSet : findIn K (.ref 65) "__setattr__" = some (some (.builtin "object.__setattr__")) := nth F.finds 1 rfl rfl
theorem geoInit : findIn K (.ref 65) "__init__" = some (some (.ref 62)) := nth F.finds 2 rfl rfl
theorem badSet : findIn K (.ref 44) "__setattr__" = some (some (.builtin "object.__setattr__")) := nth F.finds 3 rfl rfl
theorem badText : findIn K (.ref 44) "text" = some none := nth F.finds 4 rfl rfl
theorem badInit : findIn K (.ref 44) "__init__" = some (some (.ref 28)) := nth F.finds 5 rfl rfl
theorem excGlob : nsIn K mainGlobals "Exception" = some none := nth F.finds 6 rfl rfl
theorem geoDict : (clsIn K 65).map (·.hasDict) = some true := nth F.mros 0 rfl rfl
theorem badObj : mroIn K 44 (.type "object") = some true := nth F.mros 1 rfl rfl
theorem badSelf : mroIn K 44 (.ref 44) = some true := nth F.mros 3 rfl rfl
theorem geoFn : typeIn K (.ref 62) = some (.type "function") := nth F.types 0 rfl rfl
theorem initFn : typeIn K (.ref 28) = some (.type "function") := nth F.types 1 rfl rfl
omit F in
theorem tabC_mem {l : List (String × List String × List S)} (h : Mine.tabC K l = expC l) (t) (ht : t ∈ l) : chkFn K t.1 t.2.1 = some t.2.2 := by
  induction l with
  | nil => exact nomatch ht
  | cons a r ih => exact (List.mem_cons.mp ht).elim (fun q => q ▸ (List.cons.inj h).1) (ih (List.cons.inj h).2)
omit F in
theorem tabD_mem {S : Setting} {c : List Value} {l : List (String × List String × List Mine.S)} (h : Mine.tabD K S c l = expD c l) (t) (ht : t ∈ l) : ((theFn K t.1).bind fun f => peek K S (bindArgs f.2 ⟨c.take t.2.1.length, []⟩)) = some ((t.2.1.map Str.ofString).zip (c.take t.2.1.length)) := by
  induction l with
  | nil => exact nomatch ht
  | cons a r ih => exact (List.mem_cons.mp ht).elim (fun q => q ▸ (List.cons.inj h).1) (ih (List.cons.inj h).2)
omit F in
theorem unc {n : Nat} {l : List Value} (h : l.length = n + 1) : ∃ a r, l = a :: r ∧ r.length = n := by
  cases l with
  | nil => exact nomatch h
  | cons a r => exact ⟨a, r, rfl, Nat.succ.inj h⟩
omit F in
theorem pad7 (vals : List Value) (h : vals.length ≤ 7) : ∃ c0 c1 c2 c3 c4 c5 c6, [c0, c1, c2, c3, c4, c5, c6].take vals.length = vals := by
  have h7 : (vals ++ List.replicate (7 - vals.length) Value.none).length = 6 + 1 := by rw [List.length_append, List.length_replicate]; exact Nat.add_sub_cancel' h
  have ht : (vals ++ List.replicate (7 - vals.length) Value.none).take vals.length = vals := List.take_left
  obtain ⟨c0, r0, e, g0⟩ := unc h7
  rw [e] at ht
  obtain ⟨c1, r1, e1, g1⟩ := unc g0
  obtain ⟨c2, r2, e2, g2⟩ := unc g1
  obtain ⟨c3, r3, e3, g3⟩ := unc g2
  obtain ⟨c4, r4, e4, g4⟩ := unc g3
  obtain ⟨c5, r5, e5, g5⟩ := unc g4
  obtain ⟨c6, r6, e6, g6⟩ := unc g5
  rw [e1, e2, e3, e4, e5, e6, List.eq_nil_of_length_eq_zero g6] at ht
  exact ⟨c0, c1, c2, c3, c4, c5, c6, ht⟩
theorem fn {f : String} {ps : List String} {b : List S} (h : (f, ps, b) ∈ fnTab) : chkFn K f ps = some b := tabC_mem F.tabC _ h
omit F in
theorem arity : fnTab.all (fun t => Nat.ble t.2.1.length 7) = true := by kernel_rfl
theorem fnD {f : String} {ps : List String} {b : List S} (h : (f, ps, b) ∈ fnTab) (S : Setting) (vals : List Value) (hl : vals.length = ps.length) : ((theFn K f).bind fun r => peek K S (bindArgs r.2 ⟨vals, []⟩)) = some ((ps.map Str.ofString).zip vals) := by
  have h7 : ps.length ≤ 7 := Nat.le_of_ble_eq_true (List.all_eq_true.mp arity _ h)
  obtain ⟨c0, c1, c2, c3, c4, c5, c6, e⟩ := pad7 vals (hl ▸ h7)
  have := tabD_mem (congrFun (congrFun (congrFun (congrFun (congrFun (congrFun (congrFun (congrFun F.tabD S) c0) c1) c2) c3) c4) c5) c6) _ h
  rw [← e, hl]
  exact this
theorem giD' (S : Setting) (vals : List Value) (h7 : vals.length = 5) : ((fnAt K 62).bind fun r => peek K S (bindArgs r.2 ⟨vals, []⟩)) = some ((giPs.map Str.ofString).zip vals) := by
  obtain ⟨c0, r0, e0, g0⟩ := unc h7
  obtain ⟨c1, r1, e1, g1⟩ := unc g0
  obtain ⟨c2, r2, e2, g2⟩ := unc g1
  obtain ⟨c3, r3, e3, g3⟩ := unc g2
  obtain ⟨c4, r4, e4, g4⟩ := unc g3
  rw [e0, e1, e2, e3, e4, List.eq_nil_of_length_eq_zero g4]
  exact congrFun (congrFun (congrFun (congrFun (congrFun (congrFun F.giD S) c0) c1) c2) c3) c4
end Kf
end Mine

end

section
open PySem PySem.W PyProof.Rows
set_option linter.unusedVariables false
set_option maxRecDepth 1000000
set_option maxHeartbeats 0
set_option tactic.hygienic false
namespace Mine
noncomputable def addrs : List Nat := [2, 3, 15, 22, 24, 25, 27, 28, 29, 30, 31, 32, 35, 42, 43, 44, 47, 48, 56, 58, 59, 61, 62, 63, 64, 65, 66, 67, 70, 72, 73, 75, 76, 77, 79, 80, 82, 83, 84, 86, 87, 89, 90, 91, 93, 94, 96, 97, 98, 100, 101, 103, 104, 105, 107, 108, 110, 111, 112, 114, 115, 117, 118, 119, 121, 122, 124, 125, 126, 128, 129, 131, 132, 133, 135, 136, 138, 139, 140, 142, 143, 145, 146, 147, 149, 150, 152, 153, 154, 156, 157, 159, 160, 161, 163, 164, 166, 167, 168, 171, 172, 173, 175, 176, 178, 179, 180, 182, 183, 185, 186, 187, 189, 190, 192, 193, 194, 196, 197, 199, 200, 201, 203, 204, 206, 207, 208, 210, 211, 213, 214, 215, 217, 218, 220, 221, 222, 224, 225, 227, 228, 229, 231, 232, 234, 235, 236, 238, 239, 241, 242, 243, 245, 246, 248, 249, 250, 252, 253, 255, 256, 257, 259, 260, 262, 263, 264, 266, 267, 269, 270, 271, 273, 274, 276, 277, 278, 280, 281, 283, 284, 285, 287, 288, 290, 291, 292, 295, 296, 297, 300, 301, 302, 305, 306, 307, 309, 310, 312, 313, 314, 316, 317, 319, 320, 321, 324, 325]
noncomputable def fragAt (h : Heap) : List Nat → Frag
  | [] => []
  | a :: r => match h.get? a with
    | some o => (a, o) :: fragAt h r
    | none => fragAt h r
set_option tactic.hygienic true in
theorem fragAt_in (h : Heap) : ∀ l : List Nat, (fragAt h l).In h
  | [] => fun a o e => by cases e
  | b :: r => fun a o e => by
    have ih := fragAt_in h r
    unfold fragAt at e
    split at e
    · rename_i o' ho
      rw [List.lookup_cons] at e
      split at e
      · rename_i q
        cases e
        rw [beq_iff_eq.mp q]; exact ho
      · exact ih a o e
    · exact ih a o e
abbrev Obs : Type := List Bool × List (Option (Option Value)) × List (Option Bool) × List (Option Value) × Option (List Value × Bool) × Option (Value × Option (List Value × Bool) × Option (Option Value) × Nat) × Option CFound × List (Option (List S)) × Option (List S) ×
  (Setting → Bool) × (Setting → Value → Value → Value → Value → Value → Value → Value → List (Option (List (Str × Value)))) × (Setting → Value → Value → Value → Value → Value → Option (List (Str × Value))) × (Setting → Value → Value → Option (List (Str × Value)))
noncomputable def obsOf (K : Frag) : Obs := (bools K, finds K, mros K, types K, (clsIn K 44).map (fun cd => (cd.mro, cd.hasDict)), excCls K, findCls K (.type "Exception") (.type "type") "__init__", tabC K fnTab, chkOf K (fnAt K 62) giPs,
  (fun S : Setting => allAddrs.all fun q => (peek K S (keeperOf (.ref q.2))).isSome), (fun (S : Setting) (c0 c1 c2 c3 c4 c5 c6 : Value) => tabD K S [c0, c1, c2, c3, c4, c5, c6] fnTab),
  (fun (S : Setting) (c0 c1 c2 c3 c4 : Value) => (fnAt K 62).bind fun r => peek K S (bindArgs r.2 ⟨[c0, c1, c2, c3, c4], []⟩)), (fun (S : Setting) (c1 c2 : Value) => (initFn K).bind fun fd => peek K S (bindArgs fd ⟨[c1, c2], []⟩)))
noncomputable def obsV : Obs := ([true, true, true, true, true, true, true],
  [some (some (.builtin "object.__getattribute__")), some (some (.builtin "object.__setattr__")), some (some (.ref 62)), some (some (.builtin "object.__setattr__")), some none, some (some (.ref 28)), some none],
  [some true, some true, some true, some true], [some (.type "function"), some (.type "function")], some (badMro, true), some (.type "type", some (badMro, false), some (some (.builtin "Exception.__new__")), 6),
  some (.val (.builtin "Exception.__init__")), expC fnTab, some b_Geometry_init, (fun _ => true), (fun _ c0 c1 c2 c3 c4 c5 c6 => expD [c0, c1, c2, c3, c4, c5, c6] fnTab),
  (fun _ c0 c1 c2 c3 c4 => some ((giPs.map Str.ofString).zip [c0, c1, c2, c3, c4])), (fun _ c1 c2 => some [(("self" : Str), c1), (("text" : Str), c2)]))
theorem kf_of {K : Frag} (h : obsOf K = obsV) : Kf K := by
  obtain ⟨h1, h⟩ := Prod.mk.inj h
  obtain ⟨h2, h⟩ := Prod.mk.inj h
  obtain ⟨h3, h⟩ := Prod.mk.inj h
  obtain ⟨h4, h⟩ := Prod.mk.inj h
  obtain ⟨h5, h⟩ := Prod.mk.inj h
  obtain ⟨h6, h⟩ := Prod.mk.inj h
  obtain ⟨h7, h⟩ := Prod.mk.inj h
  obtain ⟨h8, h⟩ := Prod.mk.inj h
  obtain ⟨h9, h⟩ := Prod.mk.inj h
  obtain ⟨ha, h⟩ := Prod.mk.inj h
  obtain ⟨hb, h⟩ := Prod.mk.inj h
  obtain ⟨hc, hd⟩ := Prod.mk.inj h
  exact ⟨h1, h2, h3, h4, h5, h6, h7, h8, h9, ha, hb, hc, hd⟩
theorem kfs (w : World) : (endHeap w).map (fun h => obsOf (fragAt h addrs)) = some obsV := by kernel_rfl
theorem says_kf {w : World} {h : Heap} (Y : rSays w h) : ∃ K : Frag, Kf K ∧ K.In h := by
  obtain ⟨h0, e, k⟩ := Y
  have q := kfs w
  rw [e, Option.map_some] at q
  exact ⟨_, kf_of (Option.some.inj q), (fragAt_in h0 addrs).keeps k⟩
end Mine

end

section
open PySem PySem.W PyProof.Rows
set_option linter.unusedVariables false
set_option maxRecDepth 100000
namespace Mine

/-- what is known of the ground -/
structure Gr (w : World) (B : Heap) (K : Frag) : Prop where
  F : Kf K
  X : K.In B
  ns : ∃ mg mb, B.Ns mainGlobals mg ∧ B.Ns builtinsNs mb ∧ ∀ x : Str, x ≠ "__name__" → mb x = bootBuiltins x
  nolimit : B.NoLimit

theorem binds_of {K : Frag} {s : Shared} {fd : FuncData} {args : Args} {bs : List (Str × Value)} (X : K.In s.heap) (e : ∀ S, peek K S (bindArgs fd args) = some bs) : BindsTo s fd args bs := fun M _ _ _ hq => by
  exact (Looks.of_peek (M := M) X (e _)).here hq
theorem mem_of_lookup' {l : List (String × Nat)} {x : String} {a : Nat} (h : l.lookup x = some a) : (x, a) ∈ l := by
  induction l with
  | nil => exact no h
  | cons p r ih =>
    obtain ⟨y, b⟩ := p
    rw [List.lookup_cons] at h
    cases q : x == y with
    | true => rw [q] at h; rw [beq_iff_eq.mp q, ← Option.some.inj h]; exact .head _
    | false => rw [q] at h; exact .tail _ (ih h)

noncomputable def nsO' (o : Obj) : Option (Array DictEntry) := match o.data with
  | .dict es _ => some es
  | _ => none
theorem ns_of_nsIn {K : Frag} {B : Heap} {ns : Addr} {g : Str → Option Value} {name : Str} {r : Option Value} (X : K.In B) (N : B.Ns ns g) (e : nsIn K ns name = some r) : g name = r := by
  obtain ⟨o, es, ep, ho, hd, hk, hf⟩ := N
  unfold nsIn at e
  cases q : K.lookup ns with
  | none => rw [q] at e; exact no e
  | some o' =>
    have h1 := X _ _ q
    rw [ho, Option.some.injEq] at h1
    rw [q, ← h1] at e
    obtain ⟨c, d, dt, sl⟩ := o
    have hd : dt = .dict es ep := hd
    subst hd
    rw [← hf name]
    show (es.find? fun e => e.key.isStr name).map (·.val) = r
    rw [← Array.find?_toList]
    have e : (match es.toList.find? fun e => e.key.isStr name with | some en => some (some en.val) | none => if es.toList.any (·.refKey) then none else some none) = some r := e
    cases z : es.toList.find? fun e => e.key.isStr name with
    | some en => rw [z] at e; exact Option.some.inj e
    | none =>
      rw [z] at e
      have e : (if es.toList.any (·.refKey) = true then none else some none) = some r := e
      by_cases hh : es.toList.any (·.refKey) = true
      · rw [if_pos hh] at e; exact no e
      · rw [if_neg hh] at e; exact Option.some.inj e

section
variable {prog : Program} {w : World} {B : Heap} {K : Frag} (G : Gr w B K)
include G

theorem fn_addr {x : String} {c : Value} (h : (mkC prog w B K).fnv x = some c) : ∃ a, (x, a) ∈ allAddrs ∧ c = .ref a := by
  simp only [mkC, Option.map_eq_some_iff] at h
  obtain ⟨a, h1, rfl⟩ := h
  exact ⟨a, mem_of_lookup' h1, rfl⟩

theorem nsIn_fn {x : String} {a : Nat} (h : (x, a) ∈ fnAddrs) : nsIn K mainGlobals (Str.ofString x) = some (some (.ref a)) := by
  have := List.all_eq_true.mp G.F.names _ h
  have this : (match nsIn K mainGlobals (Str.ofString x) with | some (some (.ref b)) => b == a | _ => false) = true := this
  cases q : nsIn K mainGlobals (Str.ofString x) with
  | none => rw [q] at this; exact noB this
  | some o =>
    rw [q] at this
    cases o with
    | none => exact noB this
    | some c => cases c with
      | ref b => rw [beq_iff_eq.mp this]
      | _ => exact noB this

theorem glob_fn {x : String} {a : Nat} (h : (x, a) ∈ fnAddrs) : GlobAt (mkC prog w B K) x (.ref a) := by
  obtain ⟨mg, mb, h1, h2, h3⟩ := G.ns
  exact ⟨mg, mb, h1, h2, .inl (ns_of_nsIn G.X h1 (nsIn_fn G h))⟩

omit G in
theorem glbTab_names {x : String} {v : V} (h : glbTab x = some v) : x ∈ glbNames := by
  have step : ∀ {y : String} {w : V} {o : Option V} {l : List String}, (if x = y then some w else o) = some v → (o = some v → x ∈ l) → x ∈ y :: l := fun {y w o l} e k => by
    by_cases q : x = y
    · rw [q]; exact .head _
    · rw [if_neg q] at e; exact .tail _ (k e)
  refine step h fun h => step h fun h => step h fun h => step h fun h => step h fun h => step h fun h => step h fun h => step h fun h => step h fun h => step h fun h => step h fun h => step h fun h => step h fun h => step h fun h => ?_
  by_cases q : x ∈ fnNames
  · exact q
  · rw [if_neg q] at h; exact no h

omit G in
theorem chkInts_ok {h : Heap} {C : Ctx} {vs : List V} : ∀ {cs : List Value}, chkInts vs cs = true → VRs C [] h vs cs := by
  induction vs with
  | nil => intro cs e; exact List.isEmpty_iff.mp e
  | cons v r ih =>
    intro cs e
    cases cs with
    | nil => exact noB e
    | cons c s =>
      have e : (intV v == intC c && ((intC c).isSome && chkInts r s)) = true := e
      rw [Bool.and_eq_true, Bool.and_eq_true, beq_iff_eq] at e
      obtain ⟨i, hi⟩ := Option.isSome_iff_exists.mp e.2.1
      obtain ⟨t, ht⟩ := intC_ok hi
      rw [intV_ok (e.1.trans hi), ht]
      exact .cons (.int i t) (ih e.2.2)

theorem chkVal_ok {v : V} {c : Value} (h : chkVal K v c = true) : VR (mkC prog w B K) [] B v c := by
  cases v with
  | int i => exact intC_ok (beq_iff_eq.mp h)
  | fn x => cases c with
    | ref a => show (allAddrs.lookup x).map Value.ref = _; rw [beq_iff_eq.mp h]; rfl
    | _ => exact noB h
  | tup vs => cases c with
    | ref a =>
      have h : (match K.lookup a with | some ⟨.type t, _, .seq xs _, _⟩ => t == "tuple" && chkInts vs xs.toList | _ => false) = true := h
      cases q : K.lookup a with
      | none => rw [q] at h; exact noB h
      | some o =>
        rw [q] at h
        obtain ⟨cl, d, dt, sl⟩ := o
        cases cl with
        | type t => cases dt with
          | seq xs n =>
            have h : (t == "tuple" && chkInts vs xs.toList) = true := h
            rw [Bool.and_eq_true, beq_iff_eq] at h
            exact ⟨a, xs.toList, rfl, ⟨_, G.X _ _ q, by rw [h.1], n, rfl⟩, chkInts_ok h.2⟩
          | _ => exact noB h
        | _ => exact noB h
    | _ => exact noB h
  | _ => exact noB h

theorem keep_fn (prog : Program) {c : Value} {a : Nat} {x : String} (h : (x, a) ∈ allAddrs) : KeeperOk (mkC prog w B K) (.ref a) := fun A E Q s hs hQ => by
  have := List.all_eq_true.mp (congrFun G.F.keep ⟨prog, w.params⟩ : _ = _) _ h
  simp only [Option.isSome_iff_exists] at this
  obtain ⟨kp, hkp⟩ := this
  exact Looks.of_peek (M := model prog w) G.X hkp A Q E s hs (hQ kp)

theorem mk_ok (prog : Program) : (mkC prog w B K).Ok where
  keeper := fun x c h => by
    obtain ⟨a, h1, rfl⟩ := fn_addr G h
    exact keep_fn G prog (c := .ref a) h1
  KB := G.X
  geo := fun a h => by
    have ha : a = 65 := by
      have : (mkC prog w B K).fnv "Geometry" = some (.ref 65) := rfl
      rw [this] at h; cases h; rfl
    subst ha
    have h3 := G.F.geoDict
    simp only [Option.map_eq_some_iff] at h3
    refine ⟨G.F.geoGet, G.F.geoSet, h3, G.F.geoPlain, fun n hn => ?_⟩
    have := List.all_eq_true.mp G.F.attrs n hn
    split at this
    · assumption
    · cases this
  glb := fun x v h => by
    have hx := List.all_eq_true.mp G.F.glb x (glbTab_names h)
    have h' : glbTab x = some v := h
    unfold chkGlb at hx
    rw [h'] at hx
    split at hx
    · rename_i v' c e1 e2
      cases e1
      obtain ⟨mg, mb, g1, g2, g3⟩ := G.ns
      exact ⟨c, ⟨mg, mb, g1, g2, .inl (ns_of_nsIn G.X g1 e2)⟩, chkVal_ok G hx⟩
    · cases hx
  blt := fun f hf => by
    obtain ⟨mg, mb, g1, g2, g3⟩ := G.ns
    have h1 := List.all_eq_true.mp G.F.blt f hf
    have h2 := List.all_eq_true.mp k_blt2 f hf
    simp only [Bool.and_eq_true, beq_iff_eq, bne_iff_ne, ne_eq] at h1 h2
    split at h1
    · rename_i e
      exact ⟨mg, mb, g1, g2, .inr ⟨ns_of_nsIn G.X g1 e, by rw [g3 _ h2.2]; exact h2.1⟩⟩
    · cases h1
  nolimit := G.nolimit

theorem mk_fnOf (prog : Program) {f : String} {ps : List String} {b : List S} {a : Nat} {r : Option (Addr × FuncData)} (hf : allAddrs.lookup f = some a) (hr : ∀ x, r = some x → x.1 = a ∧ ∃ oc od osl, K.lookup a = some ⟨oc, od, .func x.2, osl⟩) (hc : chkOf K r ps = some b)
    (hd : ∀ (S : Setting) (vals : List Value), vals.length = ps.length → (r.bind fun r => peek K S (bindArgs r.2 ⟨vals, []⟩)) = some ((ps.map Str.ofString).zip vals)) : FnOk (mkC prog w B K) f ps b := by
  unfold chkOf at hc
  split at hc
  · rename_i a' fd
    split at hc
    · rename_i hcond
      simp only [Bool.and_eq_true, beq_iff_eq, List.isEmpty_iff] at hcond
      obtain ⟨⟨⟨⟨⟨⟨⟨c1, c2⟩, c3⟩, c4⟩, c5⟩, c6⟩, c7⟩, c8⟩ := hcond
      split at hc
      · rename_i body hbody
        obtain ⟨_, oc, od, osl, ho⟩ := hr _ rfl
        exact ⟨a, oc, od, osl, fd, body, by simp [mkC, hf], G.X _ _ ho, codeRec_of G.X c1, hbody, c2, c3, c4, c6, c7, fun s vals hs hl => binds_of (G.X.keeps hs) fun S => hd S vals hl, 60, hc⟩
      · cases hc
    · cases hc
  · cases hc

theorem mk_fn (prog : Program) {f : String} {ps : List String} {b : List S} {a : Nat} (ht : (f, ps, b) ∈ fnTab) (hf : fnAddrs.lookup f = some a) (hf' : allAddrs.lookup f = some a) : FnOk (mkC prog w B K) f ps b := by
  refine mk_fnOf G prog hf' (fun x hx => ?_) (G.F.fn ht) (G.F.fnD ht)
  have hns := nsIn_fn G (mem_of_lookup' hf)
  unfold theFn at hx
  rw [hns] at hx
  simp only at hx
  split at hx
  · rename_i oc od fd' osl ho
    cases hx
    exact ⟨rfl, oc, od, osl, ho⟩
  · cases hx

theorem mk_init (prog : Program) : FnOk (mkC prog w B K) "Geometry.__init__" ["self", "files", "ranks", "has_double", "has_castling"] b_Geometry_init := by
  refine mk_fnOf G prog (a := 62) rfl (fun x hx => ?_) G.F.gi G.F.giD'
  unfold fnAt at hx
  split at hx
  · rename_i oc od fd' osl ho
    cases hx
    exact ⟨rfl, oc, od, osl, ho⟩
  · cases hx

end
end Mine

end

section
open PySem PySem.W PyProof.Rows PySem.Calls
set_option linter.unusedVariables false
set_option maxRecDepth 1000000
set_option tactic.hygienic false
namespace Mine

theorem bad_refuse (e : Value) : refuseLoop e "__setattr__" badMro = pure () := by
  unfold badMro
  rw [refuseLoop_ref, refuseLoop_ref]
  kernel_rfl

section
variable {prog : Program} {w : World} {A : Around} {E : Value → Shared → Prop} {s : Shared} {K : Frag}

/-- self.text = text, on a refusal that has no dict yet -/
theorem bad_set_text (F : Kf K) (X : K.In s.heap) {e : Addr} {vs : Array Value} {v : Value} {Q : Unit → Shared → Prop} (he : s.heap.get? e = some { cls := .ref 44, dict := none, data := .fields vs })
    (h : ∀ h' tk D, (∀ b o, b ≠ e → s.heap.get? b = some o → h'.get? b = some o) → h'.get? e = some { cls := .ref 44, dict := some D, data := .fields vs } → Q () { s with heap := h', toks := tk }) :
    wpAny (model prog w) A (setAttr (.ref e) "text" v) Q E s := by
  have I : InstAt s.heap e { cls := .ref 44, dict := none, data := .fields vs } 44 none := ⟨he, rfl, rfl, trivial⟩
  obtain ⟨cd, hc, hcd⟩ := Option.map_eq_some_iff.mp F.bad
  have hmro : cd.mro = badMro := congrArg Prod.fst hcd
  have hdict : cd.hasDict = true := congrArg Prod.snd hcd
  refine set_plain X I F.badSet ?_
  have SF := PySem.F.store_object
  have X' : K.In ({ s with toks := s.toks + 1 } : Shared).heap := X
  have I' : InstAt ({ s with toks := s.toks + 1 } : Shared).heap e { cls := .ref 44, dict := none, data := .fields vs } 44 none := I
  have sub : Looks (model prog w) ({ s with toks := s.toks + 1 } : Shared).heap (isInstance (.ref e) (.type "object")) true := I'.type.andThen (looks_mroIn X' F.badObj)
  refine codeAny_call_builtin SF.slot.plain SF.entry (@check_slot (model prog w) _ _ { s with toks := s.toks + 1 } "object.__setattr__" "object" "__setattr__" (.ref e) [.str "text" s.toks, v] [] _ SF.kind SF.split sub (SF.args (.ref e) (.str "text" s.toks) v) ?_)
  have hm : Looks (model prog w) ({ s with toks := s.toks + 1 } : Shared).heap (mroOf (.ref 44)) badMro := by rw [← hmro]; exact (looks_clsIn X' hc).andThen .now
  rw [osa_eq, refuse_eq]
  refine wpAny_bind (wpAny_bind (I'.type.here (wpAny_bind (hm.here ?_))))
  rw [bad_refuse]
  refine wpAny_pure (wpAny_bind (I'.type.here (wpAny_bind ((looks_findIn X' F.badText).here (wpAny_bind (wpAny_pure ?_))))))
  unfold Builtin.ObjectAttr.storeInOwnDict Builtin.ObjectAttr.ownDictForStores
  refine wpAny_bind (wpAny_pure (wpAny_bind ?_))
  show wpAny _ _ (instanceDict e true) _ _ _
  unfold instanceDict
  refine wpAny_bind (wpAny_loadPart (s := { s with toks := s.toks + 1 }) he (wpAny_bind ((looks_clsIn X' hc).here ?_)))
  rw [hdict]
  show wpAny _ _ (alloc { cls := .type "dict", data := .dict #[] } >>= fun d => update e (fun o => { o with dict := some d }) >>= fun _ => dictMade (.ref 44) e d) _ _ _
  have hn : s.heap.get? s.heap.objs.size = none := Heap.get?_none_of_le (Nat.le_refl _)
  have hne : e ≠ s.heap.objs.size := fun q => by rw [q, hn] at he; cases he
  have he₁ := Heap.get?_push_of_some { cls := .type "dict", data := .dict #[] } he
  refine wpAny_bind (wpAny_alloc (wpAny_bind (wpAny_update he₁ (wpAny_pure ?_))))
  show wpAny _ _ (Builtin.ObjectAttr.storeInDict s.heap.objs.size (.str "text" s.toks) "text" v) _ _ _
  unfold Builtin.ObjectAttr.storeInDict
  generalize hH : (s.heap.push { cls := .type "dict", data := .dict #[] }).update e (fun o => { o with dict := some s.heap.objs.size }) = H
  have hD : H.get? s.heap.objs.size = some { cls := .type "dict", data := .dict #[] } := by
    rw [← hH, Heap.get?_update_other _ _ hne]; exact Heap.get?_push_size _ rfl
  have hE : H.get? e = some { cls := .ref 44, dict := some s.heap.objs.size, data := .fields vs } := by
    rw [← hH]; exact Heap.get?_update_self _ he₁ rfl
  have hN : H.Ns1 s.heap.objs.size fun _ => none := ⟨_, #[], 0, hD, rfl, fun _ h => by simp at h, by unfold UniqKeys; simp, fun _ => rfl⟩
  refine wpAny_bind (wpAny_pure (wpAny_bind ?_))
  refine wpAny_nsSet1 (s := { s with heap := H, toks := s.toks + 1 }) hN fun h' hn' hsb => ?_
  obtain ⟨oD, esD, epD, hoD, hdD, hcD⟩ := hn'.count (ns := ["text"]) (fun y hy => by
    by_cases q : y = "text"
    · rw [q]; exact .head _
    · simp [q] at hy)
  refine wpAny_bind (wpAny_lookBehind hoD (by rw [hdD]; exact pastItsLine_dict (Nat.le_trans hcD (by rw [sizeLine_eq]; decide))) ?_)
  refine wpAny_pure ?_
  refine h h' _ s.heap.objs.size (fun b o hb e' => ?_) ((hsb.2 e hne).trans hE)
  have hbn : b ≠ s.heap.objs.size := fun q => by rw [q, hn] at e'; cases e'
  refine (hsb.2 b hbn).trans ?_
  rw [← hH, Heap.get?_update_other _ _ (Ne.symm hb)]
  exact Heap.get?_push_of_some _ e'
end
end Mine

end

section
open PySem PySem.W PyProof.Rows PySem.Calls
set_option linter.unusedVariables false
set_option maxRecDepth 1000000
set_option tactic.hygienic false
namespace Mine

noncomputable def badTail : List Value := [.ref 31, .type "Exception", .type "BaseException", .type "object"]

/-- the class of the refusals as it lies -/
inductive BadAt (B : Heap) : Prop
  | mk (nm q : Str) (N : Addr) (bs : List Value) (hdct : Bool) (sn : List Str) (sub : List Value) (ab : Bool) (col : Option Bool) (dd : Option Addr) (k0 k1 k2 k3 k5 : Option Value)
      (h : B.get? 44 = some (excClassObj nm q 44 N bs badTail hdct sn sub ab col dd k0 k1 k2 k3 k5 "Exception.__new__")) : BadAt B
theorem uncons {α : Type} {n : Nat} {l : List α} (h : l.length = n + 1) : ∃ a r, l = a :: r ∧ r.length = n := by
  cases l with
  | nil => exact nomatch h
  | cons a r => exact ⟨a, r, rfl, Nat.succ.inj h⟩
theorem six {l : List (Option Value)} {x : Option Value} (h : l.length = 6) (h4 : l[4]? = some x) : ∃ k0 k1 k2 k3 k5, l = [k0, k1, k2, k3, x, k5] := by
  obtain ⟨k0, r0, e0, g0⟩ := uncons h
  obtain ⟨k1, r1, e1, g1⟩ := uncons g0
  obtain ⟨k2, r2, e2, g2⟩ := uncons g1
  obtain ⟨k3, r3, e3, g3⟩ := uncons g2
  obtain ⟨k4, r4, e4, g4⟩ := uncons g3
  obtain ⟨k5, r5, e5, g5⟩ := uncons g4
  rw [e0, e1, e2, e3, e4, e5, List.eq_nil_of_length_eq_zero g5] at h4 ⊢
  exact ⟨k0, k1, k2, k3, k5, by rw [Option.some.inj (show some k4 = some x from h4)]⟩
theorem bad_obj {K : Frag} {B : Heap} (F : Kf K) (X : K.In B) : BadAt B := by
  obtain ⟨o, ho, h⟩ := Option.map_eq_some_iff.mp F.badCls
  have hb := X _ _ ho
  obtain ⟨c, d, dt, ⟨l⟩⟩ := o
  obtain ⟨h1, h⟩ := Prod.mk.inj h
  obtain ⟨h2, h⟩ := Prod.mk.inj h
  obtain ⟨h3, h4⟩ := Prod.mk.inj h
  cases dt with
  | cls cd =>
    obtain ⟨h2, h5⟩ := Prod.mk.inj (Option.some.inj h2)
    obtain ⟨nm, bs, mro, ns, q, hd, sn, sub, ab, col, del⟩ := cd
    obtain ⟨k0, k1, k2, k3, k5, e⟩ := six h4 h3
    have h1 : c = .type "type" := h1
    have h2 : mro = badMro := h2
    have h5 : del = false := h5
    have e : l = _ := e
    rw [e, h1, h2, h5] at hb
    exact ⟨nm, q, ns, bs, hd, sn, sub, ab, col, d, k0, k1, k2, k3, k5, hb⟩
  | _ => exact no h2

section
variable {prog : Program} {w : World} {A : Around} {E : Value → Shared → Prop} {s : Shared} {K : Frag}

theorem mk_bad {B : Heap} (prog : Program) (G : Gr w B K) : BadOk (mkC prog w B K) := by
  obtain ⟨nm, q, N, bs, hdct, sn, sub, ab, col, dd, k0, k1, k2, k3, k5, hb⟩ := bad_obj G.F G.X
  exact ⟨44, nm, q, N, bs, badTail, hdct, sn, sub, ab, col, dd, k0, k1, k2, k3, k5, _, rfl, hb, rfl, glob_fn G (mem_of_lookup' rfl)⟩

theorem exc_init (F : Kf K) (X : K.In s.heap) {e t0 : Addr} {txt : Value} {Q : Value → Shared → Prop} (he : s.heap.get? e = some { cls := .ref 44, dict := none, data := .fields #[.ref t0, .none, .none, .none, .bool false, .none] })
    (h : ∀ h' tk t, (∀ b o, b ≠ e → s.heap.get? b = some o → h'.get? b = some o) → h'.get? e = some { cls := .ref 44, dict := none, data := .fields #[.ref t, .none, .none, .none, .bool false, .none] } → Q .none { s with heap := h', toks := tk }) :
    wpAny (model prog w) A (call (.builtin "Exception.__init__") [.ref e, txt]) Q E s := by
  obtain ⟨nm, q, N, bs, hdct, sn, sub, ab, col, dd, k0, k1, k2, k3, k5, hC⟩ := bad_obj F X
  obtain ⟨h₀, g, d, t, os⟩ := s
  have F := PySem.F.excBase_Exception
  have hcB : (Value.ref 44 :: badTail).contains (.type "Exception") = true := by rfl
  have hshort := F.noStar
  refine wpAny_call (codeAny_call_builtin F.init.plain F.initEntry ?_)
  simp only [checkBuiltinCall, F.initKind, F.initSplit, F.initRow]
  repeat (first | (with_reducible refine wpAny_loadPart_at he ?_) | with_reducible refine wpAny_loadPart_at hC ?_ | (with_reducible refine wpAny_isSubtype_exc hC ?_; rw [hcB]) | wp_step)
  have hn : h₀.get? h₀.objs.size = none := Heap.get?_none_of_le (Nat.le_refl _)
  have he' : (h₀.push { cls := .type "tuple", data := .seq #[txt] }).get? e = some { cls := .ref 44, dict := none, data := .fields #[.ref t0, .none, .none, .none, .bool false, .none] } := Heap.get?_push_of_some _ he
  refine h _ t h₀.objs.size (fun b o hb eb => ?_) ?_
  · rw [Heap.get?_update_other _ _ (Ne.symm hb)]
    exact Heap.get?_push_of_some _ eb
  · rw [Heap.get?_update_self _ he' rfl]
    rfl

theorem type_method {K : Frag} {T : String} {name : Str} {v : Value} {pl : Sem Bool} {Q : Value × List Value → Shared → Prop} (X : K.In s.heap) (ht : typeOf (.type T) = pure (.type "type")) (hs : Manifest.isStub T = false)
    (e : findCls K (.type T) (.type "type") name = some (.val v)) (hh : handedIn v = true) (h : Q (v, []) { s with toks := s.toks + 1 }) : wpAny (model prog w) A (getMethod (.type T) name pl) Q E s := by
  have hstub : opaqueClassAbove (.type T) = pure none := by unfold opaqueClassAbove; dsimp only; rw [hs]; rfl
  have L0 : Looks (model prog w) s.heap (typeOf (.type T)) (.type "type") := Looks.of_pure ht
  have hg : findIn K (.type "type") "__getattribute__" = some (some (.builtin "type.__getattribute__")) := type_tga
  unfold getMethod specialOf
  refine wpAny_bind (wpAny_bind (L0.here ((looks_findIn X hg).here ?_)))
  dsimp only
  rw [if_pos canon_tga]
  refine wpAny_bind (wpAny_mono (Q := fun v => Q (v, [])) (E := E) ?_ (fun _ _ z => wpAny_pure z) fun _ _ z => z)
  have LO : Looks (model prog w) s.heap (opaqueClassAbove (.type T)) none := Looks.of_pure hstub
  refine cls_open X LO L0 hg (looks_hook X (r := none) (by rfl)) (by show subIn K _ _ = _; rfl) e
    (wpAny_pure (by show wpAny _ _ (handedOut v) _ _ _; rw [handedOut_of hh]; exact wpAny_pure h))

/-- the body of the refusals' own __init__ -/
theorem init_body (F : Kf K) (X : K.In s.heap) {env : Env} {p1 p2 p3 p4 p5 p6 p7 p8 p9 p10 : Pos} {e t0 : Addr} {txt : Value} {mm mg mb : Str → Option Value} {Q : Flow → Shared → Prop} (hk : env.scope.kind = .function)
    (k1 : env.kindOf "self" = some .local) (k2 : env.kindOf "text" = some .local) (k3 : env.kindOf "Exception" = some .globalImplicit) (hg : env.globals = mainGlobals) (hb : env.builtins = builtinsNs) (hline : (p2.endLine == p5.line) = true)
    (hns : s.heap.Ns env.locals mm) (m1 : mm "self" = some (.ref e)) (m2 : mm "text" = some txt) (hne : e ≠ env.locals) (hKe : K.lookup e = none) (g1 : s.heap.Ns mainGlobals mg) (g2 : mg "Exception" = none) (g3 : s.heap.Ns builtinsNs mb) (g4 : mb "Exception" = some (.type "Exception"))
    (he : s.heap.get? e = some { cls := .ref 44, dict := none, data := .fields #[.ref t0, .none, .none, .none, .bool false, .none] })
    (h : ∀ h' tk t D, (∀ b o, b ≠ e → s.heap.get? b = some o → h'.get? b = some o) → h'.get? e = some { cls := .ref 44, dict := some D, data := .fields #[.ref t, .none, .none, .none, .bool false, .none] } → Q .next { s with heap := h', toks := tk }) :
    wpAny (model prog w) A (execs [.Expr (.Call (.Attribute (.Name "Exception" p1) "__init__" p2) [.Name "self" p3, .Name "text" p4] [] p5) p6, .Assign [.Attribute (.Name "self" p7) "text" p8] (.Name "text" p9) p10] env) Q E s := by
  have hi : interactive env = false := by unfold interactive; rw [hk]; rfl
  refine wpAny_execs_cons (wpAny_Expr_any ?_ hi rfl)
  rw [arm_eval_Call, base_of (o := .Name "Exception" p1) rfl]
  refine wpAny_bind (Calls.Name_function_global hk k3 (Calls.loadGlobal_builtin (by rw [hg]; exact g1) g2 (by rw [hb]; exact g3) g4 ?_) rfl)
  refine wpAny_bind (wpAny_standAt ?_)
  have hform : methodCallForm (([.Name "self" p3, .Name "text" p4] : List Expr).length + ([] : List Keyword).length) (backTo p5 (starEach [.Name "self" p3, .Name "text" p4] env)) (backToKw p5 (keywordEach [] env)) = true := by rfl
  have hpos : methodCallPos true (.Name "Exception" p1) env p2 p5 = pure p5 := by unfold methodCallPos; simp [hline]
  unfold methodCall
  rw [hform]
  refine wpAny_bind (wpAny_holding ?_)
  rw [show ∀ (o : Expr) (ov : Value) (nm : Str), calleeOf true o env ov nm = getMethod ov nm (do return (← importBound o env).getD true) from fun _ _ _ => rfl]
  have hto : typeOf (.type "Exception") = pure (.type "type") := by kernel_rfl
  have hst : Manifest.isStub "Exception" = false := by decide +kernel
  have hki : findCls K (.type "Exception") (.type "type") (Str.ofString "__init__") = some (.val (.builtin "Exception.__init__")) := F.excInit
  have hhi : handedIn (.builtin "Exception.__init__") = true := rfl
  have hgm := fun {pl : Sem Bool} {Q : Value × List Value → Shared → Prop} (h : Q (.builtin "Exception.__init__", []) { s with toks := s.toks + 1 }) => type_method (prog := prog) (w := w) (A := A) (E := E) (s := s) (pl := pl) (Q := Q) (K := K) (T := "Exception") (name := Str.ofString "__init__") (v := .builtin "Exception.__init__") X hto hst hki hhi h
  refine hgm ?_
  refine wpAny_bind (wpAny_of_eq hpos ?_)
  refine Calls.callWith_builtin rfl (Calls.evalArgs_plain (Calls.spliced_cons (wpAny_Name (wpAny_loadName_local (s := { s with toks := s.toks + 1 }) hk k1 hns m1 (Calls.spliced_cons (wpAny_Name (wpAny_loadName_local (s := { s with toks := s.toks + 1 }) hk k2 hns m2 (Calls.spliced_nil ?_)) rfl))) rfl)))
  refine exc_init (s := { s with toks := s.toks + 1 }) F X he fun h₁ tk₁ t₁ keep₁ at₁ => ?_
  have hns₁ : h₁.Ns env.locals mm := hns.at' fun o eo => keep₁ _ o (Ne.symm hne) eo
  have X₁ : K.In h₁ := fun a o ho => keep₁ a o (fun q => by rw [q, hKe] at ho; cases ho) (X _ _ ho)
  refine wpAny_execs_cons (plainObj_wpAny_Assign_Attribute ?_)
  refine wpAny_Name (wpAny_loadName_local (s := { s with heap := h₁, toks := tk₁ }) hk k2 hns₁ m2 ?_) rfl
  refine wpAny_Name (wpAny_loadName_local (s := { s with heap := h₁, toks := tk₁ }) hk k1 hns₁ m1 ?_) rfl
  refine bad_set_text (s := { s with heap := h₁, toks := tk₁ }) F X₁ at₁ fun h₂ tk₂ D keep₂ at₂ => ?_
  exact wpAny_execs_nil (h h₂ tk₂ t₁ D (fun b o hb eo => keep₂ b o hb (keep₁ b o hb eo)) at₂)
end
end Mine

end

section
open PySem PySem.W PyProof.Rows PySem.Calls
set_option linter.unusedVariables false
set_option maxRecDepth 1000000
set_option tactic.hygienic false
namespace Mine

section
variable {prog : Program} {w : World} {A : Around} {E : Value → Shared → Prop} {R : Result → Shared → Prop} {h : Heap} {g : Array GenState} {d : Drawn} {t : Nat} {os : OsState} {K : Frag}
variable {nm q : Str} {N : Addr} {bs : List Value} {hdct : Bool} {sn : List Str} {sub : List Value} {ab : Bool} {col : Option Bool} {dd : Option Addr} {k0 k1 k2 k3 k5 : Option Value}

theorem bad_check_new {M : Model} {rest : List Value} {Q : Unit → Shared → Prop} (hC : h.get? 44 = some (excClassObj nm q 44 N bs badTail hdct sn sub ab col dd k0 k1 k2 k3 k5 "Exception.__new__"))
    (hq : Q () ⟨h, g, d, t, os⟩) : wpAny M A (checkBuiltinCall "Exception.__new__" ⟨.ref 44 :: rest, []⟩) Q E ⟨h, g, d, t, os⟩ := by
  have Fn := PySem.F.excBase_Exception
  have hcont : (Value.ref 44 :: badTail).contains (.type "Exception") = true := by rfl
  have hstar := Fn.noStar
  simp only [checkBuiltinCall, Fn.newKind, Fn.newSplit, Fn.newRow]
  repeat (first | refine wpAny_loadPart_at hC ?_ | (refine wpAny_isSubtype_exc hC ?_; rw [hcont]) | refine wpAny_staticBase_exc hC ?_ | refine wpAny_madeBy_exc hC ?_ | simp only [bne_self_eq_false, Bool.false_eq_true, if_false] | wp_step)
  exact hq

theorem bad_new {rest : List Value} (hC : h.get? 44 = some (excClassObj nm q 44 N bs badTail hdct sn sub ab col dd k0 k1 k2 k3 k5 "Exception.__new__"))
    (hq : R (.ok (.ret (.ref (h.objs.size + 1)))) ⟨(h.push { cls := .type "tuple", data := .seq rest.toArray }).push
      { cls := .ref 44, data := .fields #[.ref h.objs.size, .none, .none, .none, .bool false, .none] }, g, d, t, os⟩) (hrest : rest.length ≤ sizeLine) :
    codeAny (model prog w) A (.builtin "Exception.__new__" ⟨.ref 44 :: rest, []⟩) R ⟨h, g, d, t, os⟩ := by
  have Fn := PySem.F.excBase_Exception
  have hends := Fn.ends
  have hcB : (Value.ref 44 :: badTail).contains (.type "Exception") = true := by rfl
  have hcA : (Value.ref 44 :: badTail).contains (.type "AttributeError") = false := by rfl
  have hcN : (Value.ref 44 :: badTail).contains (.type "NameError") = false := by rfl
  refine codeAny_builtinAt Fn.entry ?_
  unfold Builtin.«BaseException.__new__»
  refine PySem.wpAt_bind ?_
  show PySem.wpAt _ _ _ (stack >>= _) _ _ _
  refine PySem.wpAt_bind (PySem.wpAt_stack fun p below => PySem.wpAt_of_wpAny ?_)
  wp_walk
  refine PySem.wpAt_of_wpAny ?_
  rw [Fn.owner]
  repeat (first | with_reducible refine wpAny_madeHere_exc Fn.canon hC ?_ | with_reducible refine wpAny_loadPart_at hC ?_ | (with_reducible refine wpAny_isSubtype_exc hC ?_; first | rw [hcB] | rw [hcA] | rw [hcN]) | wp_step)
  show R _ _
  rw [Heap.size_push]
  exact hq

theorem bad_call (F : Kf K) (X : K.In h) {txt : Value} {Q : Value → Shared → Prop}
    (hq : ∀ t0, t0 = h.objs.size → wpAny (model prog w) (A.under (.builtin "type.__call__" ⟨[.ref 44, txt], []⟩)) (call (.ref 28) [.ref (h.objs.size + 1), txt]) (fun v s' => v = .none ∧ Q (.ref (h.objs.size + 1)) s') E
      ⟨(h.push { cls := .type "tuple", data := .seq #[txt] }).push { cls := .ref 44, data := .fields #[.ref t0, .none, .none, .none, .bool false, .none] }, g, d, t, os⟩) :
    wpAny (model prog w) A (call (.ref 44) [txt]) Q E ⟨h, g, d, t, os⟩ := by
  obtain ⟨nm, q, N, bs, hdct, sn, sub, ab, col, dd, k0, k1, k2, k3, k5, hC⟩ := bad_obj F X
  have Fn := PySem.F.excBase_Exception
  have f1 := tc_lookup
  have f2 := tc_bind (.ref 44)
  have hT : (⟨h, g, d, t, os⟩ : Shared).TypeIs (.ref 44) "type" := ⟨_, hC, rfl⟩
  refine wpAny_call (codeAny_of_tree ?_)
  show wpAny _ _ (callAny (.ref 44) _) _ _ _
  repeat (any_goals (first | assumption | with_reducible refine wpAny_loadPart_at hC ?_ | wp_step))
  refine ⟨rfl, ?_⟩
  refine codeAny_call_builtin_at (Code.quiet_builtin _ (by decide +kernel)) entry_typeCall (wpAny_check_type_call_sub hC ?_)
  unfold Builtin.«type.__call__»
  repeat (first | with_reducible refine wpAny_loadPart_at hC ?_ | with_reducible refine wpAny_madeBy_exc hC ?_ | wp_step)
  refine codeAny_call_builtin_code (Code.quiet_builtin _ Fn.quiet) (bad_check_new hC ?_)
  refine bad_new hC ?_ (by rw [sizeLine_eq]; simp)
  show wpAny _ _ _ _ _ _
  have hC₁ := Heap.get?_push_of_some { cls := .ref 44, data := .fields #[.ref h.objs.size, .none, .none, .none, .bool false, .none] }
    (Heap.get?_push_of_some { cls := .type "tuple", data := .seq [txt].toArray } hC)
  have X₁ : K.In ((h.push { cls := .type "tuple", data := .seq [txt].toArray }).push { cls := .ref 44, data := .fields #[.ref h.objs.size, .none, .none, .none, .bool false, .none] }) :=
    X.keeps fun b o e => Heap.get?_push_of_some _ (Heap.get?_push_of_some _ e)
  have hget : ((h.push { cls := .type "tuple", data := .seq [txt].toArray }).push
      { cls := .ref 44, data := .fields #[.ref h.objs.size, .none, .none, .none, .bool false, .none] }).get? (h.objs.size + 1) = some
      { cls := .ref 44, data := .fields #[.ref h.objs.size, .none, .none, .none, .bool false, .none] } := by heap_get
  have hcC : (Value.ref 44 :: badTail).contains (.ref 44) = true := by rfl
  unfold isInstance
  repeat (first | with_reducible refine wpAny_loadPart_at hget ?_ | (with_reducible refine wpAny_isSubtype_exc hC₁ ?_; rw [hcC]) | wp_step)
  refine (looks_mroIn X₁ F.badSelf).here ?_
  have t1 : Looks (model prog w) ((h.push { cls := .type "tuple", data := .seq [txt].toArray }).push { cls := .ref 44, data := .fields #[.ref h.objs.size, .none, .none, .none, .bool false, .none] }) (typeOf (.ref (h.objs.size + 1))) (.ref 44) := (Looks.ld hget).andThen .now
  rw [if_neg (by decide)]
  refine wpAny_bind (wpAny_holding ?_)
  unfold callSpecial? specialOf
  refine wpAny_bind (wpAny_bind (t1.here ((looks_findIn X₁ F.badInit).here ?_)))
  refine wpAny_holding (wpAny_bind ((bind_fn X₁ (.ref (h.objs.size + 1)) F.initFn).here ?_))
  refine wpAny_bind (wpAny_mono (hq _ rfl) (fun v s' hv => ?_) fun _ _ x => x)
  obtain ⟨rfl, hv⟩ := hv
  exact wpAny_pure (wpAny_pure hv)
end

theorem k_exc_boot : bootBuiltins "Exception" = some (.type "Exception") := by kernel_rfl

section
variable {prog : Program} {w : World} {A : Around} {E : Value → Shared → Prop} {s : Shared} {B : Heap} {K : Frag}

theorem bad_init_call (G : Gr w B K) (hB : B.StaysIn s.heap) (hd : A.depth < recursionLimit) {e t0 : Addr} {txt : Value} {Q : Value → Shared → Prop} (hKe : K.lookup e = none)
    (he : s.heap.get? e = some { cls := .ref 44, dict := none, data := .fields #[.ref t0, .none, .none, .none, .bool false, .none] })
    (h : ∀ h' tk t D, (∀ b o, b ≠ e → s.heap.get? b = some o → h'.get? b = some o) → h'.get? e = some { cls := .ref 44, dict := some D, data := .fields #[.ref t, .none, .none, .none, .bool false, .none] } → Q .none { s with heap := h', toks := tk }) :
    wpAny (model prog w) A (call (.ref 28) [.ref e, txt]) Q E s := by
  have X : K.In s.heap := G.X.keeps hB
  have hk := G.F.init
  unfold initChk at hk
  cases hfd : initFn K with
  | none => rw [hfd] at hk; exact noB hk
  | some fd =>
    rw [hfd] at hk
    have hk : (codeIn K fd.code fd.qualname && fd.closure.isEmpty && fd.globals == mainGlobals && fd.builtins == builtinsNs && initScope fd.scope && initBody fd.body) = true := hk
    rw [Bool.and_eq_true, Bool.and_eq_true, Bool.and_eq_true, Bool.and_eq_true, Bool.and_eq_true, List.isEmpty_iff, beq_iff_eq, beq_iff_eq] at hk
    obtain ⟨⟨⟨⟨⟨c1, c2⟩, c3⟩, c4⟩, c5⟩, c6⟩ := hk
    unfold initScope at c5
    rw [Bool.and_eq_true, Bool.and_eq_true, Bool.and_eq_true, Bool.and_eq_true, Bool.and_eq_true, Bool.and_eq_true, beq_iff_eq, beq_iff_eq, beq_iff_eq, beq_iff_eq] at c5
    obtain ⟨⟨⟨⟨⟨⟨s1, s2⟩, s3⟩, s4⟩, s5⟩, s6⟩, s7⟩ := c5
    obtain ⟨body, hbody, p1, p2, p3, p4, p5, p6, p7, p8, p9, p10, hb, hline⟩ := initBody_ok c6
    rw [hb] at hbody
    clear c6 hb
    have ho : ∃ oc od osl, K.lookup 28 = some ⟨oc, od, .func fd, osl⟩ := by
      unfold initFn at hfd
      cases q : K.lookup 28 with
      | none => rw [q] at hfd; exact no hfd
      | some o =>
        rw [q] at hfd
        obtain ⟨oc, od, dt, osl⟩ := o
        cases dt with
        | func fd' => exact ⟨oc, od, osl, by rw [Option.some.inj (show some fd' = some fd from hfd)]⟩
        | _ => exact no hfd
    obtain ⟨oc, od, osl, ho⟩ := ho
    obtain ⟨mg, mb, g1, g2, g3⟩ := G.ns
    have hbind : BindsTo s fd ⟨[.ref e, txt], []⟩ [(("self" : Str), .ref e), (("text" : Str), txt)] := binds_of X fun S => by
      have := congrFun (congrFun (congrFun G.F.badD S) (.ref e)) txt
      rw [hfd] at this; exact this
    refine wpAny_call (codeAny_call_def hd (X _ _ ho) rfl (G.nolimit.keeps hB) (codeRec_of X c1) hbody hbind (fun x hx => bne_iff_ne.mp (List.all_eq_true.mp s4 x hx)) (fun x hx => by
      rcases List.mem_cons.mp hx with q | q
      · rw [q]; exact s5
      · rw [List.mem_singleton.mp q]; exact s6) (fun h₀ hns hk₀ => ?_) (not_true s2) (not_true s3) s1)
    have hel : e < s.heap.objs.size := Heap.lt_size he
    refine init_body (prog := prog) (w := w) (s := { s with heap := h₀, toks := s.toks + 2 }) G.F (X.keeps hk₀) (env := callEnv fd s.heap.objs.size 28) s1 s5 s6 s7 c3 c4 hline hns rfl rfl (Nat.ne_of_lt hel) hKe
      ((g1.keeps hB).keeps hk₀) (ns_of_nsIn G.X g1 G.F.excGlob) ((g2.keeps hB).keeps hk₀) (by rw [g3 _ (by decide)]; exact k_exc_boot) (hk₀ _ _ he) fun h' tk t D keep' at' => ?_
    exact h h' tk t D (fun b o hb eo => keep' b o hb (hk₀ b o eo)) at'
end
end Mine

end

section
open PySem PySem.W PyProof.Rows PySem.Calls
set_option linter.unusedVariables false
set_option maxRecDepth 1000000
set_option tactic.hygienic false
namespace Mine

section
variable {M : Model} {A : Around} {E : Value → Shared → Prop} {env : Env}
theorem raise_own {s : Shared} {K : Frag} (F : Kf K) {x : Sem Value} {Q : Flow → Shared → Prop} (hh : A.handled = none)
    (h : wpAny M A x (fun v s₁ => ∃ e D t, v = .ref e ∧ K.In s₁.heap ∧ s₁.heap.get? e = some { cls := .ref 44, dict := some D, data := .fields #[.ref t, .none, .none, .none, .bool false, .none] } ∧ E (.ref e) s₁) E s) :
    wpAny M A (raiseStmt env (some x) none) Q E s := by
  unfold raiseStmt
  refine wpAny_bind (wpAny_mono h (fun v s₁ h₁ => ?_) fun _ _ x => x)
  obtain ⟨e, D, t, rfl, X, he, hE⟩ := h₁
  obtain ⟨nm, q, N, bs, hdct, sn, sub, ab, col, dd, k0, k1, k2, k3, k5, hC⟩ := bad_obj F X
  have hcB : (Value.ref 44 :: badTail).contains (.type "BaseException") = true := by rfl
  obtain ⟨hp, g, d, tk, os⟩ := s₁
  repeat (first | with_reducible refine wpAny_loadPart_at he ?_ | with_reducible refine wpAny_loadPart_at hC ?_ | (with_reducible refine wpAny_isSubtype_exc hC ?_; rw [hcB]) | wp_step)
  exact wpAny_raiseNew_none hh hE
end

theorem SR.hide {C : Ctx} {n : Nat} {A : Around} {fr : List Env} {env : Env} {m : Loc} {σ : Store} {ρ : List Addr} {s : Shared} (sit : Sit C n A fr env m σ ρ s) : SR C σ ρ (hideAll s.heap (frAt fr)) := by
  have dictAt : ∀ L, L ∈ frAt fr → ∃ o, s.heap.get? L = some o ∧ (∃ es ep, o.data = .dict es ep) ∧ L ∉ ρ ∧ C.B.get? L = none := fun L hL => by
    obtain ⟨e, he, hfe⟩ := List.mem_filterMap.mp hL
    obtain ⟨_, L', o, a1, a2, a3, a4, a5⟩ := sit.fok e he
    rw [hfe] at a1; cases a1
    exact ⟨o, a3, a4, a5, a2⟩
  have sr := sit.rel.sr
  refine ⟨sr.len, fun i o a e1 e2 => (sr.obj i o a e1 e2).mono (fun _ _ e => e) (fun b o e hi => hideAll_get _ e fun hm => ?_) (fun o e => hideAll_get _ e fun hm => ?_), sr.inj, sr.new, fun b o e => hideAll_get _ (sr.base b o e) fun hm => ?_⟩
  · obtain ⟨o', e', ⟨es, ep, hd⟩, _⟩ := dictAt b hm
    rw [e] at e'; cases e'; exact not_imm_dict hd hi
  · exact (dictAt a hm).choose_spec.2.2.1 (List.mem_of_getElem? e2)
  · obtain ⟨_, _, _, _, hB⟩ := dictAt b hm
    rw [hB] at e; cases e

theorem made_here {C : Ctx} {n : Nat} {A : Around} {fr : List Env} {env : Env} {m : Loc} {σ : Store} {ρ : List Addr} {s s' : Shared} {X : Store → Prop} {e t D : Addr} (sit : Sit C n A fr env m σ ρ s) (hK : C.fnv "BadTable" = some (.ref 44)) (hX : X σ)
    (hn : s.heap.get? e = none) (hk : ∀ b o, s.heap.get? b = some o → s'.heap.get? b = some o) (he : s'.heap.get? e = some { cls := .ref 44, dict := some D, data := .fields #[.ref t, .none, .none, .none, .bool false, .none] })
    (hg : s'.gens = s.gens) (hos : s'.os = s.os) : ExcG MadeW C fr X (exOf env) ρ s (.ref e) s' := by
  refine ⟨σ, ρ, e, .ref t, hideAll s.heap (frAt fr), 44, hX, rfl, hK, ⟨fun b o q => hk b o (of_hideAll _ q), ?_, ?_, _, _, he, rfl, rfl, rfl, rfl⟩, SR.hide sit, hg, hos, fun _ _ q => q, fun a h1 h2 => absurd h1 h2, fun b o q h1 h2 h3 => .inl (hideAll_get _ q h3), fun L o hL _ q => ⟨o.slots, hk L o q⟩⟩
  · cases q : (hideAll s.heap (frAt fr)).get? e with
    | none => rfl
    | some o => have := of_hideAll _ q; rw [hn] at this; cases this
  · have key : ∀ l : List Env, (∀ x ∈ l, x ∈ fr) → s'.heap.FunFrames (hideAll s.heap (frAt fr)) l := by
      intro l
      induction l with
      | nil => intro _; trivial
      | cons x r ih =>
        intro hx
        obtain ⟨hkd, L, o, a1, a2, a3, ⟨es, ep, a4⟩, a5⟩ := sit.fok x (hx x (.head _))
        exact ⟨hkd, ⟨L, o, a1, hideAll_none _ (List.mem_filterMap.mpr ⟨x, hx x (.head _), a1⟩), hk L o a3, fun vs q => by rw [a4] at q; cases q⟩, ih fun y hy => hx y (.tail _ hy)⟩
    exact key fr fun x hx => hx

theorem mk_raise {w : World} {B : Heap} {K : Frag} (prog : Program) (G : Gr w B K) (n : Nat) : RaiseOk (mkC prog w B K) n := fun A fr env m σ ρ s k X x t np cp cpos pos kd EB Q hk sit ps hx hg hxn hX => by
  rw [arm_exec_Raise]
  have hB : B.StaysIn s.heap := sit.rel.sr.base
  have OK := mk_ok G prog
  refine wpAny_bind (wpAny_standAt (raise_own G.F sit.room.handled (wpAny_bind (wpAny_mono (Q := fun v s₁ => ∃ e D t, v = .ref e ∧ K.In s₁.heap ∧ s₁.heap.get? e = some { cls := .ref 44, dict := some D, data := .fields #[.ref t, .none, .none, .none, .bool false, .none] } ∧ EB (.ref e) s₁) ?_ (fun v s₃ h₃ => wpAny_bind (wpAny_standAt (wpAny_pure h₃))) fun _ _ x => x))))
  have hgl : GlobAt (mkC prog w B K) x.toString (.ref 44) := by rw [hxn]; exact glob_fn G (mem_of_lookup' rfl)
  refine wpAny_Call_Name_kw (Calls.Name_function_global hk.kind (hk.glob _ hg) (load_globAt hk sit (nameOk_eq hx).1 hgl ?_) (nameOk_eq hx).2)
  rw [starEach_plain cpos env (by rfl), map_false]
  refine callWith_any (C := mkC prog w B K) (fun q => nomatch q) ?_
  refine Calls.spliced_cons (wpAny_Constant_str (Calls.spliced_nil ?_))
  have hB' : B.StaysIn ({ s with toks := s.toks + 1 } : Shared).heap := hB
  refine ⟨hB', keep_fn G prog (c := .ref 44) (x := "BadTable") (mem_of_lookup' rfl), ?_⟩
  have XX : K.In s.heap := G.X.keeps hB
  have hlt : ∀ b o, s.heap.get? b = some o → b < s.heap.objs.size := fun b o e => Heap.lt_size e
  have hne : s.heap.get? (s.heap.objs.size + 1) = none := Heap.get?_none_of_le (Nat.le_succ _)
  have hKe : K.lookup (s.heap.objs.size + 1) = none := by
    cases q : K.lookup (s.heap.objs.size + 1) with
    | none => rfl
    | some o => have := XX _ _ q; rw [hne] at this; cases this
  show wpAny _ _ (call (.ref 44) [.str t s.toks]) _ _ ⟨s.heap, s.gens, s.drawn, s.toks + 1, s.os⟩
  refine bad_call G.F XX fun t0 ht0 => ?_
  subst ht0
  have k2 : ∀ b o, s.heap.get? b = some o → ((s.heap.push { cls := .type "tuple", data := .seq #[.str t s.toks] }).push { cls := .ref 44, data := .fields #[.ref s.heap.objs.size, .none, .none, .none, .bool false, .none] }).get? b = some o := fun b o e => Heap.get?_push_of_some _ (Heap.get?_push_of_some _ e)
  refine bad_init_call (s := ⟨(s.heap.push { cls := .type "tuple", data := .seq #[.str t s.toks] }).push { cls := .ref 44, data := .fields #[.ref s.heap.objs.size, .none, .none, .none, .bool false, .none] }, s.gens, s.drawn, s.toks + 1, s.os⟩)
    (t0 := s.heap.objs.size) G (fun b o e => k2 b o (hB b o e)) (by
      have := sit.room.depth
      have hw : (Code.builtin "type.__call__" ⟨[.ref 44, .str t s.toks], []⟩).weight = 1 := by kernel_rfl
      show A.depth + (Code.builtin "type.__call__" ⟨[.ref 44, .str t s.toks], []⟩).weight < recursionLimit
      rw [hw]; omega) hKe ?_ fun h' tk t' D keep' at' => ?_
  · have := Heap.get?_push_size (s.heap.push { cls := .type "tuple", data := .seq #[.str t s.toks] }) (o := { cls := .ref 44, data := .fields #[.ref s.heap.objs.size, .none, .none, .none, .bool false, .none] }) rfl
    rw [Heap.size_push] at this
    exact this
  · refine ⟨rfl, s.heap.objs.size + 1, D, t', rfl, ?_, at', ?_⟩
    · exact fun a o ho => keep' a o (fun q => by rw [q, hKe] at ho; cases ho) (k2 _ _ (XX _ _ ho))
    · refine ps.made _ _ (made_here sit rfl hX hne (fun b o eb => keep' b o (fun q => by rw [q, hne] at eb; cases eb) (k2 b o eb)) at' rfl rfl)

end Mine

end

section
open PySem PySem.W PyProof.Rows PySem.Calls
set_option linter.unusedVariables false
set_option maxRecDepth 1000000
set_option maxHeartbeats 0
set_option tactic.hygienic false
namespace Mine

theorem mk_geo {w : World} {B : Heap} {K : Frag} (prog : Program) (G : Gr w B K) : GeoOk (mkC prog w B K) := fun n vs σ Q X m₀ hb h A fr ρ s c cs h1 h2 h3 h4 h5 h6 => by
  have hc : (mkC prog w B K).fnv "Geometry" = some (.ref 65) := rfl
  rw [hc] at h6; cases h6
  have hB : B.StaysIn s.heap := h4.base
  have XX : K.In s.heap := G.X.keeps hB
  have hn0 : s.heap.get? s.heap.objs.size = none := Heap.get?_none_of_le (Nat.le_refl _)
  have hk1 : ∀ b o, s.heap.get? b = some o → (s.heap.push emptyDict).get? b = some o := fun b o e => Heap.get?_push_of_some _ e
  have hs1 : (s.heap.push emptyDict).objs.size = s.heap.objs.size + 1 := Heap.size_push ..
  have hn1 : (s.heap.push emptyDict).get? (s.heap.objs.size + 1) = none := Heap.get?_none_of_le (by rw [hs1]; exact Nat.le_refl _)
  have hk2 : ∀ b o, (s.heap.push emptyDict).get? b = some o → ((s.heap.push emptyDict).push (instObj 65 s.heap.objs.size)).get? b = some o := fun b o e => Heap.get?_push_of_some _ e
  have hd : (s.heap.push emptyDict).get? s.heap.objs.size = some emptyDict := Heap.get?_push_size _ rfl
  have hx : ((s.heap.push emptyDict).push (instObj 65 s.heap.objs.size)).get? (s.heap.objs.size + 1) = some (instObj 65 s.heap.objs.size) := by
    have := Heap.get?_push_size (s.heap.push emptyDict) (o := instObj 65 s.heap.objs.size) rfl
    rw [hs1] at this; exact this
  have sr1 : SR (mkC prog w B K) (σ ++ [.ns fun _ => none]) (ρ ++ [s.heap.objs.size]) (s.heap.push emptyDict) :=
    h4.alloc hn0 hk1 ⟨fun _ => none, ⟨_, #[], 0, hd, rfl, fun _ h => (nomatch h), by unfold UniqKeys; simp, fun _ => rfl⟩, fun y hy => (nomatch hy), fun x v e => (nomatch e)⟩
  have sr2 : SR (mkC prog w B K) (σ ++ [.ns fun _ => none] ++ [.inst "Geometry" σ.length]) (ρ ++ [s.heap.objs.size] ++ [s.heap.objs.size + 1]) ((s.heap.push emptyDict).push (instObj 65 s.heap.objs.size)) :=
    sr1.alloc hn1 hk2 ⟨_, _, hc, by rw [← h4.len, List.append_assoc, List.getElem?_append_right (Nat.le_refl _), Nat.sub_self]; rfl, hx⟩
  have p1 : Post (mkC prog w B K) noEx ρ (ρ ++ [s.heap.objs.size]) s { s with heap := s.heap.push emptyDict } := .alloc hn0 (fun q => q) hk1 rfl rfl
  have p2 : Post (mkC prog w B K) noEx (ρ ++ [s.heap.objs.size]) (ρ ++ [s.heap.objs.size] ++ [s.heap.objs.size + 1]) { s with heap := s.heap.push emptyDict } { s with heap := (s.heap.push emptyDict).push (instObj 65 s.heap.objs.size) } :=
    .alloc hn1 (fun q => q) hk2 rfl rfl
  have p12 := p1.trans p2
  have fok2 : FrOk (mkC prog w B K) (ρ ++ [s.heap.objs.size] ++ [s.heap.objs.size + 1]) ((s.heap.push emptyDict).push (instObj 65 s.heap.objs.size)) fr :=
    FrOk.post (s := s) (s' := { s with heap := (s.heap.push emptyDict).push (instObj 65 s.heap.objs.size) }) h3 p12 fun b o hb => hb.elim
  have hvs : VRs (mkC prog w B K) (ρ ++ [s.heap.objs.size] ++ [s.heap.objs.size + 1]) ((s.heap.push emptyDict).push (instObj 65 s.heap.objs.size)) (.ref (σ.length + 1) :: vs) (.ref (s.heap.objs.size + 1) :: cs) :=
    .cons (.ref (by rw [← h4.len, List.getElem?_append_right (by simp)]; simp)) (h5.mono (fun i a e => getElem?_snoc_of (getElem?_snoc_of e)) fun b o e _ => hk2 b o (hk1 b o e))
  refine wpAny_call ?_
  have hw1 : (Code.builtin "type.__call__" ⟨.ref 65 :: cs, []⟩).weight = 1 := by kernel_rfl
  have hu1 : (Code.builtin "type.__call__" ⟨.ref 65 :: cs, []⟩).cUnits = 1 := by kernel_rfl
  have room : Room (A.under (Code.builtin "type.__call__" ⟨.ref 65 :: cs, []⟩)) (n + 1) := ⟨h1.handled, by
    show A.depth + (Code.builtin "type.__call__" ⟨.ref 65 :: cs, []⟩).weight + (n + 1) + 60 < recursionLimit
    rw [hw1]; have := h1.depth; omega, by
    show A.units + (Code.builtin "type.__call__" ⟨.ref 65 :: cs, []⟩).cUnits + 4 * (n + 1) + 200 < cLine
    rw [hu1]; have := h1.units; omega⟩
  have frs : (A.under (Code.builtin "type.__call__" ⟨.ref 65 :: cs, []⟩)).frames = some fr := by
    have he : (Code.builtin "type.__call__" ⟨.ref 65 :: cs, []⟩).envs = [] := by kernel_rfl
    unfold Around.under
    rw [he, h2]; rfl
  have key := fn_code (Q := fun v σ' => v = .none ∧ Q (.ref (σ.length + 1)) σ') (mk_ok G prog) (mk_bad prog G) (mk_raise prog G n) (mk_init G prog) hb h (A.under (Code.builtin "type.__call__" ⟨.ref 65 :: cs, []⟩)) fr _ { s with heap := (s.heap.push emptyDict).push (instObj 65 s.heap.objs.size) } (.ref 62) _ room frs fok2 sr2 hvs rfl
  have mk := make_core (prog := prog) (w := w) (A := A) (g := s.gens) (d := s.drawn) (t := s.toks) (os := s.os) (rest := cs) (kw := []) (makes_of XX G.F.geoMakes) (looks_findIn XX G.F.geoInit) (fun self => bind_fn XX self G.F.geoFn) (.inl rfl)
    (R := fun r s' => match r with
      | .ok (.ret v) => PC (mkC prog w B K) ρ s Q v s'
      | .ok _ => False
      | .error e => ExcP (mkC prog w B K) fr X noEx ρ s e s') (codeAny_mono key fun r s' z => ?_)
  · exact mk
  · rcases r with e | f
    · exact z.after p12 h3
    · cases f with
      | ret v =>
        obtain ⟨u, σ', ρ', ⟨rfl, hq⟩, hv, hsr, hp⟩ := z
        refine ⟨hv, .ref (σ.length + 1), σ', ρ', hq, .ref (hp.pre _ _ ?_), hsr, p12.trans hp⟩
        rw [← h4.len, List.getElem?_append_right (by simp)]; simp
      | _ => exact z.elim

theorem mk_prg {w : World} {B : Heap} {K : Frag} (prog : Program) (G : Gr w B K) : Prg (mkC prog w B K) where
  OK := mk_ok G prog
  BK := mk_bad prog G
  RK := mk_raise prog G
  geo := mk_geo prog G
  f_is_growing := mk_fn G prog (a := (fnAddrs.lookup "is_growing").get!) (List.mem_of_getElem? (i := 0) rfl) rfl rfl
  f_add_masks := mk_fn G prog (a := (fnAddrs.lookup "add_masks").get!) (List.mem_of_getElem? (i := 1) rfl) rfl rfl
  f_inner_squares := mk_fn G prog (a := (fnAddrs.lookup "inner_squares").get!) (List.mem_of_getElem? (i := 2) rfl) rfl rfl
  f_add_rays := mk_fn G prog (a := (fnAddrs.lookup "add_rays").get!) (List.mem_of_getElem? (i := 3) rfl) rfl rfl
  f_add_pawns := mk_fn G prog (a := (fnAddrs.lookup "add_pawns").get!) (List.mem_of_getElem? (i := 4) rfl) rfl rfl
  f_add_knights := mk_fn G prog (a := (fnAddrs.lookup "add_knights").get!) (List.mem_of_getElem? (i := 5) rfl) rfl rfl
  f_add_castles := mk_fn G prog (a := (fnAddrs.lookup "add_castles").get!) (List.mem_of_getElem? (i := 6) rfl) rfl rfl
  f_make_geometry := mk_fn G prog (a := (fnAddrs.lookup "make_geometry").get!) (List.mem_of_getElem? (i := 7) rfl) rfl rfl
  f_ray_attacks := mk_fn G prog (a := (fnAddrs.lookup "ray_attacks").get!) (List.mem_of_getElem? (i := 8) rfl) rfl rfl
  f_rook_attacks := mk_fn G prog (a := (fnAddrs.lookup "rook_attacks").get!) (List.mem_of_getElem? (i := 9) rfl) rfl rfl
  f_bishop_attacks := mk_fn G prog (a := (fnAddrs.lookup "bishop_attacks").get!) (List.mem_of_getElem? (i := 10) rfl) rfl rfl
  f_queen_attacks := mk_fn G prog (a := (fnAddrs.lookup "queen_attacks").get!) (List.mem_of_getElem? (i := 11) rfl) rfl rfl
  f_slider_attacks := mk_fn G prog (a := (fnAddrs.lookup "slider_attacks").get!) (List.mem_of_getElem? (i := 12) rfl) rfl rfl
  f_piece_attacks := mk_fn G prog (a := (fnAddrs.lookup "piece_attacks").get!) (List.mem_of_getElem? (i := 13) rfl) rfl rfl
  f_solve := mk_fn G prog (a := (fnAddrs.lookup "solve").get!) (List.mem_of_getElem? (i := 14) rfl) rfl rfl
  f_index_of := mk_fn G prog (a := (fnAddrs.lookup "index_of").get!) (List.mem_of_getElem? (i := 15) rfl) rfl rfl
  f_parts_of := mk_fn G prog (a := (fnAddrs.lookup "parts_of").get!) (List.mem_of_getElem? (i := 16) rfl) rfl rfl
  f_mark_places := mk_fn G prog (a := (fnAddrs.lookup "mark_places").get!) (List.mem_of_getElem? (i := 17) rfl) rfl rfl
  f_weak_moves := mk_fn G prog (a := (fnAddrs.lookup "weak_moves").get!) (List.mem_of_getElem? (i := 18) rfl) rfl rfl
  f_strong_moves := mk_fn G prog (a := (fnAddrs.lookup "strong_moves").get!) (List.mem_of_getElem? (i := 19) rfl) rfl rfl
  f_moves_at := mk_fn G prog (a := (fnAddrs.lookup "moves_at").get!) (List.mem_of_getElem? (i := 20) rfl) rfl rfl
  f_build_zone := mk_fn G prog (a := (fnAddrs.lookup "build_zone").get!) (List.mem_of_getElem? (i := 21) rfl) rfl rfl
  f_probe := mk_fn G prog (a := (fnAddrs.lookup "probe").get!) (List.mem_of_getElem? (i := 22) rfl) rfl rfl
  f_best_move := mk_fn G prog (a := (fnAddrs.lookup "best_move").get!) (List.mem_of_getElem? (i := 23) rfl) rfl rfl
  f_mate_line := mk_fn G prog (a := (fnAddrs.lookup "mate_line").get!) (List.mem_of_getElem? (i := 24) rfl) rfl rfl
  f__law_number := mk_fn G prog (a := (fnAddrs.lookup "_law_number").get!) (List.mem_of_getElem? (i := 25) rfl) rfl rfl
  f__law_apart := mk_fn G prog (a := (fnAddrs.lookup "_law_apart").get!) (List.mem_of_getElem? (i := 26) rfl) rfl rfl
  f__law_touch := mk_fn G prog (a := (fnAddrs.lookup "_law_touch").get!) (List.mem_of_getElem? (i := 27) rfl) rfl rfl
  f__law_strikes := mk_fn G prog (a := (fnAddrs.lookup "_law_strikes").get!) (List.mem_of_getElem? (i := 28) rfl) rfl rfl
  f__law_stands := mk_fn G prog (a := (fnAddrs.lookup "_law_stands").get!) (List.mem_of_getElem? (i := 29) rfl) rfl rfl
  f__law_ways := mk_fn G prog (a := (fnAddrs.lookup "_law_ways").get!) (List.mem_of_getElem? (i := 30) rfl) rfl rfl
  f__law_word := mk_fn G prog (a := (fnAddrs.lookup "_law_word").get!) (List.mem_of_getElem? (i := 31) rfl) rfl rfl
  f__law_due := mk_fn G prog (a := (fnAddrs.lookup "_law_due").get!) (List.mem_of_getElem? (i := 32) rfl) rfl rfl
  f__law_right := mk_fn G prog (a := (fnAddrs.lookup "_law_right").get!) (List.mem_of_getElem? (i := 33) rfl) rfl rfl
  f__law_line_right := mk_fn G prog (a := (fnAddrs.lookup "_law_line_right").get!) (List.mem_of_getElem? (i := 34) rfl) rfl rfl
  f__law_place := mk_fn G prog (a := (fnAddrs.lookup "_law_place").get!) (List.mem_of_getElem? (i := 35) rfl) rfl rfl
  f__law_refused := mk_fn G prog (a := (fnAddrs.lookup "_law_refused").get!) (List.mem_of_getElem? (i := 36) rfl) rfl rfl
  f_law := mk_fn G prog (a := (fnAddrs.lookup "law").get!) (List.mem_of_getElem? (i := 37) rfl) rfl rfl
  f_init := mk_init G prog
end Mine

end

section
open PySem
set_option linter.unusedVariables false
set_option linter.unusedSimpArgs false
set_option maxRecDepth 100000
set_option tactic.hygienic false
namespace Mine

/-- what stays of a store -/
noncomputable def Keep (σ σ' : Store) : Prop := ∀ (i : Nat) (o : AObj), σ[i]? = some o → σ'[i]? = some o
theorem Keep.refl (σ : Store) : Keep σ σ := fun _ _ h => h
theorem Keep.trans {a b c : Store} (x : Keep a b) (y : Keep b c) : Keep a c := fun i o h => y i o (x i o h)
theorem Keep.snoc (σ : Store) (o : AObj) : Keep σ (σ ++ [o]) := fun i o' h => getElem?_snoc_of h
theorem Keep.len {a b : Store} (x : Keep a b) : a.length ≤ b.length := by
  cases h : a.length with
  | zero => omega
  | succ n =>
    have h1 : a[n]? = some a[n] := List.getElem?_eq_getElem (by omega)
    have := (List.getElem?_eq_some_iff.mp (x n _ h1)).1
    omega
theorem Keep.set {a b : Store} (x : Keep a b) {i : Nat} (hi : a.length ≤ i) (o : AObj) : Keep a (b.set i o) := fun j o' h => by
  have hj : j < a.length := (List.getElem?_eq_some_iff.mp h).1
  rw [List.getElem?_set_ne (by omega)]; exact x j o' h
theorem snoc_at (σ : Store) (o : AObj) : (σ ++ [o])[σ.length]? = some o := by simp

/-- the board's tables -/
structure GeoD where
  files : Nat
  ranks : Nat
  full : Int
  king : List Int
  knight : List Int
  rays : List (List Int)

inductive GeoIs (σ : Store) (g : Nat) (G : GeoD) : Prop
  | mk (d : Nat) (f : String → Option V) (kk kn r : Nat) (rs : List Nat) (h1 : σ[g]? = some (AObj.inst "Geometry" d)) (h2 : σ[d]? = some (AObj.ns f)) (h3 : f "files" = some (V.int G.files)) (h4 : f "size" = some (V.int (G.files * G.ranks : Nat))) (h5 : f "full" = some (V.int G.full))
    (h6 : f "king" = some (V.ref kk)) (h7 : σ[kk]? = some (AObj.list (G.king.map V.int))) (h8 : f "knight" = some (V.ref kn)) (h9 : σ[kn]? = some (AObj.list (G.knight.map V.int)))
    (h10 : f "rays" = some (V.ref r)) (h11 : σ[r]? = some (AObj.list (rs.map V.ref))) (h12 : ∀ (d : Nat) (l : List Int), G.rays[d]? = some l → ∃ a, rs[d]? = some a ∧ σ[a]? = some (AObj.list (l.map V.int))) : GeoIs σ g G

theorem GeoIs.keep {σ σ' : Store} {g : Nat} {G : GeoD} (x : GeoIs σ g G) (k : Keep σ σ') : GeoIs σ' g G := by
  obtain ⟨d, f, kk, kn, r, rs, h1, h2, h3, h4, h5, h6, h7, h8, h9, h10, h11, h12⟩ := x
  exact ⟨d, f, kk, kn, r, rs, k _ _ h1, k _ _ h2, h3, h4, h5, h6, k _ _ h7, h8, k _ _ h9, h10, k _ _ h11, fun d l h => by obtain ⟨a, b, c⟩ := h12 d l h; exact ⟨a, b, k _ _ c⟩⟩

noncomputable def growing (d : Nat) : Bool := d == 0 || d == 1 || d == 4 || d == 7
noncomputable def rayAtt (d : Nat) (ray occ : Int) : Int :=
  let stop := Builtin.bitAnd ray occ
  if stop = 0 then ray
  else if growing d then Builtin.bitAnd ray (Builtin.bitXor stop (stop - 1))
  else
    let b0 := stop / 2
    let b1 := Builtin.bitOr b0 (b0 / 2)
    let b2 := Builtin.bitOr b1 (b1 / 4)
    let b3 := Builtin.bitOr b2 (b2 / 16)
    let b4 := Builtin.bitOr b3 (b3 / 256)
    let b5 := Builtin.bitOr b4 (b4 / 65536)
    let b6 := Builtin.bitOr b5 (b5 / 4294967296)
    Builtin.bitAnd ray (Builtin.bitNot b6)

theorem upd_same {m : Loc} {x : String} {v : V} : upd m x v x = some v := by simp [upd]
theorem upd_ne {m : Loc} {x y : String} {v : V} (h : y ≠ x) : upd m x v y = m y := by simp [upd, h]
theorem behind_step {C : Ctx} {n : Nat} {X : Store → Prop} {m : Loc} {σ : Store} {b : Int} {k : Int} (hk : 0 ≤ k) {r : List S} {Q : Fl → Loc → Store → Prop} (hm : m "behind" = some (.int b)) (h : wpSs C n X r (upd m "behind" (.int (Builtin.bitOr b (b / 2 ^ k.toNat)))) σ Q) :
    wpSs C n X (.aug "behind" .BitOr (.bin .RShift (.loc "behind") (.cint k)) :: r) m σ Q := ob_i hm (ob_i hm (chk_i (decide_eq_true hk) h))

/-- parts of a body -/
theorem wpSs_append {C : Ctx} {n : Nat} {X : Store → Prop} : ∀ {a b : List S} {m : Loc} {σ : Store} {Q : Fl → Loc → Store → Prop},
    wpSs C n X (a ++ b) m σ Q = wpSs C n X a m σ (fun fl m₁ σ₁ => match fl with | .next => wpSs C n X b m₁ σ₁ Q | fl => Q fl m₁ σ₁)
  | [], b, m, σ, Q => rfl
  | s :: a, b, m, σ, Q => by
    show wpS C n X s m σ _ = wpS C n X s m σ _
    congr 1
    funext fl m₁ σ₁
    cases fl
    · exact wpSs_append
    · rfl
    · rfl

/-- one statement, what follows kept apart -/
theorem step {C : Ctx} {n : Nat} {X : Store → Prop} {s : S} {r : List S} {m : Loc} {σ : Store} {Q : Fl → Loc → Store → Prop}
    (h : ∀ K : Fl → Loc → Store → Prop, (∀ m₁ σ₁, wpSs C n X r m₁ σ₁ Q → K .next m₁ σ₁) → (∀ v m₁ σ₁, Q (.ret v) m₁ σ₁ → K (.ret v) m₁ σ₁) → (∀ m₁ σ₁, Q .cont m₁ σ₁ → K .cont m₁ σ₁) → wpS C n X s m σ K) : wpSs C n X (s :: r) m σ Q :=
  h _ (fun _ _ h => h) (fun _ _ _ h => h) fun _ _ h => h
theorem done {C : Ctx} {n : Nat} {X : Store → Prop} {m : Loc} {σ : Store} {Q : Fl → Loc → Store → Prop} (h : Q .next m σ) : wpSs C n X [] m σ Q := h

section
variable {C : Ctx} (P : Prg C) {X : Store → Prop} {σ : Store}
include P

theorem s_index_of (a b c d e : Int) (ha : a.natAbs < 2 ^ 64) : SemCall C 1 "index_of" [.int a, .int b, .int c, .int d, .int e] σ (fun v σ' => v = .int (((b * a + c) * a + d) * a + e) ∧ σ' = σ) X :=
  P.call P.f_index_of rfl ⟨.inr ha, .inr ha, .inr ha, rfl, rfl⟩

theorem s_parts_of (a n : Int) (ha : 0 < a ∧ a ≤ 100) : SemCall C 1 "parts_of" [.int a, .int n] σ (fun v σ' => v = .tup [.int (n / (a * a * a)), .int (n / (a * a) % a), .int (n / a % a), .int (n % a)] ∧ σ' = σ) X := by
  have h1 : 0 < a * a := Int.mul_pos ha.1 ha.1
  have h2 : 0 < a * a * a := Int.mul_pos h1 ha.1
  have h3 : a * a ≤ 100 * 100 := Int.mul_le_mul ha.2 ha.2 (by omega) (by omega)
  have h4 : a * a * a ≤ 100 * 100 * 100 := Int.mul_le_mul h3 ha.2 (by omega) (by omega)
  have b0 : a.natAbs < 2 ^ 64 := by omega
  have b1 : 0 < a ∧ a < 1073741824 := by omega
  have b2 : 0 < a * a ∧ a * a < 1073741824 := by omega
  have b3 : 0 < a * a * a ∧ a * a * a < 1073741824 := by omega
  exact P.call P.f_parts_of rfl ⟨.inr b0, .inr b0, b3, .inr b0, b2, b1, b1, b1, b1, rfl, rfl⟩

theorem s_is_growing (d : Nat) (hd : d < 8) : SemCall C 1 "is_growing" [.int d] σ (fun v σ' => v = .bool (growing d) ∧ σ' = σ) X := by
  cases d with
  | zero => exact P.call P.f_is_growing rfl ⟨rfl, rfl⟩
  | succ d => cases d with
  | zero => exact P.call P.f_is_growing rfl ⟨rfl, rfl⟩
  | succ d => cases d with
  | zero => exact P.call P.f_is_growing rfl ⟨rfl, rfl⟩
  | succ d => cases d with
  | zero => exact P.call P.f_is_growing rfl ⟨rfl, rfl⟩
  | succ d => cases d with
  | zero => exact P.call P.f_is_growing rfl ⟨rfl, rfl⟩
  | succ d => cases d with
  | zero => exact P.call P.f_is_growing rfl ⟨rfl, rfl⟩
  | succ d => cases d with
  | zero => exact P.call P.f_is_growing rfl ⟨rfl, rfl⟩
  | succ d => cases d with
  | zero => exact P.call P.f_is_growing rfl ⟨rfl, rfl⟩
  | succ d => exact absurd hd (Nat.not_lt.mpr (Nat.le_add_left 8 d))

end
end Mine

end

section
open PySem
set_option linter.unusedVariables false
set_option linter.unusedSimpArgs false
set_option maxRecDepth 100000
set_option tactic.hygienic false
namespace Mine

theorem forW_inv {src : V} {items : List V} {bnd : V → Loc → Option Loc} {body : Loc → Store → (Fl → Loc → Store → Prop) → Prop} {Q : Fl → Loc → Store → Prop} (I : Nat → Loc → Store → Prop)
    (hsrc : ∀ i m σ, I i m σ → srcItems σ src = some items)
    (hstep : ∀ i v m σ, items[i]? = some v → I i m σ → ∀ K : Fl → Loc → Store → Prop, (∀ m₁ σ₁, I (i + 1) m₁ σ₁ → K .next m₁ σ₁) → (∀ m₁ σ₁, I (i + 1) m₁ σ₁ → K .cont m₁ σ₁) →
      (∀ v m₁ σ₁, Q (.ret v) m₁ σ₁ → K (.ret v) m₁ σ₁) → ob (bnd v m) fun m' => body m' σ K)
    (hend : ∀ m σ, I items.length m σ → Q .next m σ) :
    ∀ (rest : List V) (i : Nat) (m : Loc) (σ : Store), items.drop i = rest → i ≤ items.length → I i m σ → forW src items bnd body rest m σ Q := by
  intro rest
  induction rest with
  | nil =>
    intro i m σ hd hi hI
    have hlen : items.length = i := by
      have := congrArg List.length hd
      simp at this; omega
    exact ⟨hsrc _ _ _ hI, hend _ _ (hlen ▸ hI)⟩
  | cons v r ih =>
    intro i m σ hd hi hI
    have hv : items[i]? = some v := by
      have := congrArg (fun l => l[0]?) hd
      simpa using this
    have hlt : i < items.length := (List.getElem?_eq_some_iff.mp hv).1
    have hd' : items.drop (i + 1) = r := by rw [← List.drop_drop, hd]; rfl
    have go := fun m₁ σ₁ (h : I (i + 1) m₁ σ₁) => ih (i + 1) m₁ σ₁ hd' hlt h
    exact ⟨hsrc _ _ _ hI, hstep i v m σ hv hI _ (fun m₁ σ₁ h => go m₁ σ₁ h) (fun m₁ σ₁ h => go m₁ σ₁ h) fun v m₁ σ₁ h => h⟩

theorem rngList_up (a b : Nat) : rngList a b 1 = (List.range (b - a)).map fun (i : Nat) => (a : Int) + i := by
  unfold rngList
  have : (Builtin.Range.rangeSize a b 1).toNat = b - a := by rw [PySem.rangeSize_one]; split <;> omega
  rw [this]
  simp

/-- for x in range(a, b) -/
theorem forW_rng {a b : Nat} {x : String} {body : Loc → Store → (Fl → Loc → Store → Prop) → Prop} {Q : Fl → Loc → Store → Prop} {m : Loc} {σ : Store} (hab : a ≤ b) (I : Nat → Loc → Store → Prop) (h0 : I a m σ)
    (hstep : ∀ i m σ, a ≤ i → i < b → I i m σ → ∀ K : Fl → Loc → Store → Prop, (∀ m₁ σ₁, I (i + 1) m₁ σ₁ → K .next m₁ σ₁) → (∀ m₁ σ₁, I (i + 1) m₁ σ₁ → K .cont m₁ σ₁) → (∀ v m₁ σ₁, Q (.ret v) m₁ σ₁ → K (.ret v) m₁ σ₁) → body (upd m x (.int i)) σ K)
    (hend : ∀ m σ, I b m σ → Q .next m σ) : ob (srcItems σ (.rng a b 1)) fun items => forW (.rng a b 1) items (bndT (.name x)) body items m σ Q := by
  have hlen : ((rngList a b 1).map V.int).length = b - a := by rw [rngList_up]; simp
  refine forW_inv (fun i m σ => I (a + i) m σ) (fun _ _ _ _ => rfl) (fun i v m σ hv hI K h1 h2 h3 => ?_) (fun m σ h => hend m σ (by rw [hlen, show a + (b - a) = b by omega] at h; exact h)) _ 0 m σ rfl (Nat.zero_le _) h0
  have hi : i < b - a := by have := (List.getElem?_eq_some_iff.mp hv).1; rw [hlen] at this; exact this
  have hv' : v = .int ((a + i : Nat) : Int) := by
    rw [rngList_up] at hv
    simp [hi] at hv
    rw [← hv]; simp
  subst hv'
  exact (hstep (a + i) m σ (by omega) (by omega) hI K h1 h2 h3)

theorem ite_i {b : Bool} {A B : Prop} (h1 : b = true → A) (h2 : b = false → B) : if b = true then A else B := by
  cases b
  · exact h2 rfl
  · exact h1 rfl
theorem ite_e {b : Bool} {A B : Prop} (h2 : b = false → B) (h1 : b = true → A) : if b = true then A else B := ite_i h1 h2
theorem ite_n {b : Bool} {A B : Prop} (h2 : b = false → A) (h1 : b = true → B) : if (!b) = true then A else B := by
  cases b
  · exact h2 rfl
  · exact h1 rfl
theorem geoAt_of {σ : Store} {g d : Nat} {f : String → Option V} (h1 : σ[g]? = some (.inst "Geometry" d)) (h2 : σ[d]? = some (.ns f)) : geoAt σ (.ref g) = some (d, f) := by
  show obd σ[g]? _ = _
  rw [h1]
  show obd σ[d]? _ = _
  rw [h2]; rfl
theorem wpAttr_i {σ : Store} {g d : Nat} {f : String → Option V} {n : String} {x : V} {Q : V → Prop} (h1 : σ[g]? = some (.inst "Geometry" d)) (h2 : σ[d]? = some (.ns f)) (hn : geoAttrs.contains n = true) (hx : f n = some x) (hf : isFnV x = false) (hq : Q x) : wpAttr (.ref g) n σ Q := by
  exact ob_i (geoAt_of h1 h2) (chk_i hn (ob_i hx (chk_i (by rw [hf]; rfl) hq)))
theorem wpAt_i {α : Type} {xs : List α} {k : Nat} {x : α} {Q : α → Prop} (hx : xs[k]? = some x) (hk : k < 1000000) (hq : Q x) : wpAt xs (k : Int) Q :=
  chk_i (Nat.ble_eq_true_of_le (Nat.le_of_lt hk)) (ob_i hx hq)
theorem item_get {σ : Store} {a k : Nat} {xs : List V} {x : V} {Q : V → Prop} (h : σ[a]? = some (.list xs)) (hx : xs[k]? = some x) (hk : k < 1000000) (hq : Q x) : wpItem (.ref a) (.int k) σ Q := by
  have := wpAt_i hx hk hq
  show ob σ[a]? _
  exact ob_i h this
theorem wpS_asg {C : Ctx} {n : Nat} {X : Store → Prop} {t : T} {e : E} {m : Loc} {σ : Store} {Q : Fl → Loc → Store → Prop} (h : wpE C n X e m σ fun v σ₁ => wpAssign C n X t v m σ₁ fun m' σ₂ => Q .next m' σ₂) : wpS C n X (.assign t e) m σ Q := h
theorem wpSub {a b : Int} {σ : Store} {Q : V → Store → Prop} (h : Q (.int (a - b)) σ) : wpBin .Sub (.int a) (.int b) σ Q := h
theorem wpAdd {a b : Int} {σ : Store} {Q : V → Store → Prop} (h : Q (.int (a + b)) σ) : wpBin .Add (.int a) (.int b) σ Q := h
theorem wpB_len {σ : Store} {a : Nat} {xs : List V} {Q : V → Store → Prop} (h : σ[a]? = some (.list xs)) (hl : xs.length < 1000000) (hq : Q (.int xs.length) σ) : wpB "len" [.ref a] σ Q := WB.lenL h hl hq
theorem wpB_max {σ : Store} {a : Nat} {l : List Int} {Q : V → Store → Prop} (h : σ[a]? = some (.list (l.map V.int))) (hl : l ≠ []) (hq : ∀ M, M ∈ l → (∀ a ∈ l, a ≤ M) → Q (.int M) σ) : wpB "max" [.ref a] σ Q := WB.maxL h (intsOf_map l) hl hq
theorem wpB_min {σ : Store} {a : Nat} {l : List Int} {Q : V → Store → Prop} (h : σ[a]? = some (.list (l.map V.int))) (hl : l ≠ []) (hq : ∀ M, M ∈ l → (∀ a ∈ l, M ≤ a) → Q (.int M) σ) : wpB "min" [.ref a] σ Q := WB.minL h (intsOf_map l) hl hq
theorem wpB_range {σ : Store} {n : Nat} {Q : V → Store → Prop} (h : n < 1000000) (hq : Q (.rng 0 n 1) σ) : wpB "range" [.int n] σ Q := WB.range1 (by omega) hq
theorem wpB_range2 {σ : Store} {a n : Nat} {Q : V → Store → Prop} (ha : a < 1000000) (h : n < 1000000) (hq : Q (.rng a n 1) σ) : wpB "range" [.int a, .int n] σ Q := WB.range2 (by omega) hq
theorem wpB_abs {σ : Store} {a : Int} {Q : V → Store → Prop} (hq : Q (.int a.natAbs) σ) : wpB "abs" [.int a] σ Q := WB.abs hq
theorem wpB_max2 {σ : Store} {a b : Int} {Q : V → Store → Prop} (hq : Q (.int (max a b)) σ) : wpB "max" [.int a, .int b] σ Q := WB.max2 hq
theorem wpB_maxt {σ : Store} {a b : Int} {Q : V → Store → Prop} (hq : Q (.int (max a b)) σ) : wpB "max" [.tup [.int a, .int b]] σ Q := by
  refine WB.maxT (l := [a, b]) rfl (fun h => nomatch h) fun M hM hle => ?_
  have h1 := hle _ (List.mem_cons_self ..)
  have h2 := hle _ (List.mem_cons_of_mem _ (List.mem_cons_self ..))
  have : M = max a b := by simp at hM; omega
  subst this; exact hq
theorem wpB_lens {σ : Store} {ns : List Int} {Q : V → Store → Prop} (h : ns.length < 1000000) (hq : Q (.int ns.length) σ) : wpB "len" [.script ns] σ Q := WB.lenS h hq
theorem wpB_sorted {σ : Store} {i : Nat} {a b : Int} {Q : V → Store → Prop} (h : σ[i]? = some (.list [.int a, .int b])) (hq : Q (.ref σ.length) (σ ++ [.list (if b < a then [.int b, .int a] else [.int a, .int b])])) : wpB "sorted" [.ref i] σ Q := WB.sort2 h hq
theorem wpB_list {σ : Store} {n : Nat} {Q : V → Store → Prop} (h : n < 1000000) (hq : Q (.ref σ.length) (σ ++ [.list ((rngList 0 n 1).map .int)])) : wpB "list" [.rng 0 n 1] σ Q := WB.listR (by omega) hq
theorem wpB_sum {σ : Store} {a : Nat} {l : List Int} {Q : V → Store → Prop} (h : σ[a]? = some (.list (l.map V.int))) (hq : Q (.int l.sum) σ) : wpB "sum" [.ref a] σ Q := WB.sumL h (intsOf_map l) hq

section
variable {C : Ctx} (P : Prg C) {X : Store → Prop} {σ : Store}
include P
theorem s_ray_attacks {g : Nat} {G : GeoD} (hG : GeoIs σ g G) (d sq : Nat) (hd : d < 8) (l : List Int) (hl : G.rays[d]? = some l) (ray occ : Int) (hr : l[sq]? = some ray) (hsz : sq < 100) :
    SemCall C 3 "ray_attacks" [.ref g, .int d, .int sq, .int occ] σ (fun v σ' => v = .int (rayAtt d ray occ) ∧ σ' = σ) X := by
  refine P.call P.f_ray_attacks rfl ?_
  obtain ⟨dd, f, kk, kn, r, rs, h1, h2, h3, h4, h5, h6, h7, h8, h9, h10, h11, h12⟩ := hG
  obtain ⟨a, h13, h14⟩ := h12 d l hl
  have e1 : (rs.map V.ref)[d]? = some (.ref a) := by rw [List.getElem?_map, h13]; rfl
  have e2 : (l.map V.int)[sq]? = some (.int ray) := by rw [List.getElem?_map, hr]; rfl
  unfold rayAtt
  refine step fun K hK hR hC => ?_
  refine (wpAttr_i h1 h2 rfl h10 rfl (item_get h11 e1 (by omega) (item_get h14 e2 (by omega) (hK _ _ (step fun K hK hR hC => ?_)))))
  refine (hK _ _ (step fun K hK hR hC => ?_))
  refine (ite_i (fun hz => ?_) fun hz => ?_)
  · exact (hR _ _ _ ⟨by rw [if_pos (of_decide_eq_true hz)], rfl⟩)
  · have hz' := of_decide_eq_false hz
    refine hK _ _ (step fun K hK hR hC => ?_)
    refine ((SemCall.mono (s_is_growing P d hd) (fun v σ' ⟨hv, hσ⟩ => ?_) fun _ h => h))
    subst hv hσ
    refine (ite_i (fun hg => ?_) fun hg => ?_)
    ·
      refine hR (.int _) _ _ ⟨?_, rfl⟩
      rw [if_neg hz', if_pos hg]
    · refine hK _ _ (step fun K hK hR hC => hK _ _ ?_)
      refine behind_step (by decide) upd_same (behind_step (by decide) upd_same (behind_step (by decide) upd_same (behind_step (by decide) upd_same (behind_step (by decide) upd_same (behind_step (by decide) upd_same ?_)))))
      refine ⟨?_, rfl⟩
      rw [if_neg hz', if_neg (by rw [hg]; decide)]; rfl
end
end Mine

end

section
open PySem
set_option linter.unusedVariables false
set_option linter.unusedSimpArgs false
set_option maxRecDepth 100000
set_option tactic.hygienic false
namespace Mine

structure GeoD.Ok (G : GeoD) : Prop where
  rays : G.rays.length = 8
  ray : ∀ l ∈ G.rays, l.length = G.files * G.ranks
  king : G.king.length = G.files * G.ranks
  knight : G.knight.length = G.files * G.ranks
  size : G.files * G.ranks ≤ 12
  pos : 0 < G.files ∧ 0 < G.ranks

noncomputable def rayOf (G : GeoD) (d sq : Nat) : Int := ((G.rays[d]?.getD [])[sq]?).getD 0
noncomputable def slideTo (G : GeoD) (a n sq : Nat) (occ : Int) : Int := (List.range n).foldl (fun acc i => Builtin.bitOr acc (rayAtt (a + i) (rayOf G (a + i) sq) occ)) 0
theorem slideTo_succ (G : GeoD) (a n sq : Nat) (occ : Int) : slideTo G a (n + 1) sq occ = Builtin.bitOr (slideTo G a n sq occ) (rayAtt (a + n) (rayOf G (a + n) sq) occ) := by
  unfold slideTo
  rw [List.range_succ, List.foldl_append]; rfl

noncomputable def kindAtt (G : GeoD) (kind sq : Nat) (occ : Int) : Int :=
  if kind = 2 then (G.knight[sq]?).getD 0
  else if kind = 3 then slideTo G 4 4 sq occ
  else if kind = 4 then slideTo G 0 4 sq occ
  else if kind = 5 then Builtin.bitOr (slideTo G 0 4 sq occ) (slideTo G 4 4 sq occ)
  else 0

theorem GeoD.Ok.rayAt {G : GeoD} (h : G.Ok) {d sq : Nat} (hd : d < 8) (hs : sq < G.files * G.ranks) : ∃ l, G.rays[d]? = some l ∧ l[sq]? = some (rayOf G d sq) := by
  have h1 : d < G.rays.length := by rw [h.rays]; exact hd
  have h2 : sq < (G.rays[d]).length := by rw [h.ray _ (List.getElem_mem h1)]; exact hs
  refine ⟨G.rays[d], List.getElem?_eq_getElem h1, ?_⟩
  unfold rayOf
  rw [List.getElem?_eq_getElem h1]
  simp [List.getElem?_eq_getElem h2]

section
variable {C : Ctx} (P : Prg C) {X : Store → Prop} {σ : Store}
include P

theorem s_ray {g : Nat} {G : GeoD} (hG : GeoIs σ g G) (ok : G.Ok) (d sq : Nat) (hd : d < 8) (occ : Int) (hs : sq < G.files * G.ranks) :
    SemCall C 3 "ray_attacks" [.ref g, .int d, .int sq, .int occ] σ (fun v σ' => v = .int (rayAtt d (rayOf G d sq) occ) ∧ σ' = σ) X := by
  obtain ⟨l, h1, h2⟩ := ok.rayAt hd hs
  exact s_ray_attacks P hG d sq hd l h1 _ occ h2 (by have := ok.size; omega)

theorem s_rook {g : Nat} {G : GeoD} (hG : GeoIs σ g G) (ok : G.Ok) (sq : Nat) (occ : Int) (hs : sq < G.files * G.ranks) :
    SemCall C 5 "rook_attacks" [.ref g, .int sq, .int occ] σ (fun v σ' => v = .int (slideTo G 0 4 sq occ) ∧ σ' = σ) X := by
  refine P.call P.f_rook_attacks rfl ?_
  refine step fun K hK hR hC => hK _ _ (step fun K hK hR hC => ?_)
  refine wpB_range (n := 4) (by decide) ?_
  refine forW_rng (a := 0) (b := 4) (by decide) (fun i m σ' => σ' = σ ∧ m "geo" = some (.ref g) ∧ m "square" = some (.int sq) ∧ m "occupied" = some (.int occ) ∧ m "found" = some (.int (slideTo G 0 i sq occ))) ⟨rfl, rfl, rfl, rfl, rfl⟩ ?_ ?_
  · rintro i m σ' _ hi ⟨rfl, m1, m2, m3, m4⟩ K k1 k2 k3
    refine step fun K' hK' hR' hC' => (ob_i m4 ((ob_i m1 (ob_i m2 (ob_i m3 (SemCall.mono (s_ray P hG ok i sq (by omega) occ hs) (fun v σ'' ⟨hv, hσ⟩ => ?_) fun _ h => h))))))
    subst hv hσ
    refine hK' _ _ (k1 _ _ ⟨rfl, m1, m2, m3, ?_⟩)
    rw [slideTo_succ, Nat.zero_add]; rfl
  · rintro m σ' ⟨rfl, m1, m2, m3, m4⟩
    exact hK _ _ (ob_i m4 ⟨rfl, rfl⟩)

theorem s_bishop {g : Nat} {G : GeoD} (hG : GeoIs σ g G) (ok : G.Ok) (sq : Nat) (occ : Int) (hs : sq < G.files * G.ranks) :
    SemCall C 5 "bishop_attacks" [.ref g, .int sq, .int occ] σ (fun v σ' => v = .int (slideTo G 4 4 sq occ) ∧ σ' = σ) X := by
  refine P.call P.f_bishop_attacks rfl ?_
  refine step fun K hK hR hC => hK _ _ (step fun K hK hR hC => ?_)
  refine wpB_range2 (a := 4) (n := 8) (by decide) (by decide) ?_
  refine forW_rng (a := 4) (b := 8) (by decide) (fun i m σ' => σ' = σ ∧ m "geo" = some (.ref g) ∧ m "square" = some (.int sq) ∧ m "occupied" = some (.int occ) ∧ m "found" = some (.int (slideTo G 4 (i - 4) sq occ))) ⟨rfl, rfl, rfl, rfl, rfl⟩ ?_ ?_
  · rintro i m σ' h4 hi ⟨rfl, m1, m2, m3, m4⟩ K k1 k2 k3
    refine step fun K' hK' hR' hC' => (ob_i m4 ((ob_i m1 (ob_i m2 (ob_i m3 (SemCall.mono (s_ray P hG ok i sq (by omega) occ hs) (fun v σ'' ⟨hv, hσ⟩ => ?_) fun _ h => h))))))
    subst hv hσ
    refine hK' _ _ (k1 _ _ ⟨rfl, m1, m2, m3, ?_⟩)
    have e : i + 1 - 4 = (i - 4) + 1 := by omega
    have e2 : 4 + (i - 4) = i := by omega
    rw [e, slideTo_succ, e2]; rfl
  · rintro m σ' ⟨rfl, m1, m2, m3, m4⟩
    exact hK _ _ (ob_i m4 ⟨rfl, rfl⟩)

end
end Mine

end

section
open PySem
set_option linter.unusedVariables false
set_option linter.unusedSimpArgs false
set_option maxRecDepth 100000
set_option tactic.hygienic false
namespace Mine
section
variable {C : Ctx} (P : Prg C) {X : Store → Prop} {σ : Store}
include P

theorem s_queen {g : Nat} {G : GeoD} (hG : GeoIs σ g G) (ok : G.Ok) (sq : Nat) (occ : Int) (hs : sq < G.files * G.ranks) :
    SemCall C 7 "queen_attacks" [.ref g, .int sq, .int occ] σ (fun v σ' => v = .int (kindAtt G 5 sq occ) ∧ σ' = σ) X := by
  refine P.call P.f_queen_attacks rfl ?_
  refine ((SemCall.mono (s_rook P hG ok sq occ hs) (fun v σ'' ⟨hv, hσ⟩ => ?_) fun _ h => h))
  subst hv hσ
  refine ((SemCall.mono (s_bishop P hG ok sq occ hs) (fun v σ'' ⟨hv, hσ⟩ => ?_) fun _ h => h))
  subst hv hσ
  exact ⟨rfl, rfl⟩

theorem s_slider {g : Nat} {G : GeoD} (hG : GeoIs σ g G) (ok : G.Ok) (kind sq : Nat) (occ : Int) (hs : sq < G.files * G.ranks) (hk : 3 ≤ kind ∧ kind ≤ 5) :
    SemCall C 9 "slider_attacks" [.ref g, .int kind, .int sq, .int occ] σ (fun v σ' => v = .int (kindAtt G kind sq occ) ∧ σ' = σ) X := by
  refine P.call P.f_slider_attacks rfl ?_
  refine step fun K hK hR hC => ((ite_i (fun h => ?_) fun h => ?_))
  · have h3 : kind = 3 := by have := of_decide_eq_true h; omega
    subst h3
    refine ((SemCall.mono ((s_bishop P hG ok sq occ hs).up (b := 7) (by decide)) (fun v σ'' ⟨hv, hσ⟩ => ?_) fun _ h => h))
    exact hR _ _ _ ⟨hv, hσ⟩
  have n3 : kind ≠ 3 := by have := of_decide_eq_false h; omega
  refine hK _ _ (step fun K hK hR hC => ((ite_i (fun h => ?_) fun h => ?_)))
  · have h4 : kind = 4 := by have := of_decide_eq_true h; omega
    subst h4
    refine ((SemCall.mono ((s_rook P hG ok sq occ hs).up (b := 7) (by decide)) (fun v σ'' ⟨hv, hσ⟩ => ?_) fun _ h => h))
    exact hR _ _ _ ⟨hv, hσ⟩
  have n4 : kind ≠ 4 := by have := of_decide_eq_false h; omega
  have h5 : kind = 5 := by omega
  subst h5
  refine hK _ _ (step fun K hK hR hC => (?_))
  refine ((SemCall.mono (s_queen P hG ok sq occ hs) (fun v σ'' ⟨hv, hσ⟩ => ?_) fun _ h => h))
  exact hR _ _ _ ⟨hv, hσ⟩

theorem s_piece {g : Nat} {G : GeoD} (hG : GeoIs σ g G) (ok : G.Ok) (side : Int) (kind sq : Nat) (occ : Int) (hs : sq < G.files * G.ranks) (hk : 2 ≤ kind ∧ kind ≤ 5) :
    SemCall C 11 "piece_attacks" [.ref g, .int side, .int kind, .int sq, .int occ] σ (fun v σ' => v = .int (kindAtt G kind sq occ) ∧ σ' = σ) X := by
  refine P.call P.f_piece_attacks rfl ?_
  refine step fun K hK hR hC => ((ite_i (fun h => by have := of_decide_eq_true h; omega) fun _ => ?_))
  refine hK _ _ (step fun K hK hR hC => ((ite_i (fun h => ?_) fun h => ?_)))
  · have h2 : kind = 2 := by have := of_decide_eq_true h; omega
    subst h2
    obtain ⟨dd, f, kk, kn, r, rs, h1, h2, h3, h4, h5, h6, h7, h8, h9, h10, h11, h12⟩ := hG
    have hsz := ok.size
    have hkn : (G.knight.map V.int)[sq]? = some (.int ((G.knight[sq]?).getD 0)) := by
      have : sq < G.knight.length := by rw [ok.knight]; exact hs
      simp [List.getElem?_eq_getElem this]
    exact (wpAttr_i h1 h2 rfl h8 rfl (item_get h9 hkn (by omega) (hR _ _ _ ⟨rfl, rfl⟩)))
  have n2 : kind ≠ 2 := by have := of_decide_eq_false h; omega
  refine hK _ _ (step fun K hK hR hC => ((ite_i (fun h => by have := of_decide_eq_true h; omega) fun _ => ?_)))
  refine hK _ _ ((SemCall.mono (s_slider P hG ok kind sq occ hs (by omega)) (fun v σ'' ⟨hv, hσ⟩ => ?_) fun _ h => h))
  exact ⟨hv, hσ⟩
end
end Mine

end

section
open PySem
set_option linter.unusedVariables false
set_option linter.unusedSimpArgs false
set_option maxRecDepth 100000
set_option tactic.hygienic false
namespace Mine

noncomputable def numAt (ns : List Int) (i : Nat) : Int := if i < ns.length then (ns[i]?).getD 0 else 5 * i * (i - 1)
noncomputable def apart (f a b : Int) : Int × Int := ((a % f - b % f).natAbs, (a / f - b / f).natAbs)
noncomputable def touch (f a b : Int) : Bool := decide (max (apart f a b).1 (apart f a b).2 = 1)

section
variable {C : Ctx} (P : Prg C) {X : Store → Prop} {σ : Store}
include P

theorem s_number (ns : List Int) (hl : ns.length ≤ 63) (i : Nat) (hi : i < 100) : SemCall C 1 "_law_number" [.script ns, .int i] σ (fun v σ' => v = .int (numAt ns i) ∧ σ' = σ) X := by
  refine P.call P.f__law_number rfl ?_
  unfold numAt
  refine (wpB_lens (by omega) (ite_i (fun h => ?_) fun h => ?_))
  · have h' : i < ns.length := by have := of_decide_eq_true h; omega
    exact wpAt_i (List.getElem?_eq_getElem h') (by omega) ⟨by rw [if_pos h', List.getElem?_eq_getElem h']; rfl, rfl⟩
  · have h' : ¬ i < ns.length := by have := of_decide_eq_false h; omega
    exact ⟨.inl (by decide), .inl (by omega), by rw [if_neg h'], rfl⟩

theorem s_apart (f a b : Int) (hf : 0 < f ∧ f < 100) : SemCall C 1 "_law_apart" [.int f, .int a, .int b] σ (fun v σ' => v = .tup [.int (apart f a b).1, .int (apart f a b).2] ∧ σ' = σ) X := by
  have hf' : 0 < f ∧ f < 1073741824 := by omega
  refine P.call P.f__law_apart rfl ?_
  refine ⟨hf', hf', wpSub (wpB_abs ⟨hf', hf', wpSub (wpB_abs ⟨rfl, rfl⟩)⟩)⟩

theorem s_touch (f a b : Int) (hf : 0 < f ∧ f < 100) : SemCall C 3 "_law_touch" [.int f, .int a, .int b] σ (fun v σ' => v = .bool (touch f a b) ∧ σ' = σ) X := by
  refine P.call P.f__law_touch rfl ?_
  refine ((SemCall.mono (s_apart P f a b hf) (fun v σ'' ⟨hv, hσ⟩ => ?_) fun _ h => h))
  subst hv hσ
  exact wpB_maxt ⟨rfl, rfl⟩
noncomputable def placeOf (s n : Int) : Int × Int × Int × Int := (n / s ^ 3 % 2, n / s ^ 2 % s, n / s % s, n % s)
theorem s_place (s n : Int) (hs : 0 < s ∧ s ≤ 100) : SemCall C 1 "_law_place" [.int s, .int n] σ (fun v σ' => v = .tup [.int (placeOf s n).1, .int (placeOf s n).2.1, .int (placeOf s n).2.2.1, .int (placeOf s n).2.2.2] ∧ σ' = σ) X := by
  have h2 : s ^ 2 = s * s := by rw [show (2 : Nat) = 0 + 1 + 1 from rfl, Int.pow_succ, Int.pow_succ, Int.pow_zero, Int.one_mul]
  have h3 : s ^ 3 = s * s * s := by rw [show (3 : Nat) = 2 + 1 from rfl, Int.pow_succ, h2]
  have p1 : 0 < s * s := Int.mul_pos hs.1 hs.1
  have p2 : 0 < s * s * s := Int.mul_pos p1 hs.1
  have q1 : s * s ≤ 100 * 100 := Int.mul_le_mul hs.2 hs.2 (by omega) (by omega)
  have q2 : s * s * s ≤ 100 * 100 * 100 := Int.mul_le_mul q1 hs.2 (by omega) (by omega)
  have b0 : s.natAbs < 2 ^ 64 := by omega
  have b1 : 0 < s ∧ s < 1073741824 := by omega
  have b2 : 0 < s ^ 2 ∧ s ^ 2 < 1073741824 := by rw [h2]; omega
  have b3 : 0 < s ^ 3 ∧ s ^ 3 < 1073741824 := by rw [h3]; omega
  exact P.call P.f__law_place rfl ⟨⟨by decide, by decide, b0⟩, b3, by decide, ⟨by decide, by decide, b0⟩, b2, b1, b1, b1, b1, rfl, rfl⟩
end
end Mine

end

section
open PySem
set_option linter.unusedVariables false
set_option linter.unusedSimpArgs false
set_option maxRecDepth 100000
set_option tactic.hygienic false
namespace Mine

/-! a walk by computing: the store is p objects that are not looked at, and L; what follows is handed on -/
abbrev Env := List (String × V)
noncomputable def lk : Env → String → Option V
  | [], _ => none
  | (y, v) :: r, x => if x = y then some v else lk r x
noncomputable def put : Env → String → V → Env
  | [], x, v => [(x, v)]
  | (y, w) :: r, x, v => if x = y then (y, v) :: r else (y, w) :: put r x v
theorem lk_put (e : Env) (x : String) (v : V) : lk (put e x v) = upd (lk e) x v := by
  funext z
  induction e with
  | nil => rfl
  | cons a r ih =>
    obtain ⟨y, w⟩ := a
    by_cases h : x = y
    · subst h
      simp only [put, if_true, lk, upd]
      by_cases hz : z = x
      · simp only [hz, if_true]
      · simp only [hz, if_false]
    · simp only [put, h, if_false, lk, ih, upd]
      by_cases hz : z = y
      · subst hz
        simp only [if_true]
        rw [if_neg (fun h' => h h'.symm)]
      · simp only [hz, if_false]
noncomputable def bindE : List String → List V → Env → Option Env
  | [], [], m => some m
  | x :: xs, v :: vs, m => bindE xs vs (put m x v)
  | _, _, _ => none
theorem bindE_ok {ps : List String} : ∀ {vs : List V} {m m' : Env}, bindE ps vs m = some m' → bindL ps vs (lk m) = some (lk m') := by
  induction ps with
  | nil => intro vs m m' h; cases vs with
    | nil => rw [← Option.some.inj (show some m = some m' from h)]; rfl
    | cons => exact no h
  | cons x xs ih => intro vs m m' h; cases vs with
    | nil => exact no h
    | cons v vs =>
      show bindL xs vs (upd (lk m) x v) = _
      rw [← lk_put]; exact ih h

noncomputable def optB {α : Type} (o : Option α) (f : α → Bool) : Bool := match o with
  | some v => f v
  | none => false
theorem optB_el {α : Type} {o : Option α} {f : α → Bool} {G : Prop} (h : optB o f = true) (k : ∀ v, o = some v → f v = true → G) : G := by
  cases o with
  | none => exact noB h
  | some v => exact k v rfl h
theorem optB_ob {α : Type} {o : Option α} {f : α → Bool} {Q : α → Prop} (h : optB o f = true) (k : ∀ v, f v = true → Q v) : ob o Q := optB_el h fun v e h => ob_i e (k v h)
noncomputable def guardB (p : Prop) [Decidable p] (b : Bool) : Bool := if p then b else false
theorem guardB_el {p : Prop} [Decidable p] {b : Bool} {G : Prop} (h : guardB p b = true) (k : p → b = true → G) : G := by
  unfold guardB at h
  by_cases hp : p
  · rw [if_pos hp] at h; exact k hp h
  · rw [if_neg hp] at h; exact noB h
noncomputable def andB (c b : Bool) : Bool := match c with
  | true => b
  | false => false
theorem andB_el {c b : Bool} {G : Prop} (h : andB c b = true) (k : c = true → b = true → G) : G := by
  cases c with
  | false => exact noB h
  | true => exact k rfl h
theorem andB_chk {c b : Bool} {p : Prop} (h : andB c b = true) (k : b = true → p) : chk c p := andB_el h fun h1 h2 => chk_i h1 (k h2)
noncomputable def rngV (v : V) : Option (Int × Int × Int) := match v with
  | .rng a b c => some (a, b, c)
  | _ => none
theorem rngV_ok {v : V} {q : Int × Int × Int} (h : rngV v = some q) : v = .rng q.1 q.2.1 q.2.2 := by
  cases v with
  | rng a b c => rw [← Option.some.inj h]
  | _ => exact no h

section
variable (p : Nat)
noncomputable def oget (L : Store) (a : Nat) : Option AObj := if a < p then none else L[a - p]?
variable {p}
theorem oget_ok {L σ₀ : Store} (hp : σ₀.length = p) {a : Nat} {o : AObj} (h : oget p L a = some o) : (σ₀ ++ L)[a]? = some o := by
  unfold oget at h
  by_cases hc : a < p
  · rw [if_pos hc] at h; exact no h
  · rw [if_neg hc] at h
    rw [List.getElem?_append_right (hp ▸ Nat.not_lt.mp hc), hp]; exact h
theorem oget_set {L σ₀ : Store} (hp : σ₀.length = p) {a : Nat} {o o' : AObj} (h : oget p L a = some o) : (σ₀ ++ L).set a o' = σ₀ ++ L.set (a - p) o' := by
  unfold oget at h
  by_cases hc : a < p
  · rw [if_pos hc] at h; exact no h
  · rw [List.set_append_right _ _ (hp ▸ Nat.not_lt.mp hc), hp]
theorem len_app {L σ₀ : Store} (hp : σ₀.length = p) : (σ₀ ++ L).length = p + L.length := by rw [List.length_append, hp]

variable (p)
noncomputable def lstP (L : Store) (i : Nat) : Option (List V) := obd (oget p L i) lstO
noncomputable def geoP (L : Store) (v : V) : Option (Nat × (String → Option V)) := obd (refV v) fun i => obd (oget p L i) fun o => obd (instO o) fun d => obd (oget p L d) fun o => obd (nsO o) fun f => some (d, f)
noncomputable def binIB (op : Operator) (a b : Int) (κ : V → Bool) : Bool := match op with
  | .Add => κ (.int (a + b))
  | .Sub => κ (.int (a - b))
  | .Mult => guardB (a.natAbs < 2 ^ 64) (κ (.int (a * b)))
  | .FloorDiv => guardB (0 < b ∧ b < 1073741824) (κ (.int (a / b)))
  | .LShift => guardB (0 ≤ b ∧ b ≤ 1000000 ∧ a.natAbs < 2 ^ 64) (κ (.int (a * 2 ^ b.toNat)))
  | .RShift => andB (decide (0 ≤ b)) (κ (.int (a / 2 ^ b.toNat)))
  | .BitAnd => κ (.int (Builtin.bitAnd a b))
  | .BitOr => κ (.int (Builtin.bitOr a b))
  | _ => false
noncomputable def mulB (op : Operator) (i : Nat) (w : V) (L : Store) (κ : V → Store → Bool) : Bool := match op with
  | .Mult => optB (intV w) fun n => optB (obd (lstP p L i) vOne) fun x => guardB (0 ≤ n ∧ n ≤ 1000000) (κ (.ref (p + L.length)) (L ++ [.list (List.replicate n.toNat x)]))
  | _ => false
noncomputable def binB (op : Operator) (v w : V) (L : Store) (κ : V → Store → Bool) : Bool := match v with
  | .int a => optB (intV w) fun b => binIB op a b fun r => κ r L
  | .ref i => mulB p op i w L κ
  | _ => false
noncomputable def cmpB (op : CmpOp) (v w : V) (κ : Bool → Bool) : Bool := optB (cmpV [] op v w) fun r => andB ((intV v).isSome && (intV w).isSome) (κ r)
noncomputable def itemB (v w : V) (L : Store) (κ : V → Bool) : Bool := optB (intV w) fun k => (match v with
  | .tup xs => andB (ixOk k) (optB xs[k.toNat]? κ)
  | .ref i => optB (lstP p L i) fun xs => andB (ixOk k) (optB xs[k.toNat]? κ)
  | _ => false)
noncomputable def attrB (v : V) (n : String) (L : Store) (κ : V → Bool) : Bool := optB (geoP p L v) fun q => andB (geoAttrs.contains n) (optB (q.2 n) fun x => andB (!isFnV x) (κ x))
noncomputable def setItemB (va vi v : V) (L : Store) (κ : Store → Bool) : Bool := optB (refV va) fun i => optB (intV vi) fun k => optB (oget p L i) fun o => optB (setO k v o) fun o' => κ (L.set (i - p) o')
noncomputable def setAttrB (va : V) (a : String) (v : V) (L : Store) (κ : Store → Bool) : Bool := optB (geoP p L va) fun q => andB (geoAttrs.contains a) (κ (L.set (q.1 - p) (.ns (fun y => if y = a then some v else q.2 y))))
noncomputable def appendB (va v : V) (L : Store) (κ : Store → Bool) : Bool := optB (refV va) fun i => optB (lstP p L i) fun xs => andB (decide (xs.length < 1000000)) (κ (L.set (i - p) (.list (xs ++ [v]))))
noncomputable def isListB (va : V) (L : Store) (b : Bool) : Bool := optB (refV va) fun i => optB (lstP p L i) fun _ => b
noncomputable def rngB (f : String) (vs : List V) (κ : V → Bool) : Bool := andB (f == "range") (match vs with
  | [] => false
  | a :: r => (match r with
    | [] => optB (intV a) fun b => guardB (b.natAbs < 2 ^ 40) (κ (.rng 0 b 1))
    | b :: r => optB (vOne r) fun c => optB (intV a) fun a => optB (intV b) fun b => optB (intV c) fun c => guardB (c = -1 ∧ Builtin.Range.small a b c = true) (κ (.rng a b c))))
variable {p}
section
variable {L σ₀ : Store} (hp : σ₀.length = p)
theorem binIB_ok {op : Operator} {a b : Int} {κ : V → Bool} (h : binIB op a b κ = true) {σ : Store} {Q : V → Store → Prop} (hq : ∀ r, κ r = true → Q r σ) : wpBinI op a b σ Q := by
  cases op with
  | Add => exact hq _ h
  | Sub => exact hq _ h
  | Mult => exact guardB_el h fun hc h => ⟨.inl hc, hq _ h⟩
  | FloorDiv => exact guardB_el h fun hc h => ⟨hc, hq _ h⟩
  | LShift => exact guardB_el h fun hc h => ⟨hc, hq _ h⟩
  | RShift => exact andB_chk h fun h => hq _ h
  | BitAnd => exact hq _ h
  | BitOr => exact hq _ h
  | _ => exact noB h
include hp
theorem lstP_ok {i : Nat} {xs : List V} (h : lstP p L i = some xs) : (σ₀ ++ L)[i]? = some (.list xs) := obd_el h fun o e h => by rw [oget_ok hp e, lstO_ok h]
theorem lstP_get {i : Nat} {xs : List V} (h : lstP p L i = some xs) : oget p L i = some (.list xs) := obd_el h fun o e h => by rw [e, lstO_ok h]
theorem geoP_ok {v : V} {q : Nat × (String → Option V)} (h : geoP p L v = some q) : geoAt (σ₀ ++ L) v = some q ∧ ∃ o, oget p L q.1 = some o :=
  obd_el h fun i e1 h => obd_el h fun o e2 h => obd_el h fun d e3 h => obd_el h fun o' e4 h => obd_el h fun f e5 h => by
    rw [← Option.some.inj h]
    refine ⟨?_, o', e4⟩
    unfold geoAt
    rw [e1]
    show obd (σ₀ ++ L)[i]? _ = _
    rw [oget_ok hp e2]
    show obd (instO o) _ = _
    rw [e3]
    show obd (σ₀ ++ L)[d]? _ = _
    rw [oget_ok hp e4]
    show obd (nsO o') _ = _
    rw [e5]; rfl
theorem binB_ok {op : Operator} {v w : V} {κ : V → Store → Bool} (h : binB p op v w L κ = true) {Q : V → Store → Prop} (hq : ∀ r L', κ r L' = true → Q r (σ₀ ++ L')) : wpBin op v w (σ₀ ++ L) Q := by
  cases v with
  | int a => exact optB_el h fun b e h => by rw [intV_ok e]; exact binIB_ok h fun r h => hq _ _ h
  | ref i =>
    cases op with
    | Mult =>
      refine optB_el h fun n e h => optB_el h fun x e1 h => guardB_el h fun hc h => ?_
      rw [intV_ok e]
      refine ob_i (a := x) ?_ ⟨hc, by rw [len_app hp, List.append_assoc]; exact hq _ _ h⟩
      exact obd_el e1 fun xs e2 e3 => by rw [listAt_of (lstP_ok hp e2)]; exact e3
    | _ => exact noB h
  | _ => exact noB h
omit hp in
theorem cmpB_ok {op : CmpOp} {v w : V} {κ : Bool → Bool} {σ : Store} (h : cmpB op v w κ = true) {Q : Bool → Prop} (hq : ∀ r, κ r = true → Q r) : ob (cmpV σ op v w) Q :=
  optB_el h fun r e h => andB_el h fun hc h => by
    rw [Bool.and_eq_true, Option.isSome_iff_exists, Option.isSome_iff_exists] at hc
    obtain ⟨⟨a, ha⟩, ⟨b, hb⟩⟩ := hc
    have e2 : cmpV σ op v w = cmpV [] op v w := by
      rw [intV_ok ha, intV_ok hb]
      cases op <;> rfl
    exact ob_i (e2.trans e) (hq r h)
theorem itemB_ok {v w : V} {κ : V → Bool} (h : itemB p v w L κ = true) {Q : V → Prop} (hq : ∀ x, κ x = true → Q x) : wpItem v w (σ₀ ++ L) Q :=
  optB_el h fun k e h => ob_i e (by
    cases v with
    | tup xs => exact andB_chk h fun h => optB_ob h hq
    | ref i => exact optB_el h fun xs e h => ob_i (lstP_ok hp e) (andB_chk h fun h => optB_ob h hq)
    | _ => exact noB h)
theorem attrB_ok {v : V} {n : String} {κ : V → Bool} (h : attrB p v n L κ = true) {Q : V → Prop} (hq : ∀ x, κ x = true → Q x) : wpAttr v n (σ₀ ++ L) Q :=
  optB_el h fun q e h => ob_i (geoP_ok hp e).1 (andB_chk h fun h => optB_ob h fun x h => andB_chk h fun h => hq _ h)
theorem setItemB_ok {va vi v : V} {κ : Store → Bool} (h : setItemB p va vi v L κ = true) {Q : Store → Prop} (hq : ∀ L', κ L' = true → Q (σ₀ ++ L')) : ob (setItemV (σ₀ ++ L) va vi v) Q :=
  optB_el h fun i e1 h => optB_el h fun k e2 h => optB_el h fun o e3 h => optB_el h fun o' e4 h => by
    refine ob_i (a := σ₀ ++ L.set (i - p) o') ?_ (hq _ h)
    unfold setItemV
    rw [e1, e2]
    show obd (σ₀ ++ L)[i]? _ = _
    rw [oget_ok hp e3]
    show obd (setO k v o) _ = _
    rw [e4, ← oget_set hp e3]; rfl
theorem setAttrB_ok {va v : V} {a : String} {κ : Store → Bool} (h : setAttrB p va a v L κ = true) {Q : Store → Prop} (hq : ∀ L', κ L' = true → Q (σ₀ ++ L')) : ob (setAttrV (σ₀ ++ L) va a v) Q :=
  optB_el h fun q e1 h => andB_el h fun e2 h => by
    obtain ⟨g1, o, g2⟩ := geoP_ok hp e1
    refine ob_i (a := σ₀ ++ L.set (q.1 - p) (.ns (fun y => if y = a then some v else q.2 y))) ?_ (hq _ h)
    unfold setAttrV
    rw [g1]
    show grd (geoAttrs.contains a) _ = _
    rw [e2, ← oget_set hp g2]; rfl
theorem appendB_ok {va v : V} {κ : Store → Bool} (h : appendB p va v L κ = true) {Q : Store → Prop} (hq : ∀ L', κ L' = true → Q (σ₀ ++ L')) : ob (appendV (σ₀ ++ L) va v) Q :=
  optB_el h fun i e1 h => optB_el h fun xs e2 h => andB_el h fun e3 h => by
    refine ob_i (a := σ₀ ++ L.set (i - p) (.list (xs ++ [v]))) ?_ (hq _ h)
    unfold appendV
    rw [e1]
    show obd (listAt (σ₀ ++ L) i) _ = _
    rw [listAt_of (lstP_ok hp e2)]
    show grd (decide (xs.length < 1000000)) _ = _
    rw [e3, ← oget_set hp (lstP_get hp e2)]; rfl
theorem isListB_ok {va : V} {b : Bool} {G : Prop} (h : isListB p va L b = true) (k : isListV (σ₀ ++ L) va → b = true → G) : G :=
  optB_el h fun i e1 h => optB_el h fun xs e2 h => k ⟨i, xs, refV_ok e1, lstP_ok hp e2⟩ h
omit hp in
theorem rngB_ok {f : String} {vs : List V} {κ : V → Bool} {σ : Store} (h : rngB f vs κ = true) {Q : V → Store → Prop} (hq : ∀ v, κ v = true → Q v σ) : wpB f vs σ Q :=
  andB_el h fun hf h => by
    rw [beq_iff_eq.mp hf]
    cases vs with
    | nil => exact noB h
    | cons a r => cases r with
      | nil => exact optB_el h fun b e h => guardB_el h fun hc h => by rw [intV_ok e]; exact WB.range1 hc (hq _ h)
      | cons b r =>
        refine optB_el h fun c e h => optB_el h fun a e1 h => optB_el h fun b e2 h => optB_el h fun c e3 h => guardB_el h fun hc h => ?_
        rw [vOne_ok e, intV_ok e1, intV_ok e2, intV_ok e3]
        exact WB.range3 hc (hq _ h)
end
end
end Mine

end

section
open PySem
set_option linter.unusedVariables false
set_option linter.unusedSimpArgs false
set_option maxRecDepth 100000
set_option tactic.hygienic false
namespace Mine

noncomputable def bodyOf (f : String) : Option (List String × List S) :=
  if f = "is_growing" then some (["d"], b_is_growing)
  else if f = "add_masks" then some (["geo"], b_add_masks)
  else if f = "inner_squares" then some (["geo", "d"], b_inner_squares)
  else if f = "add_rays" then some (["geo"], b_add_rays)
  else if f = "add_pawns" then some (["geo"], b_add_pawns)
  else if f = "add_knights" then some (["geo"], b_add_knights)
  else if f = "add_castles" then some (["geo"], b_add_castles)
  else if f = "make_geometry" then some (["files", "ranks", "has_double", "has_castling"], b_make_geometry)
  else none
theorem bodyOf_ok {C : Ctx} (P : Prg C) {f : String} {ps : List String} {b : List S} (h : bodyOf f = some (ps, b)) : FnOk C f ps b := by
  have step : ∀ {g : String} {q : List String × List S} {o : Option (List String × List S)}, FnOk C g q.1 q.2 → (if f = g then some q else o) = some (ps, b) → (o = some (ps, b) → FnOk C f ps b) → FnOk C f ps b := fun {g q o} F e k => by
    by_cases hg : f = g
    · rw [if_pos hg] at e
      have e := Option.some.inj e
      rw [e] at F; rw [hg]; exact F
    · rw [if_neg hg] at e; exact k e
  exact step P.f_is_growing h fun h => step P.f_add_masks h fun h => step P.f_inner_squares h fun h => step P.f_add_rays h fun h => step P.f_add_pawns h fun h => step P.f_add_knights h fun h => step P.f_add_castles h fun h => step P.f_make_geometry h fun h => no h

noncomputable def plainE : E → Bool
  | .not _ | .all _ | .any _ | .ite _ _ _ | .dct _ _ | .comp _ _ _ _ => false
  | _ => true
theorem wpT_of {C : Ctx} {n : Nat} {X : Store → Prop} {e : E} {m : Loc} {σ : Store} {Q : Bool → Store → Prop} (hp : plainE e = true) (h : wpE C n X e m σ (truthQ Q)) : wpT C n X e m σ Q := by
  cases e with
  | not _ => cases hp
  | all _ => cases hp
  | any _ => cases hp
  | ite _ _ _ => cases hp
  | dct _ _ => cases hp
  | comp _ _ _ _ => cases hp
  | _ => exact h

mutual
noncomputable def runE (p : Nat) : Nat → Nat → E → Env → Store → (V → Store → Bool) → Bool
  | 0, _, _, _, _, _ => false
  | k + 1, n, e, m, L, κ => match e with
    | .cint i => κ (.int i) L
    | .cbool i => κ (.bool i) L
    | .cnone => κ .none L
    | .loc x => optB (lk m x) fun v => κ v L
    | .glob x => optB (glbTab x) fun v => κ v L
    | .bin op a b => runE p k n a m L fun va L1 => runE p k n b m L1 fun vb L2 => binB p op va vb L2 κ
    | .neg a => runE p k n a m L fun va L1 => optB (intV va) fun i => κ (.int (-i)) L1
    | .inv a => runE p k n a m L fun va L1 => optB (intV va) fun i => κ (.int (Builtin.bitNot i)) L1
    | .cmp op a b => runE p k n a m L fun va L1 => runE p k n b m L1 fun vb L2 => cmpB op va vb fun r => κ (.bool r) L2
    | .all es => runAll p k n es m L κ
    | .any es => runAny p k n es m L κ
    | .call f as => runE p k n f m L fun fv L1 => optB (fnV fv) fun g => runEs p k n as m L1 fun vs L2 => (match n with
      | n' + 1 => runC p k n' g vs L2 κ
      | 0 => false)
    | .bcall f as => runEs p k n as m L fun vs L1 => rngB f vs fun v => κ v L1
    | .attr x a => optB (lk m x) fun v => attrB p v a L fun y => κ y L
    | .sub a i => runE p k n a m L fun va L1 => runE p k n i m L1 fun vi L2 => itemB p va vi L2 fun y => κ y L2
    | .tup es => runEs p k n es m L fun vs L1 => κ (.tup vs) L1
    | .lst es => runEs p k n es m L fun vs L1 => κ (.ref (p + L1.length)) (L1 ++ [.list vs])
    | _ => false
termination_by structural k => k
noncomputable def runEs (p : Nat) : Nat → Nat → List E → Env → Store → (List V → Store → Bool) → Bool
  | 0, _, _, _, _, _ => false
  | k + 1, n, es, m, L, κ => match es with
    | [] => κ [] L
    | e :: r => runE p k n e m L fun v L1 => runEs p k n r m L1 fun vs L2 => κ (v :: vs) L2
termination_by structural k => k
noncomputable def runAll (p : Nat) : Nat → Nat → List E → Env → Store → (V → Store → Bool) → Bool
  | 0, _, _, _, _, _ => false
  | k + 1, n, es, m, L, κ => match es with
    | [] => false
    | e :: r => runE p k n e m L fun v L1 => (match r with
      | [] => κ v L1
      | _ :: _ => optB (truthV v) fun b => if b then runAll p k n r m L1 κ else κ v L1)
termination_by structural k => k
noncomputable def runAny (p : Nat) : Nat → Nat → List E → Env → Store → (V → Store → Bool) → Bool
  | 0, _, _, _, _, _ => false
  | k + 1, n, es, m, L, κ => match es with
    | [] => false
    | e :: r => runE p k n e m L fun v L1 => (match r with
      | [] => κ v L1
      | _ :: _ => optB (truthV v) fun b => if b then κ v L1 else runAny p k n r m L1 κ)
termination_by structural k => k
noncomputable def runT (p : Nat) : Nat → Nat → E → Env → Store → (Bool → Store → Bool) → Bool
  | 0, _, _, _, _, _ => false
  | k + 1, n, e, m, L, κ => match e with
    | .all es => runTAll p k n es m L κ
    | .any es => runTAny p k n es m L κ
    | e => andB (plainE e) (runE p k n e m L fun v L1 => optB (truthV v) fun b => κ b L1)
termination_by structural k => k
noncomputable def runTAll (p : Nat) : Nat → Nat → List E → Env → Store → (Bool → Store → Bool) → Bool
  | 0, _, _, _, _, _ => false
  | k + 1, n, es, m, L, κ => match es with
    | [] => κ true L
    | e :: r => runT p k n e m L fun b L1 => if b then runTAll p k n r m L1 κ else κ false L1
termination_by structural k => k
noncomputable def runTAny (p : Nat) : Nat → Nat → List E → Env → Store → (Bool → Store → Bool) → Bool
  | 0, _, _, _, _, _ => false
  | k + 1, n, es, m, L, κ => match es with
    | [] => κ false L
    | e :: r => runT p k n e m L fun b L1 => if b then κ true L1 else runTAny p k n r m L1 κ
termination_by structural k => k
noncomputable def runC (p : Nat) : Nat → Nat → String → List V → Store → (V → Store → Bool) → Bool
  | 0, _, _, _, _, _ => false
  | k + 1, n, f, vs, L, κ => if f = "Geometry" then (match n with
      | n' + 4 => optB (bindE ["self", "files", "ranks", "has_double", "has_castling"] (.ref (p + L.length + 1) :: vs) []) fun m =>
          runSs p k n' b_Geometry_init m (L ++ [.ns fun _ => none] ++ [.inst "Geometry" (p + L.length)]) fun fl _ L1 => (match fl with
          | .next => κ (.ref (p + L.length + 1)) L1
          | _ => false)
      | _ => false)
    else (match n with
      | n' + 1 => optB (bodyOf f) fun pb => optB (bindE pb.1 vs []) fun m => runSs p k n' pb.2 m L fun fl _ L1 => (match fl with
          | .ret v => κ v L1
          | .next => κ .none L1
          | .cont => false)
      | 0 => false)
termination_by structural k => k
noncomputable def runS (p : Nat) : Nat → Nat → S → Env → Store → (Fl → Env → Store → Bool) → Bool
  | 0, _, _, _, _, _ => false
  | k + 1, n, s, m, L, κ => match s with
    | .assign t e => runE p k n e m L fun v L1 => (match t with
      | .name x => κ .next (put m x v) L1
      | .tup _ => false
      | .sub a i => runE p k n a m L1 fun va L2 => runE p k n i m L2 fun vi L3 => setItemB p va vi v L3 fun L4 => κ .next m L4
      | .attr x a => optB (lk m x) fun va => setAttrB p va a v L1 fun L2 => κ .next m L2)
    | .aug x op e => (match op with
      | .BitOr => optB (lk m x) fun v => runE p k n e m L fun w L1 => optB (intV v) fun a => optB (intV w) fun b => κ .next (put m x (.int (Builtin.bitOr a b))) L1
      | _ => false)
    | .augsub a i op e => (match op with
      | .BitOr => runE p k n a m L fun va L1 => runE p k n i m L1 fun vi L2 => itemB p va vi L2 fun old => runE p k n e m L2 fun w L3 => optB (intV old) fun x => optB (intV w) fun b =>
          setItemB p va vi (.int (Builtin.bitOr x b)) L3 fun L4 => κ .next m L4
      | _ => false)
    | .expr e => runE p k n e m L fun _ L1 => κ .next m L1
    | .append a e => runE p k n a m L fun va L1 => isListB p va L1 (runE p k n e m L1 fun v L2 => appendB p va v L2 fun L3 => κ .next m L3)
    | .ite t b o => runT p k n t m L fun c L1 => if c then runSs p k n b m L1 κ else runSs p k n o m L1 κ
    | .for t src body => (match t with
      | .name x => runE p k n src m L fun sv L1 => optB (rngV sv) fun q => runF p k n x body ((rngList q.1 q.2.1 q.2.2).map .int) m L1 κ
      | _ => false)
    | .ret e => runE p k n e m L fun v L1 => κ (.ret v) m L1
    | .pass => κ .next m L
    | _ => false
termination_by structural k => k
noncomputable def runSs (p : Nat) : Nat → Nat → List S → Env → Store → (Fl → Env → Store → Bool) → Bool
  | 0, _, _, _, _, _ => false
  | k + 1, n, ss, m, L, κ => match ss with
    | [] => κ .next m L
    | s :: r => runS p k n s m L fun fl m1 L1 => (match fl with
      | .next => runSs p k n r m1 L1 κ
      | fl => κ fl m1 L1)
termination_by structural k => k
noncomputable def runF (p : Nat) : Nat → Nat → String → List S → List V → Env → Store → (Fl → Env → Store → Bool) → Bool
  | 0, _, _, _, _, _, _, _ => false
  | k + 1, n, x, body, items, m, L, κ => match items with
    | [] => κ .next m L
    | v :: r => runSs p k n body (put m x v) L fun fl m1 L1 => (match fl with
      | .ret v => κ (.ret v) m1 L1
      | _ => runF p k n x body r m1 L1 κ)
termination_by structural k => k
end

section
variable (C : Ctx) (p k : Nat) (σ₀ : Store) (X : Store → Prop)
abbrev SndE : Prop := ∀ {n e m L κ}, runE p k n e m L κ = true → ∀ {Q : V → Store → Prop}, (∀ v L', κ v L' = true → Q v (σ₀ ++ L')) → wpE C n X e (lk m) (σ₀ ++ L) Q
abbrev SndEs : Prop := ∀ {n es m L κ}, runEs p k n es m L κ = true → ∀ {Q : List V → Store → Prop}, (∀ v L', κ v L' = true → Q v (σ₀ ++ L')) → wpEs C n X es (lk m) (σ₀ ++ L) Q
abbrev SndAll : Prop := ∀ {n es m L κ}, runAll p k n es m L κ = true → ∀ {Q : V → Store → Prop}, (∀ v L', κ v L' = true → Q v (σ₀ ++ L')) → wpAll C n X es (lk m) (σ₀ ++ L) Q
abbrev SndAny : Prop := ∀ {n es m L κ}, runAny p k n es m L κ = true → ∀ {Q : V → Store → Prop}, (∀ v L', κ v L' = true → Q v (σ₀ ++ L')) → wpAnyL C n X es (lk m) (σ₀ ++ L) Q
abbrev SndT : Prop := ∀ {n e m L κ}, runT p k n e m L κ = true → ∀ {Q : Bool → Store → Prop}, (∀ v L', κ v L' = true → Q v (σ₀ ++ L')) → wpT C n X e (lk m) (σ₀ ++ L) Q
abbrev SndTAll : Prop := ∀ {n es m L κ}, runTAll p k n es m L κ = true → ∀ {Q : Bool → Store → Prop}, (∀ v L', κ v L' = true → Q v (σ₀ ++ L')) → wpTAll C n X es (lk m) (σ₀ ++ L) Q
abbrev SndTAny : Prop := ∀ {n es m L κ}, runTAny p k n es m L κ = true → ∀ {Q : Bool → Store → Prop}, (∀ v L', κ v L' = true → Q v (σ₀ ++ L')) → wpTAny C n X es (lk m) (σ₀ ++ L) Q
abbrev SndC : Prop := ∀ {n f vs L κ}, runC p k n f vs L κ = true → ∀ {Q : V → Store → Prop}, (∀ v L', κ v L' = true → Q v (σ₀ ++ L')) → SemCall C n f vs (σ₀ ++ L) Q X
abbrev SndS : Prop := ∀ {n s m L κ}, runS p k n s m L κ = true → ∀ {Q : Fl → Loc → Store → Prop}, (∀ fl m' L', κ fl m' L' = true → Q fl (lk m') (σ₀ ++ L')) → wpS C n X s (lk m) (σ₀ ++ L) Q
abbrev SndSs : Prop := ∀ {n s m L κ}, runSs p k n s m L κ = true → ∀ {Q : Fl → Loc → Store → Prop}, (∀ fl m' L', κ fl m' L' = true → Q fl (lk m') (σ₀ ++ L')) → wpSs C n X s (lk m) (σ₀ ++ L) Q
abbrev SndF : Prop := ∀ {n x body items m L κ}, runF p k n x body items m L κ = true → ∀ {a b c : Int} {all : List V}, (∀ σ, srcItems σ (.rng a b c) = some all) → ∀ {Q : Fl → Loc → Store → Prop}, (∀ fl m' L', κ fl m' L' = true → Q fl (lk m') (σ₀ ++ L')) →
  forW (.rng a b c) all (bndT (.name x)) (fun m σ Q => wpSs C n X body m σ Q) items (lk m) (σ₀ ++ L) Q
structure Snd : Prop where
  e : SndE C p k σ₀ X
  es : SndEs C p k σ₀ X
  all : SndAll C p k σ₀ X
  any : SndAny C p k σ₀ X
  t : SndT C p k σ₀ X
  tall : SndTAll C p k σ₀ X
  tany : SndTAny C p k σ₀ X
  c : SndC C p k σ₀ X
  s : SndS C p k σ₀ X
  ss : SndSs C p k σ₀ X
  f : SndF C p k σ₀ X
end

section
variable {C : Ctx} (P : Prg C) {p k : Nat} {σ₀ : Store} {X : Store → Prop} (hp : σ₀.length = p) (ih : Snd C p k σ₀ X)
include ih
theorem snd_es : SndEs C p (k + 1) σ₀ X := by
  intro n es m L κ h Q hq
  cases es with
  | nil => exact hq _ _ h
  | cons e r => exact ih.e h fun v L1 h1 => ih.es h1 fun vs L2 h2 => hq _ _ h2
theorem snd_all : SndAll C p (k + 1) σ₀ X := by
  intro n es m L κ h Q hq
  cases es with
  | nil => exact noB h
  | cons e r =>
    refine ih.e h fun v L1 h1 => ?_
    cases r with
    | nil => exact hq _ _ h1
    | cons e' r =>
      refine optB_ob h1 fun b h2 => ?_
      cases b
      · exact hq _ _ h2
      · exact ih.all h2 hq
theorem snd_any : SndAny C p (k + 1) σ₀ X := by
  intro n es m L κ h Q hq
  cases es with
  | nil => exact noB h
  | cons e r =>
    refine ih.e h fun v L1 h1 => ?_
    cases r with
    | nil => exact hq _ _ h1
    | cons e' r =>
      refine optB_ob h1 fun b h2 => ?_
      cases b
      · exact ih.any h2 hq
      · exact hq _ _ h2
theorem snd_t : SndT C p (k + 1) σ₀ X := by
  intro n e m L κ h Q hq
  have plain : andB (plainE e) (runE p k n e m L fun v L1 => optB (truthV v) fun b => κ b L1) = true → wpT C n X e (lk m) (σ₀ ++ L) Q := fun h =>
    andB_el h fun hp h1 => wpT_of hp (ih.e h1 fun v L1 h2 => optB_ob h2 fun b h3 => hq _ _ h3)
  cases e with
  | all es => exact ih.tall h hq
  | any es => exact ih.tany h hq
  | _ => exact plain h
theorem snd_tall : SndTAll C p (k + 1) σ₀ X := by
  intro n es m L κ h Q hq
  cases es with
  | nil => exact hq _ _ h
  | cons e r =>
    refine ih.t h fun b L1 h1 => ?_
    cases b
    · exact hq _ _ h1
    · exact ih.tall h1 hq
theorem snd_tany : SndTAny C p (k + 1) σ₀ X := by
  intro n es m L κ h Q hq
  cases es with
  | nil => exact hq _ _ h
  | cons e r =>
    refine ih.t h fun b L1 h1 => ?_
    cases b
    · exact ih.tany h1 hq
    · exact hq _ _ h1
theorem snd_ss : SndSs C p (k + 1) σ₀ X := by
  intro n ss m L κ h Q hq
  cases ss with
  | nil => exact hq _ _ _ h
  | cons s r =>
    refine ih.s h fun fl m1 L1 h1 => ?_
    cases fl with
    | next => exact ih.ss h1 hq
    | cont => exact hq _ _ _ h1
    | ret v => exact hq _ _ _ h1
theorem snd_f : SndF C p (k + 1) σ₀ X := by
  intro n x body items m L κ h a b c all hall Q hq
  cases items with
  | nil => exact ⟨hall _, hq _ _ _ h⟩
  | cons v r =>
    refine ⟨hall _, ?_⟩
    show wpSs _ _ _ _ (upd (lk m) x v) _ _
    rw [← lk_put]
    refine ih.ss h fun fl m1 L1 h1 => ?_
    cases fl with
    | next => exact ih.f h1 hall hq
    | cont => exact ih.f h1 hall hq
    | ret v => exact hq _ _ _ h1
include hp
theorem snd_e : SndE C p (k + 1) σ₀ X := by
  intro n e m L κ h Q hq
  cases e with
  | cint i => exact hq _ _ h
  | cbool i => exact hq _ _ h
  | cnone => exact hq _ _ h
  | loc x => exact optB_ob h fun v h => hq _ _ h
  | glob x => exact optB_ob h fun v h => hq _ _ h
  | bin op a b => exact ih.e h fun va L1 h1 => ih.e h1 fun vb L2 h2 => binB_ok hp h2 hq
  | neg a => exact ih.e h fun va L1 h1 => optB_ob h1 fun i h => hq _ _ h
  | inv a => exact ih.e h fun va L1 h1 => optB_ob h1 fun i h => hq _ _ h
  | cmp op a b => exact ih.e h fun va L1 h1 => ih.e h1 fun vb L2 h2 => cmpB_ok h2 fun r h => hq _ _ h
  | all es => exact ih.all h hq
  | any es => exact ih.any h hq
  | call f as =>
    refine ih.e h fun fv L1 h1 => ?_
    refine optB_el h1 fun g e h2 => ih.es h2 fun vs L2 h3 => ob_i e ?_
    cases n with
    | zero => exact noB h3
    | succ n => exact ih.c h3 hq
  | bcall f as => exact ih.es h fun vs L1 h1 => rngB_ok h1 fun v h2 => hq _ _ h2
  | attr x a => exact optB_ob h fun v h1 => attrB_ok hp h1 fun y h2 => hq _ _ h2
  | sub a i => exact ih.e h fun va L1 h1 => ih.e h1 fun vi L2 h2 => itemB_ok hp h2 fun y h3 => hq _ _ h3
  | tup es => exact ih.es h fun vs L1 h1 => hq _ _ h1
  | lst es =>
    refine ih.es h fun vs L1 h1 => ?_
    have := hq _ _ h1
    rw [← len_app hp, ← List.append_assoc] at this
    exact this
  | _ => exact noB h
theorem snd_s : SndS C p (k + 1) σ₀ X := by
  intro n s m L κ h Q hq
  cases s with
  | assign t e =>
    refine ih.e h fun v L1 h1 => ?_
    cases t with
    | name x =>
      have := hq _ _ _ h1
      rw [lk_put] at this; exact this
    | tup _ => exact noB h1
    | sub a i => exact ih.e h1 fun va L2 h2 => ih.e h2 fun vi L3 h3 => setItemB_ok hp h3 fun L4 h4 => hq _ _ _ h4
    | attr x a => exact optB_ob h1 fun va h2 => setAttrB_ok hp h2 fun L2 h3 => hq _ _ _ h3
  | aug x op e =>
    cases op with
    | BitOr =>
      refine optB_ob h fun v h => ih.e h fun w L1 h => optB_ob h fun a h => optB_ob h fun b h => ?_
      have := hq _ _ _ h
      rw [lk_put] at this; exact this
    | _ => exact noB h
  | augsub a i op e =>
    cases op with
    | BitOr =>
      refine ih.e h fun va L1 h1 => ih.e h1 fun vi L2 h2 => itemB_ok hp h2 fun old h3 => ?_
      exact ih.e h3 fun w L3 h => optB_ob h fun a h => optB_ob h fun b h => setItemB_ok hp h fun L4 h => hq _ _ _ h
    | _ => exact noB h
  | expr e => exact ih.e h fun v L1 h1 => hq _ _ _ h1
  | append a e =>
    exact ih.e h fun va L1 h1 => isListB_ok hp h1 fun hl h2 => ⟨hl, ih.e h2 fun v L2 h3 => appendB_ok hp h3 fun L3 h4 => hq _ _ _ h4⟩
  | ite t b o =>
    refine ih.t h fun c L1 h1 => ?_
    cases c
    · exact ih.ss h1 hq
    · exact ih.ss h1 hq
  | «for» t src body =>
    cases t with
    | name x =>
      refine ih.e h fun sv L1 h1 => optB_el h1 fun q e h2 => ?_
      rw [rngV_ok e]
      exact ih.f h2 (fun _ => rfl) hq
    | _ => exact noB h
  | ret e => exact ih.e h fun v L1 h1 => hq _ _ _ h1
  | pass => exact hq _ _ _ h
  | _ => exact noB h
include P
theorem snd_c : SndC C p (k + 1) σ₀ X := by
  intro n f vs L κ h Q hq
  replace h : (if f = "Geometry" then _ else _) = true := h
  by_cases hf : f = "Geometry"
  · rw [if_pos hf] at h
    subst hf
    cases n with
    | zero => exact noB h
    | succ n => cases n with
    | zero => exact noB h
    | succ n => cases n with
    | zero => exact noB h
    | succ n => cases n with
    | zero => exact noB h
    | succ n' =>
      refine optB_el h fun m e1 h1 => P.geo n' vs (σ₀ ++ L) Q X (lk m) (by rw [len_app hp]; exact bindE_ok e1) ?_
      rw [len_app hp, List.append_assoc, List.append_assoc, ← List.append_assoc L]
      refine ih.ss h1 fun fl m1 L1 h2 => ?_
      cases fl with
      | next => exact ⟨rfl, hq _ _ h2⟩
      | ret v => exact noB h2
      | cont => exact noB h2
  · rw [if_neg hf] at h
    cases n with
    | zero => exact noB h
    | succ n =>
      refine optB_el h fun pb e1 h => optB_el h fun m e2 h2 => P.call (bodyOf_ok P e1) (bindE_ok e2) (ih.ss h2 fun fl m1 L1 h3 => ?_)
      cases fl with
      | next => exact hq _ _ h3
      | ret v => exact hq _ _ h3
      | cont => exact noB h3
end

theorem snd {C : Ctx} (P : Prg C) {p : Nat} {σ₀ : Store} {X : Store → Prop} (hp : σ₀.length = p) : ∀ k, Snd C p k σ₀ X
  | 0 => ⟨fun h => (nomatch h), fun h => (nomatch h), fun h => (nomatch h), fun h => (nomatch h), fun h => (nomatch h), fun h => (nomatch h), fun h => (nomatch h), fun h => (nomatch h), fun h => (nomatch h), fun h => (nomatch h), fun h => (nomatch h)⟩
  | k + 1 =>
    have ih := snd P hp k
    ⟨snd_e hp ih, snd_es ih, snd_all ih, snd_any ih, snd_t ih, snd_tall ih, snd_tany ih, snd_c P hp ih, snd_s hp ih, snd_ss ih, snd_f ih⟩
end Mine

end

section
open PySem
set_option linter.unusedVariables false
set_option maxRecDepth 100000
set_option tactic.hygienic false
namespace Mine

noncomputable def g23 : GeoD := ⟨2, 3, 63, [14, 13, 59, 55, 44, 28], [32, 16, 0, 0, 2, 1],
  [[20, 40, 16, 32, 0, 0], [2, 0, 8, 0, 32, 0], [0, 0, 1, 2, 5, 10], [0, 1, 0, 4, 0, 16], [8, 0, 32, 0, 0, 0], [0, 0, 2, 0, 8, 0], [0, 0, 0, 1, 0, 4], [0, 4, 0, 16, 0, 0]]⟩
noncomputable def g33 : GeoD := ⟨3, 3, 511, [26, 61, 50, 211, 495, 406, 152, 376, 176], [160, 320, 136, 260, 0, 65, 34, 5, 10],
  [[72, 144, 288, 64, 128, 256, 0, 0, 0], [6, 4, 0, 48, 32, 0, 384, 256, 0], [0, 0, 0, 1, 2, 4, 9, 18, 36], [0, 1, 3, 0, 8, 24, 0, 64, 192], [272, 32, 0, 128, 256, 0, 0, 0, 0], [0, 0, 0, 2, 4, 0, 20, 32, 0],
    [0, 0, 0, 0, 1, 2, 0, 8, 17], [0, 8, 80, 0, 64, 128, 0, 0, 0]]⟩
noncomputable def g24 : GeoD := ⟨2, 4, 255, [14, 13, 59, 55, 236, 220, 176, 112], [32, 16, 128, 64, 2, 1, 8, 4],
  [[84, 168, 80, 160, 64, 128, 0, 0], [2, 0, 8, 0, 32, 0, 128, 0], [0, 0, 1, 2, 5, 10, 21, 42], [0, 1, 0, 4, 0, 16, 0, 64], [8, 0, 32, 0, 128, 0, 0, 0], [0, 0, 2, 0, 8, 0, 32, 0], [0, 0, 0, 1, 0, 4, 0, 16], [0, 4, 0, 16, 0, 64, 0, 0]]⟩
noncomputable def g34 : GeoD := ⟨3, 4, 4095, [26, 61, 50, 211, 495, 406, 1688, 3960, 3248, 1216, 3008, 1408], [160, 320, 136, 1284, 2560, 1089, 2082, 5, 522, 272, 40, 80],
  [[584, 1168, 2336, 576, 1152, 2304, 512, 1024, 2048, 0, 0, 0], [6, 4, 0, 48, 32, 0, 384, 256, 0, 3072, 2048, 0], [0, 0, 0, 1, 2, 4, 9, 18, 36, 73, 146, 292], [0, 1, 3, 0, 8, 24, 0, 64, 192, 0, 512, 1536],
    [272, 32, 0, 2176, 256, 0, 1024, 2048, 0, 0, 0, 0], [0, 0, 0, 2, 4, 0, 20, 32, 0, 160, 256, 0], [0, 0, 0, 0, 1, 2, 0, 8, 17, 0, 64, 136], [0, 8, 80, 0, 64, 640, 0, 512, 1024, 0, 0, 0]]⟩

noncomputable def isI (v : Option V) (i : Int) (b : Bool) : Bool := andB ((v.bind intV) == some i) b
theorem isI_el {v : Option V} {i : Int} {b : Bool} {G : Prop} (h : isI v i b = true) (k : v = some (.int i) → b = true → G) : G :=
  andB_el h fun h1 h2 => k (by
    obtain ⟨w, e1, e2⟩ := Option.bind_eq_some_iff.mp (beq_iff_eq.mp h1)
    rw [e1, intV_ok e2]) h2
noncomputable def isL (p : Nat) (L : Store) (w : V) (l : List Int) : Option Nat := obd (refV w) fun a => obd (lstP p L a) fun xs => obd (intsOf xs) fun r => grd (r == l) (some a)
theorem isL_ok {p : Nat} {L σ₀ : Store} (hp : σ₀.length = p) {w : V} {l : List Int} {a : Nat} (h : isL p L w l = some a) : w = .ref a ∧ (σ₀ ++ L)[a]? = some (.list (l.map V.int)) :=
  obd_el h fun b e1 h => obd_el h fun xs e2 h => obd_el h fun r e3 h => grd_el h fun e4 h => by
    rw [← Option.some.inj h, ← beq_iff_eq.mp e4, ← intsOf_eq e3]
    exact ⟨refV_ok e1, lstP_ok hp e2⟩
noncomputable def isRays (p : Nat) (L : Store) (vs : List V) : List (List Int) → Option (List Nat) := List.rec (motive := fun _ => List (List Int) → Option (List Nat)) (fun ls => grd ls.isEmpty (some [])) (fun v _ ih ls => match ls with
  | [] => none
  | l :: s => obd (isL p L v l) fun a => obd (ih s) fun r => some (a :: r)) vs
theorem isRays_ok {p : Nat} {L σ₀ : Store} (hp : σ₀.length = p) {xs : List V} : ∀ {ls : List (List Int)} {rs : List Nat}, isRays p L xs ls = some rs → xs = rs.map V.ref ∧ ∀ (d : Nat) (l : List Int), ls[d]? = some l → ∃ a, rs[d]? = some a ∧ (σ₀ ++ L)[a]? = some (AObj.list (l.map V.int)) := by
  induction xs with
  | nil => intro ls rs h; exact grd_el h fun e h => by rw [← Option.some.inj h, List.isEmpty_iff.mp e]; exact ⟨rfl, fun d l h => no h⟩
  | cons v r ih =>
    intro ls rs h
    cases ls with
    | nil => exact no h
    | cons l s =>
      refine obd_el h fun a e1 h => obd_el h fun r' e2 h => ?_
      obtain ⟨f1, f2⟩ := isL_ok hp e1
      obtain ⟨f3, f4⟩ := ih e2
      rw [← Option.some.inj h, f1, f3]
      refine ⟨rfl, fun d m e => ?_⟩
      cases d with
      | zero => rw [← Option.some.inj (show some l = some m from e)]; exact ⟨a, rfl, f2⟩
      | succ d => exact f4 d m e
noncomputable def chkGeo (p : Nat) (L : Store) (g : V) (G : GeoD) : Bool := optB (refV g) fun i => optB (oget p L i) fun o => optB (instO o) fun d => optB (oget p L d) fun o => optB (nsO o) fun f =>
  isI (f "files") G.files (isI (f "size") (G.files * G.ranks : Nat) (isI (f "full") G.full
    (optB (f "king") fun wk => optB (isL p L wk G.king) fun _ => optB (f "knight") fun wn => optB (isL p L wn G.knight) fun _ => optB (f "rays") fun wr => optB (refV wr) fun a => optB (lstP p L a) fun xs => (isRays p L xs G.rays).isSome)))
theorem chkGeo_ok {p : Nat} {L σ₀ : Store} (hp : σ₀.length = p) {v : V} {G : GeoD} (h : chkGeo p L v G = true) : ∃ g, v = .ref g ∧ GeoIs (σ₀ ++ L) g G := by
  refine optB_el h fun g eg h => optB_el h fun o ho h => optB_el h fun d e0 h => optB_el h fun o' hn h => optB_el h fun f e1 h => isI_el h fun h1 h => isI_el h fun h2 h => isI_el h fun h3 h => optB_el h fun wk e2 h => optB_el h fun kk h4 h => optB_el h fun wn e3 h => optB_el h fun kn h5 h => optB_el h fun wr e4 h => optB_el h fun r e5 h => optB_el h fun xs h6 h => ?_
  obtain ⟨rs, hr⟩ := Option.isSome_iff_exists.mp h
  obtain ⟨f1, f2⟩ := isRays_ok hp hr
  rw [instO_ok e0] at ho
  rw [nsO_ok e1] at hn
  rw [(isL_ok hp h4).1] at e2
  rw [(isL_ok hp h5).1] at e3
  rw [refV_ok e5] at e4
  exact ⟨g, refV_ok eg, d, f, kk, kn, r, rs, oget_ok hp ho, oget_ok hp hn, h1, h2, h3, e2, (isL_ok hp h4).2, e3, (isL_ok hp h5).2, e4, f1 ▸ lstP_ok hp h6, f2⟩
noncomputable def chkMk (p : Nat) (G : GeoD) : Bool := runC p 400 38 "make_geometry" [.int G.files, .int G.ranks, .bool false, .bool false] [] fun v L => chkGeo p L v G

theorem s_make {C : Ctx} (P : Prg C) {X : Store → Prop} {σ : Store} {p : Nat} (hp : σ.length = p) {G : GeoD} (h : chkMk p G = true) :
    SemCall C 38 "make_geometry" [.int G.files, .int G.ranks, .bool false, .bool false] σ (fun v σ' => ∃ g, v = .ref g ∧ GeoIs σ' g G ∧ Keep σ σ') X := by
  have := (snd P hp 400 (X := X)).c h (Q := fun v σ' => ∃ g, v = .ref g ∧ GeoIs σ' g G ∧ Keep σ σ') fun v L e => by
    obtain ⟨g, e1, e2⟩ := chkGeo_ok hp e
    exact ⟨g, e1, e2, fun i o hi => by rw [List.getElem?_append_left (List.getElem?_eq_some_iff.mp hi).1]; exact hi⟩
  rwa [List.append_nil] at this
set_option maxHeartbeats 4000000
theorem chk23 : chkMk 4 g23 = true := by decide +kernel
theorem chk33 : chkMk 3 g33 = true := by decide +kernel
theorem chk24 : chkMk 3 g24 = true := by decide +kernel
theorem chk34 : chkMk 4 g34 = true := by decide +kernel
theorem ok23 : g23.Ok := ⟨by decide, by decide, by decide, by decide, by decide, by decide⟩
theorem ok33 : g33.Ok := ⟨by decide, by decide, by decide, by decide, by decide, by decide⟩
theorem ok24 : g24.Ok := ⟨by decide, by decide, by decide, by decide, by decide, by decide⟩
theorem ok34 : g34.Ok := ⟨by decide, by decide, by decide, by decide, by decide, by decide⟩
end Mine

end

section
open PySem
set_option linter.unusedVariables false
set_option linter.unusedSimpArgs false
set_option maxRecDepth 100000
set_option tactic.hygienic false
namespace Mine

theorem GeoIs.i_size {σ : Store} {g : Nat} {G : GeoD} (h : GeoIs σ g G) {Q : V → Prop} (hq : Q (.int (G.files * G.ranks : Nat))) : wpAttr (.ref g) "size" σ Q := by
  obtain ⟨d, f, kk, kn, r, rs, h1, h2, h3, h4, h5, h6, h7, h8, h9, h10, h11, h12⟩ := h
  exact wpAttr_i h1 h2 rfl h4 rfl hq
theorem GeoIs.i_full {σ : Store} {g : Nat} {G : GeoD} (h : GeoIs σ g G) {Q : V → Prop} (hq : Q (.int G.full)) : wpAttr (.ref g) "full" σ Q := by
  obtain ⟨d, f, kk, kn, r, rs, h1, h2, h3, h4, h5, h6, h7, h8, h9, h10, h11, h12⟩ := h
  exact wpAttr_i h1 h2 rfl h5 rfl hq
theorem ints_get {l : List Int} {k : Nat} (hk : k < l.length) : (l.map V.int)[k]? = some (.int ((l[k]?).getD 0)) := by
  rw [List.getElem?_map, List.getElem?_eq_getElem hk]; rfl
theorem item_ints {σ : Store} {a : Nat} {l : List Int} (h : σ[a]? = some (.list (l.map V.int))) {k : Nat} (hk : k < l.length) (hl : l.length < 1000000) {Q : V → Prop} (hq : Q (.int ((l[k]?).getD 0))) : wpItem (.ref a) (.int k) σ Q :=
  item_get h (ints_get hk) (by omega) hq
theorem GeoIs.i_king {σ : Store} {g : Nat} {G : GeoD} (h : GeoIs σ g G) (ok : G.Ok) : ∃ kk, (∀ {Q : V → Prop}, Q (.ref kk) → wpAttr (.ref g) "king" σ Q) ∧ ∀ {k : Nat} {Q : V → Prop}, k < G.files * G.ranks → Q (.int ((G.king[k]?).getD 0)) → wpItem (.ref kk) (.int k) σ Q := by
  obtain ⟨d, f, kk, kn, r, rs, h1, h2, h3, h4, h5, h6, h7, h8, h9, h10, h11, h12⟩ := h
  exact ⟨kk, fun hq => wpAttr_i h1 h2 rfl h6 rfl hq, fun hk hq => item_ints h7 (by rw [ok.king]; exact hk) (by rw [ok.king]; have := ok.size; omega) hq⟩

/-- a comprehension's turns, by a fact that stays -/
theorem compW_inv {src : V} {items : List V} {x : String} {conds : Loc → Store → (Bool → Store → Prop) → Prop} {elt : Loc → Store → (V → Store → Prop) → Prop} {Q : List V → Store → Prop} {m₀ : Loc} (I : Nat → List V → Store → Prop)
    (hsrc : ∀ i acc σ, I i acc σ → srcItems σ src = some items)
    (hstep : ∀ i v acc m σ, items[i]? = some v → I i acc σ → (∀ y, y ≠ x → m y = m₀ y) → m x = some v → ∀ K : List V → Store → Prop, (∀ acc' σ', I (i + 1) acc' σ' → K acc' σ') →
      conds m σ fun b σ₁ => if b then elt m σ₁ fun y σ₂ => K (acc ++ [y]) σ₂ else K acc σ₁)
    (hend : ∀ acc σ, I items.length acc σ → Q acc σ) :
    ∀ (rest : List V) (i : Nat) (acc : List V) (m : Loc) (σ : Store), items.drop i = rest → i ≤ items.length → (∀ y, y ≠ x → m y = m₀ y) → I i acc σ → compW src items x conds elt rest acc m σ Q := by
  intro rest
  induction rest with
  | nil =>
    intro i acc m σ hd hi hm hI
    have hlen : items.length = i := by
      have := congrArg List.length hd
      simp at this; omega
    exact ⟨hsrc _ _ _ hI, hend _ _ (hlen ▸ hI)⟩
  | cons v r ih =>
    intro i acc m σ hd hi hm hI
    have hv : items[i]? = some v := by
      have := congrArg (fun l => l[0]?) hd
      simpa using this
    have hlt : i < items.length := (List.getElem?_eq_some_iff.mp hv).1
    have hd' : items.drop (i + 1) = r := by rw [← List.drop_drop, hd]; rfl
    have hm' : ∀ y, y ≠ x → upd m x v y = m₀ y := fun y hy => by rw [upd_ne hy]; exact hm y hy
    exact ⟨hsrc _ _ _ hI, hstep i v acc (upd m x v) σ hv hI hm' upd_same (fun acc' σ' => compW src items x conds elt r acc' (upd m x v) σ' Q) fun acc' σ' h => ih (i + 1) acc' _ σ' hd' hlt hm' h⟩

theorem wpE_comp {C : Ctx} {n : Nat} {X : Store → Prop} {elt : E} {x : String} {src : E} {conds : List E} {m : Loc} {σ : Store} {Q : V → Store → Prop}
    (I : Nat → List V → Store → Prop) (sv : V) (items : List V) (hsv : ∀ Q' : V → Store → Prop, Q' sv σ → wpE C n X src m σ Q') (hit : srcItems σ sv = some items) (hlen : items.length < 1000000)
    (h0 : I 0 [] σ)
    (hsrc : ∀ i acc σ, I i acc σ → srcItems σ sv = some items)
    (hstep : ∀ i v acc m' σ, items[i]? = some v → I i acc σ → (∀ y, y ≠ x → y ≠ ".0" → m' y = m y) → m' x = some v → ∀ K : List V → Store → Prop, (∀ acc' σ', I (i + 1) acc' σ' → K acc' σ') →
      wpCs C n (fun _ => False) conds m' σ fun b σ₁ => if b then wpE C n (fun _ => False) elt m' σ₁ fun y σ₂ => K (acc ++ [y]) σ₂ else K acc σ₁)
    (hend : ∀ acc σ, I items.length acc σ → Q (.ref σ.length) (σ ++ [.list acc])) : wpE C n X (.comp elt x src conds) m σ Q := by
  refine hsv _ (ob_i hit ⟨hlen, ?_⟩)
  refine compW_inv (m₀ := clr (clr m x) ".0") I hsrc (fun i v acc m' σ' hv hI hm hx K hK => hstep i v acc m' σ' hv hI (fun y h1 h2 => ?_) hx K hK) hend _ 0 [] _ σ rfl (Nat.zero_le _) (fun y _ => rfl) h0
  rw [hm y h1]; simp [clr, h1, h2]

noncomputable def bit (x : Int) (k : Nat) : Int := Builtin.bitAnd (x / 2 ^ k) 1
structure Pl where
  side : Nat
  king : Nat
  man : Nat
  bare : Nat

noncomputable def Pl.v (p : Pl) : V := .tup [.int p.side, .int p.king, .int p.man, .int p.bare]
noncomputable def idx (s : Nat) (p : Pl) : Nat := ((p.side * s + p.king) * s + p.man) * s + p.bare
structure Pl.In (s : Nat) (p : Pl) : Prop where
  side : p.side < 2
  king : p.king < s
  man : p.man < s
  bare : p.bare < s
theorem idx_lt {s : Nat} {p : Pl} (h : p.In s) : idx s p < 2 * s * s * s := by
  have h1 : p.side * s + p.king < 2 * s := by have := h.side; have := h.king; have : p.side * s ≤ 1 * s := Nat.mul_le_mul_right _ (by omega); omega
  have h2 : (p.side * s + p.king) * s + p.man < 2 * s * s := by
    have := h.man
    have : (p.side * s + p.king + 1) * s ≤ 2 * s * s := Nat.mul_le_mul_right _ (by omega)
    rw [Nat.add_mul] at this; omega
  have : ((p.side * s + p.king) * s + p.man + 1) * s ≤ 2 * s * s * s := Nat.mul_le_mul_right _ (by omega)
  rw [Nat.add_mul] at this
  have := h.bare
  unfold idx; omega
theorem mul_add_inj {s a b c d : Nat} (hb : b < s) (hd : d < s) (h : a * s + b = c * s + d) : a = c ∧ b = d := by
  have hs : 0 < s := by omega
  have h1 : (a * s + b) / s = a := by rw [Nat.mul_comm, Nat.mul_add_div hs, Nat.div_eq_of_lt hb]; omega
  have h2 : (c * s + d) / s = c := by rw [Nat.mul_comm, Nat.mul_add_div hs, Nat.div_eq_of_lt hd]; omega
  have : a = c := by rw [← h1, ← h2, h]
  subst this; omega
theorem idx_inj {s : Nat} {p q : Pl} (hp : p.In s) (hq : q.In s) (h : idx s p = idx s q) : p = q := by
  unfold idx at h
  obtain ⟨h1, h2⟩ := mul_add_inj hp.bare hq.bare h
  obtain ⟨h3, h4⟩ := mul_add_inj hp.man hq.man h1
  obtain ⟨h5, h6⟩ := mul_add_inj hp.king hq.king h3
  cases p; cases q; simp_all

/-- the parts of a number -/
noncomputable def plOf (s n : Nat) : Pl := ⟨n / (s * s * s), n / (s * s) % s, n / s % s, n % s⟩
theorem plOf_in {s n : Nat} (hs : 0 < s) (h : n < 2 * s * s * s) : (plOf s n).In s := by
  have h1 : 0 < s * s * s := by simp [hs]
  refine ⟨?_, Nat.mod_lt _ hs, Nat.mod_lt _ hs, Nat.mod_lt _ hs⟩
  show n / (s * s * s) < 2
  rw [Nat.div_lt_iff_lt_mul h1]
  have : 2 * s * s * s = 2 * (s * s * s) := by simp [Nat.mul_assoc]
  omega
theorem idx_plOf {s n : Nat} : idx s (plOf s n) = n := by
  unfold idx plOf
  simp only
  have h1 : n / (s * s * s) = n / s / s / s := by rw [Nat.div_div_eq_div_mul, Nat.div_div_eq_div_mul, Nat.mul_assoc]
  have h2 : n / (s * s) = n / s / s := by rw [Nat.div_div_eq_div_mul]
  rw [h1, h2]
  have a1 := Nat.div_add_mod (n / s / s) s
  have a2 := Nat.div_add_mod (n / s) s
  have a3 := Nat.div_add_mod n s
  rw [Nat.mul_comm] at a1 a2 a3
  rw [a1, a2, a3]
theorem plOf_idx {s : Nat} {p : Pl} (h : p.In s) : plOf s (idx s p) = p := by
  have hs : 0 < s := by have := h.king; omega
  exact idx_inj (plOf_in hs (idx_lt h)) h idx_plOf

section
variable {C : Ctx} (P : Prg C) {X : Store → Prop} {σ : Store}
include P
theorem s_idx (s : Nat) (hs : s ≤ 12) (a b c d : Nat) : SemCall C 1 "index_of" [.int s, .int a, .int b, .int c, .int d] σ (fun v σ' => v = .int (idx s ⟨a, b, c, d⟩ : Nat) ∧ σ' = σ) X := by
  refine SemCall.mono (s_index_of P s a b c d (by omega)) (fun v σ' ⟨h1, h2⟩ => ⟨?_, h2⟩) fun _ h => h
  subst h1; simp [idx]
theorem s_parts (s : Nat) (hs : 0 < s ∧ s ≤ 12) (n : Nat) : SemCall C 1 "parts_of" [.int s, .int n] σ (fun v σ' => v = (plOf s n).v ∧ σ' = σ) X := by
  refine SemCall.mono (s_parts_of P s n (by omega)) (fun v σ' ⟨h1, h2⟩ => ⟨?_, h2⟩) fun _ h => h
  subst h1; simp [plOf, Pl.v]
end
end Mine

end

section
open PySem
set_option linter.unusedVariables false
set_option linter.unusedSimpArgs false
set_option maxRecDepth 100000
set_option tactic.hygienic false
namespace Mine

/-- does the man strike; A, U: how far apart -/
noncomputable def strikesC (A U : Int) (f kind o g : Int) (wall : List Int) : Bool :=
  if kind = 2 then decide (A = 1 ∧ U = 2 ∨ A = 2 ∧ U = 1)
  else if ((decide (A = 0) != decide (U = 0)) && decide (kind = 4 ∨ kind = 5)) || ((decide (A = U) && decide (0 < A)) && decide (kind = 3 ∨ kind = 5)) then
    (List.range' 1 ((max A U).toNat - 1)).all fun (far : Nat) =>
      !decide ((o / f + (g / f - o / f) * far / max A U) * f + (o % f + (g % f - o % f) * far / max A U) ∈ wall)
  else false
noncomputable def strikes (f kind o g : Int) (wall : List Int) : Bool := strikesC (apart f o g).1 (apart f o g).2 f kind o g wall

structure Bd where
  G : GeoD
  kind : Nat
  zone : List Nat
noncomputable abbrev Bd.s (b : Bd) : Nat := b.G.files * b.G.ranks
noncomputable abbrev Bd.tch (b : Bd) (a c : Nat) : Bool := touch b.G.files a c
noncomputable abbrev Bd.str (b : Bd) (o g : Nat) (wall : List Int) : Bool := strikes b.G.files b.kind o g wall
noncomputable abbrev Bd.kingOf (b : Bd) (a : Nat) : Int := (b.G.king[a]?).getD 0
noncomputable def Bd.freeOf (b : Bd) (a m : Nat) : Int := Builtin.bitAnd b.G.full (Builtin.bitNot (Builtin.bitOr (Builtin.bitOr (b.kingOf a) (2 ^ a)) (2 ^ m)))

structure Bd.Ok (b : Bd) : Prop where
  geo : b.G.Ok
  kind : 2 ≤ b.kind ∧ b.kind ≤ 5
  zone : b.zone.length ≤ 12
  king : ∀ a c, a < b.s → c < b.s → bit (b.kingOf a) c = if b.tch a c = true then 1 else 0
  free : ∀ a m c, a < b.s → m < b.s → c < b.s → bit (b.freeOf a m) c = if b.tch a c = false ∧ c ≠ a ∧ c ≠ m then 1 else 0
  chk : ∀ a m c, a < b.s → m < b.s → c < b.s → bit (kindAtt b.G b.kind m (2 ^ a)) c = if b.str m c [(a : Int)] = true then 1 else 0
  slide : ∀ a m c g, a < b.s → m < b.s → c < b.s → g < b.s → bit (kindAtt b.G b.kind m (Builtin.bitOr (2 ^ a) (2 ^ c))) g = if b.str m g [(a : Int), (c : Int)] = true then 1 else 0
theorem Bd.Ok.fpos {b : Bd} (o : b.Ok) : 0 < b.G.files ∧ b.G.files ≤ 12 := by
  have h1 := o.geo.pos
  have h2 := o.geo.size
  have : b.G.files * 1 ≤ b.G.files * b.G.ranks := Nat.mul_le_mul_left _ h1.2
  omega
theorem Bd.Ok.s12 {b : Bd} (o : b.Ok) : b.s ≤ 12 := o.geo.size
theorem Bd.Ok.spos {b : Bd} (o : b.Ok) : 0 < b.s := Nat.mul_pos o.geo.pos.1 o.geo.pos.2
theorem Bd.Ok.cube {b : Bd} (o : b.Ok) : 2 * b.s * b.s * b.s ≤ 3456 := by
  have h := o.s12
  have h1 : 2 * b.s * b.s ≤ 24 * 12 := Nat.mul_le_mul (by omega) h
  exact Nat.mul_le_mul h1 h

noncomputable def stands (b : Bd) (p : Pl) : Bool :=
  decide (p.king ∈ b.zone) && !decide (p.man = p.king) && !decide (p.man = p.bare) && !decide (p.king = p.bare) && !b.tch p.king p.bare && (decide (p.side = 1) || !b.str p.man p.bare [(p.king : Int)])

abbrev Way := Nat × Nat × Option Pl
noncomputable def wayW (b : Bd) (p : Pl) (g : Nat) : List Way :=
  if b.tch p.bare g then (if g = p.man then (if b.tch p.king p.man then [] else [(p.bare, g, none)]) else if stands b ⟨0, p.king, p.man, g⟩ then [(p.bare, g, some ⟨0, p.king, p.man, g⟩)] else []) else []
noncomputable def wayK (b : Bd) (p : Pl) (g : Nat) : List Way := if b.tch p.king g && stands b ⟨1, g, p.man, p.bare⟩ then [(p.king, g, some ⟨1, g, p.man, p.bare⟩)] else []
noncomputable def wayM (b : Bd) (p : Pl) (g : Nat) : List Way := if b.str p.man g [(p.king : Int), (p.bare : Int)] && stands b ⟨1, p.king, g, p.bare⟩ then [(p.man, g, some ⟨1, p.king, g, p.bare⟩)] else []
noncomputable def ways (b : Bd) (p : Pl) : List Way := (List.range b.s).flatMap fun g => if p.side = 1 then wayW b p g else wayK b p g ++ wayM b p g
noncomputable def moves (b : Bd) (p : Pl) : List Way := if p.side = 1 then (List.range b.s).flatMap (wayW b p) else (List.range b.s).flatMap (wayK b p) ++ (List.range b.s).flatMap (wayM b p)
noncomputable def ixOf (s : Nat) : Option Pl → Int
  | none => -1
  | some q => idx s q
noncomputable def mvV (s : Nat) (w : Way) : V := .tup [.int w.1, .int w.2.1, .int (ixOf s w.2.2)]
noncomputable def plV : Option Pl → V
  | none => .none
  | some q => q.v
noncomputable def wyV (w : Way) : V := .tup [.int w.1, .int w.2.1, plV w.2.2]

/-- the table's entry -/
noncomputable def at_ (tbl : List Int) (n : Nat) : Int := (tbl[n]?).getD 0
structure Tab (b : Bd) (σ : Store) (t : Nat) (tbl : List Int) : Prop where
  here : σ[t]? = some (.list (tbl.map V.int))
  len : tbl.length = 2 * b.s * b.s * b.s
theorem Tab.keep {b : Bd} {σ σ' : Store} {t : Nat} {tbl : List Int} (h : Tab b σ t tbl) (k : Keep σ σ') : Tab b σ' t tbl := ⟨k _ _ h.here, h.len⟩
theorem Tab.item {b : Bd} {σ : Store} {t : Nat} {tbl : List Int} (h : Tab b σ t tbl) (o : b.Ok) {p : Pl} (hp : p.In b.s) {Q : V → Prop} (hq : Q (.int (at_ tbl (idx b.s p)))) : wpItem (.ref t) (.int (idx b.s p : Nat)) σ Q :=
  item_ints h.here (by rw [h.len]; exact idx_lt hp) (by rw [h.len]; have := o.cube; omega) hq
noncomputable def Marks (b : Bd) (tbl : List Int) : Prop := ∀ p : Pl, p.In b.s → (at_ tbl (idx b.s p) = -2 ↔ stands b p = false)

theorem append_here (σ : Store) (xs : List V) : (σ ++ [AObj.list xs])[σ.length]? = some (.list xs) := by simp
theorem set_here (σ : Store) (o o' : AObj) : (σ ++ [o]).set σ.length o' = σ ++ [o'] := by simp
theorem appendV_here {σ : Store} {xs : List V} {v : V} (h : xs.length < 1000000) : appendV (σ ++ [.list xs]) (.ref σ.length) v = some (σ ++ [.list (xs ++ [v])]) := by
  show obd (listAt (σ ++ [AObj.list xs]) σ.length) _ = _
  rw [listAt_of (append_here σ xs)]
  show grd (decide (xs.length < 1000000)) _ = _
  rw [decide_eq_true h]
  exact congrArg some (set_here ..)
theorem isListV_here {σ : Store} {xs : List V} : isListV (σ ++ [.list xs]) (.ref σ.length) := ⟨_, _, rfl, append_here _ _⟩

theorem wayW_len (b : Bd) (p : Pl) (g : Nat) : (wayW b p g).length ≤ 1 := by unfold wayW; split <;> (try split) <;> (try split) <;> simp
theorem wayK_len (b : Bd) (p : Pl) (g : Nat) : (wayK b p g).length ≤ 1 := by unfold wayK; split <;> simp
theorem wayM_len (b : Bd) (p : Pl) (g : Nat) : (wayM b p g).length ≤ 1 := by unfold wayM; split <;> simp
theorem flat_succ (f : Nat → List Way) (n : Nat) : (List.range (n + 1)).flatMap f = (List.range n).flatMap f ++ f n := by
  rw [List.range_succ, List.flatMap_append]; simp

theorem flat_len {f : Nat → List Way} (h : ∀ g, (f g).length ≤ 1) : ∀ n, ((List.range n).flatMap f).length ≤ n
  | 0 => by simp
  | n + 1 => by
    rw [flat_succ, List.length_append]
    have h1 := flat_len h n
    have h2 := h n
    omega

theorem bit_f {x : Int} {i : Nat} {c : Bool} (kb : bit x i = if c = true then 1 else 0) (h : bit x i = 0) : c = false := by
  cases c
  · rfl
  · rw [h] at kb; cases kb
theorem bit_t {x : Int} {i : Nat} {c : Bool} (kb : bit x i = if c = true then 1 else 0) (h : ¬ bit x i = 0) : c = true := by
  cases c
  · exact absurd kb h
  · rfl
theorem cast_t {a b : Nat} (h : decide ((a : Int) = b) = true) : a = b := by have := of_decide_eq_true h; omega
theorem cast_f {a b : Nat} (h : decide ((a : Int) = b) = false) : a ≠ b := by have := of_decide_eq_false h; omega
theorem not_f {c : Bool} (h : (!c) = true) : c = false := by cases c; rfl; cases h
theorem not_t {c : Bool} (h : (!c) = false) : c = true := by cases c; cases h; rfl
theorem Marks.st {b : Bd} {tbl : List Int} (mk : Marks b tbl) {p : Pl} (hp : p.In b.s) : decide (at_ tbl (idx b.s p) = -2) = !stands b p := by
  cases h : stands b p
  · exact decide_eq_true ((mk p hp).mpr h)
  · refine decide_eq_false fun e => ?_
    rw [(mk p hp).mp e] at h; cases h

section
variable {C : Ctx} (P : Prg C) {X : Store → Prop} {σ : Store}
include P

theorem s_weak {g t : Nat} {b : Bd} (o : b.Ok) (hG : GeoIs σ g b.G) {tbl : List Int} (hT : Tab b σ t tbl) (mk : Marks b tbl) (p : Pl) (hp : p.In b.s) (h1 : p.side = 1) :
    SemCall C 3 "weak_moves" [.ref g, .ref t, .int p.king, .int p.man, .int p.bare] σ (fun v σ' => v = .ref σ.length ∧ σ' = σ ++ [.list ((moves b p).map (mvV b.s))]) X := by
  refine P.call P.f_weak_moves rfl ?_
  have hs : b.G.files * b.G.ranks ≤ 12 := o.s12
  have hs2 : b.s ≤ 12 := hs
  refine step fun K hK hR hC => hK _ _ (step fun K hK hR hC => ?_)
  have ks : Keep σ (σ ++ [.list []]) := Keep.snoc _ _
  obtain ⟨kk, ak, ik⟩ := (hG.keep ks).i_king o.geo
  refine (ak (ik hp.bare (hK _ _ (step fun K hK hR hC => ?_))))
  refine ((hG.keep ks).i_size (wpB_range (by omega) ?_))
  refine forW_rng (a := 0) (b := b.s) (Nat.zero_le _) (fun i m σ' => σ' = σ ++ [.list (((List.range i).flatMap (wayW b p)).map (mvV b.s))] ∧ m "geo" = some (.ref g) ∧ m "table" = some (.ref t) ∧ m "strong" = some (.int p.king) ∧ m "piece" = some (.int p.man) ∧ m "weak" = some (.int p.bare) ∧
    m "out" = some (.ref σ.length) ∧ m "steps" = some (.int (b.kingOf p.bare))) ⟨rfl, rfl, rfl, rfl, rfl, rfl, rfl, rfl⟩ ?_ ?_
  · rintro i m σ' _ hi ⟨rfl, m1, m2, m3, m4, m5, m6, m7⟩ K k1 k2 k3
    have ks' : Keep σ (σ ++ [.list (((List.range i).flatMap (wayW b p)).map (mvV b.s))]) := Keep.snoc _ _
    have hlen : (((List.range i).flatMap (wayW b p)).map (mvV b.s)).length < 1000000 := by
      have := flat_len (wayW_len b p) i; rw [List.length_map]; omega
    have fs : ∀ l, wayW b p i = l → ((List.range (i + 1)).flatMap (wayW b p)).map (mvV b.s) = ((List.range i).flatMap (wayW b p)).map (mvV b.s) ++ l.map (mvV b.s) := fun l h => by rw [flat_succ, List.map_append, h]
    have f0 : wayW b p i = [] → σ ++ [AObj.list (((List.range i).flatMap (wayW b p)).map (mvV b.s))] = σ ++ [AObj.list (((List.range (i + 1)).flatMap (wayW b p)).map (mvV b.s))] := fun h => by rw [fs _ h, List.map_nil, List.append_nil]
    have kb := o.king p.bare i hp.bare hi
    refine step fun K' hK' hR' hC' => (ob_i m7 (ite_i (fun h => ?_) fun h => ?_))
    · have ht := bit_f kb (of_decide_eq_true h)
      exact hC' _ _ (k2 _ _ ⟨f0 (by unfold wayW; rw [if_neg (by rw [ht]; decide)]), m1, m2, m3, m4, m5, m6, m7⟩)
    have ht := bit_t kb (of_decide_eq_false h)
    refine hK' _ _ (step fun K' hK' hR' hC' => (ob_i m4 (ite_i (fun h => ?_) fun h => ?_)))
    · have hm := cast_t h
      obtain ⟨kk, ak, ik⟩ := (hG.keep ks').i_king o.geo
      have kb2 := o.king p.king p.man hp.king hp.man
      refine step fun K'' hK'' hR'' hC'' => (ob_i m1 (ak (ob_i m3 (ik hp.king (ob_i m4 (ite_i (fun h => ?_) fun h => ?_))))))
      · have ht2 := bit_f kb2 (of_decide_eq_true h)
        refine step fun K3 hK3 hR3 hC3 => (ob_i m6 ⟨isListV_here, ob_i m5 (ob_i (appendV_here hlen) ?_)⟩)
        refine hK3 _ _ (hK'' _ _ (hK' _ _ (k1 _ _ ⟨?_, m1, m2, m3, m4, m5, m6, m7⟩)))
        rw [fs [(p.bare, i, none)] (by unfold wayW; rw [if_pos ht, if_pos hm, if_neg (by rw [ht2]; decide)])]; rfl
      · have ht2 := bit_t kb2 (of_decide_eq_false h)
        exact hK'' _ _ (hK' _ _ (k1 _ _ ⟨f0 (by unfold wayW; rw [if_pos ht, if_pos hm, if_pos ht2]), m1, m2, m3, m4, m5, m6, m7⟩))
    · have hm := cast_f h
      have hin : (⟨0, p.king, p.man, i⟩ : Pl).In b.s := ⟨(show 0 < 2 by decide), hp.king, hp.man, hi⟩
      refine step fun K'' hK'' hR'' hC'' => (ob_i m1 ((hG.keep ks').i_size (ob_i m3 (ob_i m4 (SemCall.mono (s_idx P b.s hs 0 p.king p.man i) (fun v σ'' ⟨hv, hσ2⟩ => ?_) fun _ h => h)))))
      subst hv hσ2
      refine hK'' _ _ (step fun K'' hK'' hR'' hC'' => (ob_i m2 ((hT.keep ks').item o hin ?_)))
      refine ite_i (fun hst => ?_) fun hst => ?_ <;> rw [mk.st hin, Bool.not_not] at hst
      · refine step fun K3 hK3 hR3 hC3 => (ob_i m6 ⟨isListV_here, ob_i m5 (ob_i (appendV_here hlen) ?_)⟩)
        refine hK3 _ _ (hK'' _ _ (hK' _ _ (k1 _ _ ⟨?_, m1, m2, m3, m4, m5, m6, m7⟩)))
        rw [fs [(p.bare, i, some ⟨0, p.king, p.man, i⟩)] (by unfold wayW; rw [if_pos ht, if_neg hm, if_pos hst])]; rfl
      · exact hK'' _ _ (hK' _ _ (k1 _ _ ⟨f0 (by unfold wayW; rw [if_pos ht, if_neg hm, if_neg (by rw [hst]; decide)]), m1, m2, m3, m4, m5, m6, m7⟩))
  · rintro m σ' ⟨rfl, m1, m2, m3, m4, m5, m6, m7⟩
    refine hK _ _ (ob_i m6 ⟨rfl, ?_⟩)
    unfold moves; rw [if_pos h1]
end
end Mine

end

section
open PySem
set_option linter.unusedVariables false
set_option linter.unusedSimpArgs false
set_option maxRecDepth 100000
set_option tactic.hygienic false
namespace Mine
section
variable {C : Ctx} (P : Prg C) {X : Store → Prop} {σ : Store}
include P

theorem s_strong {g t : Nat} {b : Bd} (o : b.Ok) (hG : GeoIs σ g b.G) {tbl : List Int} (hT : Tab b σ t tbl) (mk : Marks b tbl) (p : Pl) (hp : p.In b.s) (h1 : p.side ≠ 1) :
    SemCall C 13 "strong_moves" [.ref g, .ref t, .int b.kind, .int p.king, .int p.man, .int p.bare] σ (fun v σ' => v = .ref σ.length ∧ σ' = σ ++ [.list ((moves b p).map (mvV b.s))]) X := by
  refine P.call P.f_strong_moves rfl ?_
  have hs : b.G.files * b.G.ranks ≤ 12 := o.s12
  have hs2 : b.s ≤ 12 := hs
  have ks : Keep σ (σ ++ [.list []]) := Keep.snoc _ _
  obtain ⟨kk, ak, ik⟩ := (hG.keep ks).i_king o.geo
  have e1 : p.king < 1000000 := by have := hp.king; omega
  have e2 : p.bare < 1000000 := by have := hp.bare; omega
  refine step fun K hK hR hC => hK _ _ (step fun K hK hR hC => (ak (ik hp.king (hK _ _ (step fun K hK hR hC => ?_)))))
  refine ⟨⟨Int.natCast_nonneg _, by omega, by decide⟩, ⟨Int.natCast_nonneg _, by omega, by decide⟩, ?_⟩
  rw [Int.one_mul, Int.one_mul]
  refine SemCall.mono (s_piece P (hG.keep ks) o.geo 0 b.kind p.man (Builtin.bitOr (2 ^ p.king) (2 ^ p.bare)) hp.man o.kind) (fun v σ'' ⟨hv, hσ2⟩ => ?_) fun _ h => h
  subst hv hσ2
  refine hK _ _ (step fun K hK hR hC => ?_)
  refine ((hG.keep ks).i_size (wpB_range (by omega) ?_))
  refine forW_rng (a := 0) (b := b.s) (Nat.zero_le _) (fun i m σ' => σ' = σ ++ [.list (((List.range i).flatMap (wayK b p)).map (mvV b.s))] ∧ m "geo" = some (.ref g) ∧ m "table" = some (.ref t) ∧ m "strong" = some (.int p.king) ∧ m "piece" = some (.int p.man) ∧ m "weak" = some (.int p.bare) ∧
    m "out" = some (.ref σ.length) ∧ m "steps" = some (.int (b.kingOf p.king)) ∧ m "slides" = some (.int (kindAtt b.G b.kind p.man (Builtin.bitOr (2 ^ p.king) (2 ^ p.bare))))) ⟨rfl, rfl, rfl, rfl, rfl, rfl, rfl, rfl, rfl⟩ ?_ ?_
  · rintro i m σ' _ hi ⟨rfl, m1, m2, m3, m4, m5, m6, m7, m8⟩ K k1 k2 k3
    have ks' : Keep σ (σ ++ [.list (((List.range i).flatMap (wayK b p)).map (mvV b.s))]) := Keep.snoc _ _
    have hlen : (((List.range i).flatMap (wayK b p)).map (mvV b.s)).length < 1000000 := by
      have := flat_len (wayK_len b p) i; rw [List.length_map]; omega
    have fs : ∀ l, wayK b p i = l → ((List.range (i + 1)).flatMap (wayK b p)).map (mvV b.s) = ((List.range i).flatMap (wayK b p)).map (mvV b.s) ++ l.map (mvV b.s) := fun l h => by rw [flat_succ, List.map_append, h]
    have f0 : wayK b p i = [] → σ ++ [AObj.list (((List.range i).flatMap (wayK b p)).map (mvV b.s))] = σ ++ [AObj.list (((List.range (i + 1)).flatMap (wayK b p)).map (mvV b.s))] := fun h => by rw [fs _ h, List.map_nil, List.append_nil]
    have kb := o.king p.king i hp.king hi
    refine step fun K' hK' hR' hC' => (ob_i m7 (ite_i (fun h => ?_) fun h => ?_))
    · have ht := bit_t kb (of_decide_eq_true h)
      have hin : (⟨1, i, p.man, p.bare⟩ : Pl).In b.s := ⟨(show 1 < 2 by decide), hi, hp.man, hp.bare⟩
      refine step fun K'' hK'' hR'' hC'' => (ob_i m1 ((hG.keep ks').i_size (ob_i m4 (ob_i m5 (SemCall.mono ((s_idx P b.s hs 1 i p.man p.bare).up (b := 11) (by decide)) (fun v σ'' ⟨hv, hσ2⟩ => ?_) fun _ h => h)))))
      subst hv hσ2
      refine hK'' _ _ (step fun K'' hK'' hR'' hC'' => (ob_i m2 ((hT.keep ks').item o hin ?_)))
      refine ite_i (fun hst => ?_) fun hst => ?_ <;> rw [mk.st hin, Bool.not_not] at hst
      · refine step fun K3 hK3 hR3 hC3 => (ob_i m6 ⟨isListV_here, ob_i m3 (ob_i (appendV_here hlen) ?_)⟩)
        refine hK3 _ _ (hK'' _ _ (hK' _ _ (k1 _ _ ⟨?_, m1, m2, m3, m4, m5, m6, m7, m8⟩)))
        rw [fs [(p.king, i, some ⟨1, i, p.man, p.bare⟩)] (by unfold wayK; rw [ht, hst]; rfl)]; rfl
      · exact hK'' _ _ (hK' _ _ (k1 _ _ ⟨f0 (by unfold wayK; rw [ht, hst]; rfl), m1, m2, m3, m4, m5, m6, m7, m8⟩))
    · have ht := bit_f kb (Classical.not_not.mp (of_decide_eq_false h))
      exact hK' _ _ (k1 _ _ ⟨f0 (by unfold wayK; rw [ht]; rfl), m1, m2, m3, m4, m5, m6, m7, m8⟩)
  rintro m σ' ⟨rfl, m1, m2, m3, m4, m5, m6, m7, m8⟩
  refine hK _ _ (step fun K hK hR hC => ?_)
  refine (ob_i m1 ((hG.keep (Keep.snoc σ _)).i_size (wpB_range (by omega) ?_)))
  refine forW_rng (a := 0) (b := b.s) (Nat.zero_le _) (fun i m σ' => σ' = σ ++ [.list (((List.range b.s).flatMap (wayK b p) ++ (List.range i).flatMap (wayM b p)).map (mvV b.s))] ∧ m "geo" = some (.ref g) ∧ m "table" = some (.ref t) ∧ m "strong" = some (.int p.king) ∧ m "piece" = some (.int p.man) ∧ m "weak" = some (.int p.bare) ∧
    m "out" = some (.ref σ.length) ∧ m "slides" = some (.int (kindAtt b.G b.kind p.man (Builtin.bitOr (2 ^ p.king) (2 ^ p.bare))))) ⟨by rw [show (List.range 0).flatMap (wayM b p) = [] from rfl, List.append_nil], m1, m2, m3, m4, m5, m6, m8⟩ ?_ ?_
  · clear m1 m2 m3 m4 m5 m6 m7 m8
    rintro i m σ' _ hi ⟨rfl, m1, m2, m3, m4, m5, m6, m8⟩ K k1 k2 k3
    have ks' : Keep σ (σ ++ [.list (((List.range b.s).flatMap (wayK b p) ++ (List.range i).flatMap (wayM b p)).map (mvV b.s))]) := Keep.snoc _ _
    have hlen : (((List.range b.s).flatMap (wayK b p) ++ (List.range i).flatMap (wayM b p)).map (mvV b.s)).length < 1000000 := by
      have h1 := flat_len (wayM_len b p) i; have h2 := flat_len (wayK_len b p) b.s
      rw [List.length_map, List.length_append]; omega
    have fs : ∀ l, wayM b p i = l → ((List.range b.s).flatMap (wayK b p) ++ (List.range (i + 1)).flatMap (wayM b p)).map (mvV b.s) = ((List.range b.s).flatMap (wayK b p) ++ (List.range i).flatMap (wayM b p)).map (mvV b.s) ++ l.map (mvV b.s) := fun l h => by rw [flat_succ, ← List.append_assoc, List.map_append, h]
    have f0 : wayM b p i = [] → σ ++ [AObj.list (((List.range b.s).flatMap (wayK b p) ++ (List.range i).flatMap (wayM b p)).map (mvV b.s))] = σ ++ [AObj.list (((List.range b.s).flatMap (wayK b p) ++ (List.range (i + 1)).flatMap (wayM b p)).map (mvV b.s))] := fun h => by rw [fs _ h, List.map_nil, List.append_nil]
    have kb := o.slide p.king p.man p.bare i hp.king hp.man hp.bare hi
    refine step fun K' hK' hR' hC' => (ob_i m8 (ite_i (fun h => ?_) fun h => ?_))
    · have ht := bit_t kb (of_decide_eq_true h)
      have hin : (⟨1, p.king, i, p.bare⟩ : Pl).In b.s := ⟨(show 1 < 2 by decide), hp.king, hi, hp.bare⟩
      refine step fun K'' hK'' hR'' hC'' => (ob_i m1 ((hG.keep ks').i_size (ob_i m3 (ob_i m5 (SemCall.mono ((s_idx P b.s hs 1 p.king i p.bare).up (b := 11) (by decide)) (fun v σ'' ⟨hv, hσ2⟩ => ?_) fun _ h => h)))))
      subst hv hσ2
      refine hK'' _ _ (step fun K'' hK'' hR'' hC'' => (ob_i m2 ((hT.keep ks').item o hin ?_)))
      refine ite_i (fun hst => ?_) fun hst => ?_ <;> rw [mk.st hin, Bool.not_not] at hst
      · refine step fun K3 hK3 hR3 hC3 => (ob_i m6 ⟨isListV_here, ob_i m4 (ob_i (appendV_here hlen) ?_)⟩)
        refine hK3 _ _ (hK'' _ _ (hK' _ _ (k1 _ _ ⟨?_, m1, m2, m3, m4, m5, m6, m8⟩)))
        rw [fs [(p.man, i, some ⟨1, p.king, i, p.bare⟩)] (by unfold wayM; rw [ht, hst]; rfl)]; rfl
      · exact hK'' _ _ (hK' _ _ (k1 _ _ ⟨f0 (by unfold wayM; rw [ht, hst]; rfl), m1, m2, m3, m4, m5, m6, m8⟩))
    · have ht := bit_f kb (Classical.not_not.mp (of_decide_eq_false h))
      exact hK' _ _ (k1 _ _ ⟨f0 (by unfold wayM; rw [ht]; rfl), m1, m2, m3, m4, m5, m6, m8⟩)
  · clear m1 m2 m3 m4 m5 m6 m7 m8
    rintro m σ' ⟨rfl, m1, m2, m3, m4, m5, m6, m8⟩
    refine hK _ _ (ob_i m6 ⟨rfl, ?_⟩)
    unfold moves; rw [if_neg h1]

theorem s_moves {g t : Nat} {b : Bd} (o : b.Ok) (hG : GeoIs σ g b.G) {tbl : List Int} (hT : Tab b σ t tbl) (mk : Marks b tbl) (p : Pl) (hp : p.In b.s) :
    SemCall C 15 "moves_at" [.ref g, .ref t, .int b.kind, .int p.side, .int p.king, .int p.man, .int p.bare] σ (fun v σ' => v = .ref σ.length ∧ σ' = σ ++ [.list ((moves b p).map (mvV b.s))]) X := by
  refine P.call P.f_moves_at rfl ?_
  refine step fun K hK hR hC => (ite_i (fun h => ?_) fun h => ?_)
  · have h1 : p.side = 1 := cast_t h
    exact (SemCall.mono ((s_weak P o hG hT mk p hp h1).up (b := 13) (by decide)) (fun v σ'' h => hR _ _ _ h) fun _ h => h)
  · have h1 : p.side ≠ 1 := cast_f h
    exact hK _ _ (SemCall.mono (s_strong P o hG hT mk p hp h1) (fun v σ'' h => h) fun _ h => h)
end
end Mine

end

section
open PySem
set_option linter.unusedVariables false
set_option linter.unusedSimpArgs false
set_option maxRecDepth 100000
set_option tactic.hygienic false
namespace Mine

structure Good (s : Nat) (len : Nat) (kind side a c d : Int) : Prop where
  kind : 2 ≤ kind ∧ kind ≤ 5
  len : len = 2 * s * s * s
  side : side = 0 ∨ side = 1
  a : 0 ≤ a ∧ a < s
  c : 0 ≤ c ∧ c < s
  d : 0 ≤ d ∧ d < s

section
variable {C : Ctx} (P : Prg C) {X : Store → Prop} {σ : Store}
include P

omit P in
theorem sq_step {n : Nat} {m : Loc} {s : Nat} {v : Int} {K : Fl → Loc → Store → Prop} (hs : m "size" = some (.int s)) (hv : m "square" = some (.int v)) (hn : 0 ≤ v ∧ v < s → K .next m σ) (hx : ¬ (0 ≤ v ∧ v < s) → X σ) :
    wpSs C n X [.ite (.any [(.cmp .Lt (.loc "square") (.cint 0)), (.cmp .GtE (.loc "square") (.loc "size"))]) [.raise "BadTable" "no such square"] []] m σ K := by
  refine (ob_i hv (ite_i (fun h => ?_) fun h => (ob_i hv (ob_i hs (ite_i (fun h2 => ?_) fun h2 => ?_)))))
  · exact hx (by have := of_decide_eq_true h; omega)
  · exact hx (by have := of_decide_eq_true h2; omega)
  · exact hn (by have := of_decide_eq_false h; have := of_decide_eq_false h2; omega)

theorem s_probe_gen {g t : Nat} {G : GeoD} (ok : G.Ok) (hG : GeoIs σ g G) {tbl : List Int} (hT : σ[t]? = some (.list (tbl.map V.int))) (hl : tbl.length < 1000000) (kind side a c d : Int) {Q : V → Store → Prop}
    (hgood : Good (G.files * G.ranks) tbl.length kind side a c d → ∀ p : Pl, side = p.side → a = p.king → c = p.man → d = p.bare → p.In (G.files * G.ranks) → Q (.int (at_ tbl (idx (G.files * G.ranks) p))) σ)
    (hbad : ¬ Good (G.files * G.ranks) tbl.length kind side a c d → X σ) :
    SemCall C 3 "probe" [.ref g, .ref t, .int kind, .int side, .int a, .int c, .int d] σ Q X := by
  have asz := fun Q hq => hG.i_size (Q := Q) hq
  have hs12 := ok.size
  generalize hs : G.files * G.ranks = s at *
  have hsn : (s : Int).natAbs < 2 ^ 64 := by omega
  refine P.call P.f_probe rfl ?_
  refine step fun K hK hR hC => (asz _ (hK _ _ (step fun K hK hR hC => ?_)))
  refine (ite_i (fun h => hbad fun q => ?_) fun h1 => (ite_i (fun h => hbad fun q => ?_) fun h2 => hK _ _ (step fun K hK hR hC => ?_)))
  · have := of_decide_eq_true h; have := q.kind; omega
  · have := of_decide_eq_true h; have := q.kind; omega
  have c1 : 2 ≤ kind ∧ kind ≤ 5 := by have := of_decide_eq_false h1; have := of_decide_eq_false h2; omega
  refine (wpB_len hT (by rw [List.length_map]; exact hl) ⟨.inr hsn, .inr hsn, .inr hsn, ite_i (fun h => hbad fun q => ?_) fun h3 => hK _ _ (step fun K hK hR hC => ?_)⟩)
  · have h' := of_decide_eq_false (not_f h)
    rw [List.length_map] at h'
    exact h' (by rw [q.len]; push_cast; rfl)
  have c2 : tbl.length = 2 * s * s * s := by
    have h' := of_decide_eq_true (not_t h3)
    rw [List.length_map] at h'
    exact_mod_cast h'
  have stage : (side = 0 ∨ side = 1) → K .next (upd (upd (upd (upd (upd (upd (upd (upd (fun _ => none) "geo" (.ref g)) "table" (.ref t)) "kind" (.int kind)) "side" (.int side)) "strong" (.int a)) "piece" (.int c)) "weak" (.int d)) "size" (.int s)) σ := by
    intro c3
    refine hK _ _ (step fun K hK hR hC => ?_)
    refine ⟨rfl, sq_step rfl rfl (fun c4 => ⟨rfl, sq_step rfl rfl (fun c5 => ⟨rfl, sq_step rfl rfl (fun c6 => ⟨rfl, hK _ _ ?_⟩) fun h => hbad fun h' => h h'.d⟩) fun h => hbad fun h' => h h'.c⟩) fun h => hbad fun h' => h h'.a⟩
    obtain ⟨a', rfl⟩ := Int.eq_ofNat_of_zero_le c4.1
    obtain ⟨c', rfl⟩ := Int.eq_ofNat_of_zero_le c5.1
    obtain ⟨d', rfl⟩ := Int.eq_ofNat_of_zero_le c6.1
    obtain ⟨e', rfl, he⟩ : ∃ e' : Nat, side = e' ∧ e' < 2 := by
      rcases c3 with rfl | rfl
      · exact ⟨0, rfl, by decide⟩
      · exact ⟨1, rfl, by decide⟩
    have hin : (⟨e', a', c', d'⟩ : Pl).In s := ⟨he, by have := c4.2; simp only; omega, by have := c5.2; simp only; omega, by have := c6.2; simp only; omega⟩
    refine (SemCall.mono (s_idx P s hs12 e' a' c' d') (fun v σ'' ⟨hv, hσ2⟩ => ?_) fun _ h => h)
    subst hv hσ2
    exact item_ints hT (by rw [c2]; exact idx_lt hin) hl (hgood ⟨c1, c2, c3, c4, c5, c6⟩ _ rfl rfl rfl rfl hin)
  refine (ite_i (fun h => (ite_i (fun h' => hbad fun q => ?_) fun h' => stage (.inr (of_decide_eq_true (not_t h'))))) fun h => stage (.inl (of_decide_eq_true (not_t h))))
  have := of_decide_eq_false (not_f h); have := of_decide_eq_false (not_f h'); have := q.side; omega
end
end Mine

end

section
open PySem
set_option linter.unusedVariables false
set_option linter.unusedSimpArgs false
set_option maxRecDepth 100000
set_option tactic.hygienic false
namespace Mine

noncomputable def wordOf (s : Nat) (tbl : List Int) : Option Pl → Int
  | none => -1
  | some q => at_ tbl (idx s q)
structure BrdIs (σ : Store) (z : Nat) (b : Bd) : Prop where
  zone : σ[z]? = some (.list ((b.zone.map fun (n : Nat) => (n : Int)).map V.int))
noncomputable def brdV (b : Bd) (z : Nat) : V := .tup [.int b.G.files, .int b.s, .int b.kind, .ref z]
theorem BrdIs.keep {σ σ' : Store} {z : Nat} {b : Bd} (h : BrdIs σ z b) (k : Keep σ σ') : BrdIs σ' z b := ⟨k _ _ h.zone⟩

theorem mem_ints {σ : Store} {w : Nat} {l : List Int} {a : Int} (h : σ[w]? = some (.list (l.map V.int))) : cmpV σ .In (.int a) (.ref w) = some (decide (a ∈ l)) := by
  show obd (listAt σ w) _ = _
  rw [listAt_of h]
  show obd (intsOf (l.map V.int)) _ = _
  rw [intsOf_map]; rfl
theorem eq_refs {σ : Store} {i j : Nat} {xs ys : List V} {a b : List Int} (h1 : σ[i]? = some (.list xs)) (h2 : σ[j]? = some (.list ys)) (hy : ys.isEmpty = false) (h3 : intsOf xs = some a) (h4 : intsOf ys = some b) : cmpV σ .Eq (.ref i) (.ref j) = some (decide (a = b)) := by
  show obd (listAt σ i) _ = _
  rw [listAt_of h1]
  show obd (listAt σ j) _ = _
  rw [listAt_of h2]
  show (if ys.isEmpty = true then _ else _) = _
  rw [hy]
  show obd (intsOf xs) _ = _
  rw [h3]
  show obd (intsOf ys) _ = _
  rw [h4]; rfl

section
variable {C : Ctx} (P : Prg C) {X : Store → Prop} {σ : Store}
include P

theorem s_probe {g t : Nat} {b : Bd} (o : b.Ok) (hG : GeoIs σ g b.G) {tbl : List Int} (hT : Tab b σ t tbl) (p : Pl) (hp : p.In b.s) :
    SemCall C 3 "probe" [.ref g, .ref t, .int b.kind, .int p.side, .int p.king, .int p.man, .int p.bare] σ (fun v σ' => v = .int (at_ tbl (idx b.s p)) ∧ σ' = σ) X := by
  refine s_probe_gen P o.geo hG hT.here (by rw [hT.len]; have := o.cube; omega) _ _ _ _ _ (fun _ q h1 h2 h3 h4 _ => ?_) fun h => (h ?_).elim
  · have : q = p := by
      cases p; cases q
      simp only at h1 h2 h3 h4
      simp only [Pl.mk.injEq]; omega
    subst this; exact ⟨rfl, rfl⟩
  · have h1 := hp.side; have h2 := hp.king; have h3 := hp.man; have h4 := hp.bare; have h5 := o.kind
    refine ⟨by omega, hT.len, by omega, ⟨by omega, ?_⟩, ⟨by omega, ?_⟩, by omega, ?_⟩ <;> exact_mod_cast ‹_›

theorem s_word {g t z : Nat} {b : Bd} (o : b.Ok) (hG : GeoIs σ g b.G) {tbl : List Int} (hT : Tab b σ t tbl) (p : Option Pl) (hp : ∀ q, p = some q → q.In b.s) :
    SemCall C 5 "_law_word" [.ref g, brdV b z, .ref t, plV p] σ (fun v σ' => v = .int (wordOf b.s tbl p) ∧ σ' = σ) X := by
  refine P.call P.f__law_word rfl ?_
  cases p with
  | none => exact ⟨rfl, rfl⟩
  | some q =>
    exact (SemCall.mono (s_probe P o hG hT q (hp _ rfl)) (fun v σ'' h => h) fun _ h => h)

omit P in
theorem apart_bd (f o g : Nat) (hf : 0 < f ∧ f ≤ 12) (ho : o < 200) (hg : g < 200) : (0 ≤ (apart f o g).1 ∧ (apart f o g).1 < 200) ∧ (0 ≤ (apart f o g).2 ∧ (apart f o g).2 < 200) := by
  unfold apart
  have h1 : o % f < f := Nat.mod_lt _ hf.1
  have h2 : g % f < f := Nat.mod_lt _ hf.1
  have h3 : o / f ≤ o := Nat.div_le_self _ _
  have h4 : g / f ≤ g := Nat.div_le_self _ _
  show ((0 : Int) ≤ (((((o % f : Nat) : Int) - ((g % f : Nat) : Int)).natAbs : Nat) : Int) ∧ (((((o % f : Nat) : Int) - ((g % f : Nat) : Int)).natAbs : Nat) : Int) < 200) ∧ (0 : Int) ≤ (((((o / f : Nat) : Int) - ((g / f : Nat) : Int)).natAbs : Nat) : Int) ∧ (((((o / f : Nat) : Int) - ((g / f : Nat) : Int)).natAbs : Nat) : Int) < 200
  generalize o % f = x1 at *
  generalize g % f = x2 at *
  generalize o / f = x3 at *
  generalize g / f = x4 at *
  omega

omit P in
theorem ite_not_any {n : Nat} {a : E} {r : List E} {t o : List S} {m : Loc} {K : Fl → Loc → Store → Prop}
    (h : wpT C n X a m σ fun c σ₁ => if c = true then (if (!true) = true then wpSs C n X t m σ₁ K else wpSs C n X o m σ₁ K) else wpTAny C n X r m σ₁ fun b σ₁ => if (!b) = true then wpSs C n X t m σ₁ K else wpSs C n X o m σ₁ K) : wpS C n X (.ite (.not (.any (a :: r))) t o) m σ K := h
omit P in
theorem any_one {n : Nat} {a : E} {m : Loc} {Q : Bool → Store → Prop} (h : wpT C n X a m σ fun c σ₁ => if c = true then Q true σ₁ else Q false σ₁) : wpTAny C n X [a] m σ Q := h
omit P in
theorem two_all {n : Nat} {x : String} {c d kind : Int} {bx r : Bool} {m : Loc} {Q : Bool → Store → Prop} (h1 : m x = some (.bool bx)) (h2 : m "kind" = some (.int kind)) (hr : decide (kind ∈ [c, d]) = r) (h : Q (bx && r) σ) :
    wpT C n X (.all [.loc x, .cmp .In (.loc "kind") (.tup [.cint c, .cint d])]) m σ Q := by
  subst hr
  refine (ob_i h1 ?_)
  cases bx
  · exact h
  · show ob (m "kind") _
    refine (ob_i h2 ?_)
    rw [Bool.true_and] at h
    show if decide (kind ∈ [c, d]) = true then Q true σ else Q false σ
    cases hd : decide (kind ∈ [c, d])
    · rw [hd] at h; exact h
    · rw [hd] at h; exact h

omit P in
theorem asl_all {n : Nat} {A U : Int} {m : Loc} {Q : V → Store → Prop} (h1 : m "across" = some (.int A)) (h2 : m "up" = some (.int U)) (h : Q (.bool (decide (A = U) && decide (0 < A))) σ) :
    wpE C n X (.all [(.cmp .Eq (.loc "across") (.loc "up")), (.cmp .Gt (.loc "across") (.cint 0))]) m σ Q := by
  refine (ob_i h1 (ob_i h2 (ite_i (fun e => ?_) fun e => ?_)))
  · rw [e, Bool.true_and] at h; exact (ob_i h1 h)
  · rw [e, Bool.false_and] at h; rw [e]; exact h

theorem s_strikes (f kind : Nat) (hkind : 2 ≤ kind ∧ kind ≤ 5) (hf : 0 < f ∧ f ≤ 12) (o g : Nat) (ho : o < 200) (hg : g < 200) (w : Nat) (wall : List Int) (hw : σ[w]? = some (.list (wall.map V.int))) :
    SemCall C 3 "_law_strikes" [.int f, .int kind, .int o, .int g, .ref w] σ (fun v σ' => v = .bool (strikes f kind o g wall) ∧ Keep σ σ') X := by
  refine P.call P.f__law_strikes rfl ?_
  obtain ⟨bA, bU⟩ := apart_bd f o g hf ho hg
  refine step fun K hK hR hC => (SemCall.mono (s_apart P f o g (by omega)) (fun v σ'' ⟨hv, hσ2⟩ => ?_) fun _ h => h)
  subst hv hσ2
  unfold strikes at hR hK
  generalize (apart f o g).1 = A at *
  generalize (apart f o g).2 = U at *
  refine (hK _ _ (step fun K hK hR hC => (ite_i (fun h => ?_) fun h => ?_)))
  · have k2 : kind = 2 := cast_t (b := 2) h
    subst k2
    refine (wpB_sorted (append_here _ _) (ob_i (a := decide (A = 1 ∧ U = 2 ∨ A = 2 ∧ U = 1)) ?_ (hR _ _ _ ⟨rfl, ((Keep.snoc _ _).trans (Keep.snoc _ _)).trans (Keep.snoc _ _)⟩)))
    have e1 := append_here (σ'' ++ [AObj.list [V.int A, V.int U]]) (if U < A then [V.int U, V.int A] else [V.int A, V.int U])
    have e2 := Keep.snoc _ (AObj.list [V.int 1, V.int 2]) _ _ e1
    have e3 := append_here ((σ'' ++ [AObj.list [V.int A, V.int U]]) ++ [AObj.list (if U < A then [V.int U, V.int A] else [V.int A, V.int U])]) [V.int 1, V.int 2]
    by_cases hUA : U < A
    · rw [if_pos hUA] at e2 e3 ⊢
      refine (eq_refs (a := [U, A]) (b := [1, 2]) (ys := [.int 1, .int 2]) e2 e3 rfl rfl rfl).trans (congrArg some (decide_eq_decide.mpr ?_))
      simp only [List.cons.injEq, and_true]; omega
    · rw [if_neg hUA] at e2 e3 ⊢
      refine (eq_refs (a := [A, U]) (b := [1, 2]) (ys := [.int 1, .int 2]) e2 e3 rfl rfl rfl).trans (congrArg some (decide_eq_decide.mpr ?_))
      simp only [List.cons.injEq, and_true]; omega
  have k2' : ¬ (kind : Int) = 2 := of_decide_eq_false h
  refine hK _ _ (step fun K hK hR hC => ?_)
  have hxor : (!decide (decide (A = 0) = decide (U = 0))) = (decide (A = 0) != decide (U = 0)) := by cases decide (A = 0) <;> cases decide (U = 0) <;> rfl
  refine (fun x hx => ?_ : ∀ x, x = (decide (A = 0) != decide (U = 0)) → K .next (upd _ "is_straight" (.bool x)) σ'') _ hxor
  subst hx
  refine hK _ _ (step fun K hK hR hC => ?_)
  have hres : strikesC A U f kind o g wall = (if ((decide (A = 0) != decide (U = 0)) && decide ((kind : Int) ∈ [(4 : Int), 5])) || ((decide (A = U) && decide (0 < A)) && decide ((kind : Int) ∈ [(3 : Int), 5])) then
      (List.range' 1 ((max A U).toNat - 1)).all fun (far : Nat) =>
        !decide (((o : Int) / f + ((g : Int) / f - (o : Int) / f) * far / max A U) * f + ((o : Int) % f + ((g : Int) % f - (o : Int) % f) * far / max A U) ∈ wall) else false) := by
    unfold strikesC
    have i45 : decide ((kind : Int) = 4 ∨ (kind : Int) = 5) = decide ((kind : Int) ∈ [(4 : Int), 5]) := by apply decide_eq_decide.mpr; simp
    have i35 : decide ((kind : Int) = 3 ∨ (kind : Int) = 5) = decide ((kind : Int) ∈ [(3 : Int), 5]) := by apply decide_eq_decide.mpr; simp
    rw [if_neg k2', i45, i35]
  generalize (decide (A = 0) != decide (U = 0)) = st at hres ⊢
  refine asl_all rfl rfl ?_
  generalize (decide (A = U) && decide (0 < A)) = asl at hres ⊢
  generalize hk45 : decide ((kind : Int) ∈ [(4 : Int), 5]) = k45 at hres
  generalize hk35 : decide ((kind : Int) ∈ [(3 : Int), 5]) = k35 at hres
  refine hK _ _ (step fun K hK hR hC => ?_)
  refine ite_not_any ?_
  refine two_all rfl rfl hk45 ?_
  have rest : (st && k45 || asl && k35) = true → K .next (upd (upd (upd (upd (upd (upd (upd (upd (upd (fun _ => none) "files" (.int f)) "kind" (.int kind)) "origin" (.int o)) "goal" (.int g)) "wall" (.ref w)) "across" (.int A)) "up" (.int U)) "is_straight" (.bool st)) "is_aslant" (.bool asl)) σ'' := by
    intro hc
    rw [if_pos hc] at hres
    obtain ⟨len, hlen⟩ := Int.eq_ofNat_of_zero_le (a := max A U) (by omega)
    have hl200 : len < 200 := by omega
    rw [hlen, Int.toNat_natCast] at hres
    refine hK _ _ (step fun K hK hR hC => ?_)
    refine (wpB_max2 ?_)
    rw [hlen]
    refine hK _ _ (step fun K hK hR hC => ?_)
    refine (wpB_range2 (a := 1) (n := len) (by decide) (by omega) ?_)
    by_cases hl0 : len < 1
    · have : len = 0 := by omega
      subst this
      exact ⟨rfl, hK _ _ ⟨by rw [hres]; rfl, Keep.refl _⟩⟩
    generalize hpred : (fun (far : Nat) => !decide (((o : Int) / f + ((g : Int) / f - (o : Int) / f) * far / (len : Int)) * f + ((o : Int) % f + ((g : Int) % f - (o : Int) % f) * far / (len : Int)) ∈ wall)) = pred at hres
    refine forW_rng (a := 1) (b := len) (by omega) (fun i m σ' => σ' = σ'' ∧ m "files" = some (.int f) ∧ m "origin" = some (.int o) ∧ m "goal" = some (.int g) ∧ m "wall" = some (.ref w) ∧ m "length" = some (.int len) ∧ (List.range' 1 (i - 1)).all pred = true)
      ⟨rfl, rfl, rfl, rfl, rfl, rfl, rfl⟩ ?_ ?_
    · rintro i m σ' h1 hi ⟨rfl, m1, m2, m3, m4, m5, hall⟩ K k1 k2 k3
      have hp : pred i = !decide (((o : Int) / f + ((g : Int) / f - (o : Int) / f) * i / (len : Int)) * f + ((o : Int) % f + ((g : Int) % f - (o : Int) % f) * i / (len : Int)) ∈ wall) := by rw [← hpred]
      have fb : 0 < (f : Int) ∧ (f : Int) < 1073741824 := by omega
      have lb : 0 < (len : Int) ∧ (len : Int) < 1073741824 := by omega
      have ib : (i : Int).natAbs < 2 ^ 64 := by omega
      have fn : (f : Int).natAbs < 2 ^ 64 := by omega
      refine step fun K' hK' hR' hC' => (ob_i m2 (ob_i m1 ⟨fb, ob_i m3 (ob_i m1 ⟨fb, ob_i m2 (ob_i m1 ⟨fb, .inr ib, ob_i m5 ⟨lb, ?_⟩⟩)⟩)⟩))
      refine hK' _ _ (step fun K' hK' hR' hC' => (ob_i m2 (ob_i m1 ⟨fb, ob_i m3 (ob_i m1 ⟨fb, ob_i m2 (ob_i m1 ⟨fb, .inr ib, ob_i m5 ⟨lb, ?_⟩⟩)⟩)⟩)))
      refine hK' _ _ (step fun K' hK' hR' hC' => (ob_i m1 ⟨.inr fn, ob_i rfl (ob_i m4 (ob_i (mem_ints hw) (ite_i (fun hd => ?_) fun hd => ?_)))⟩))
      · refine hR' _ _ _ (k3 _ _ _ (hR _ _ _ ⟨?_, Keep.refl _⟩))
        rw [hres]
        congr 1
        symm
        rw [List.all_eq_false]
        exact ⟨i, by simp; omega, by rw [hp, hd]; simp⟩
      · refine hK' _ _ (k1 _ _ ⟨rfl, m1, m2, m3, m4, m5, ?_⟩)
        rw [show i + 1 - 1 = (i - 1) + 1 by omega, List.range'_concat]
        simp only [List.all_append, hall, List.all_cons, List.all_nil, Nat.one_mul, show 1 + (i - 1) = i by omega, hp, hd]; rfl
    · rintro m σ' ⟨rfl, m1, m2, m3, m4, m5, hall⟩
      exact hK _ _ ⟨by rw [hres, hall], Keep.refl _⟩
  have stop : (st && k45 || asl && k35) = false → ∀ m, K (.ret (.bool false)) m σ'' := fun hc m => hR _ _ _ ⟨by rw [hres, hc]; rfl, Keep.refl _⟩
  refine ite_i (fun hb => rest (by rw [hb]; rfl)) fun hb => any_one (two_all rfl rfl hk35 (ite_i (fun hb2 => rest (by rw [hb, hb2]; rfl)) fun hb2 => stop (by rw [hb, hb2]; rfl) _))
end
end Mine

end

section
open PySem
set_option linter.unusedVariables false
set_option linter.unusedSimpArgs false
set_option maxRecDepth 100000
set_option tactic.hygienic false
namespace Mine

theorem appendV_at {σ : Store} {a : Nat} {xs : List V} {v : V} (h : σ[a]? = some (.list xs)) (hl : xs.length < 1000000) : appendV σ (.ref a) v = some (σ.set a (.list (xs ++ [v]))) := by
  show obd (listAt σ a) _ = _
  rw [listAt_of h]
  show grd (decide (xs.length < 1000000)) _ = _
  rw [decide_eq_true hl]; rfl
theorem isListV_at {σ : Store} {a : Nat} {xs : List V} (h : σ[a]? = some (.list xs)) : isListV σ (.ref a) := ⟨_, _, rfl, h⟩
theorem notin_ints {σ : Store} {w : Nat} {l : List Int} {a : Int} (h : σ[w]? = some (.list (l.map V.int))) : cmpV σ .NotIn (.int a) (.ref w) = some (!decide (a ∈ l)) := by
  show obd (obd (listAt σ w) _) _ = _
  rw [listAt_of h]
  show obd (obd (intsOf (l.map V.int)) _) _ = _
  rw [intsOf_map]; rfl
theorem set_at {σ : Store} {a : Nat} {o o' : AObj} (h : σ[a]? = some o) : (σ.set a o')[a]? = some o' := by
  have := (List.getElem?_eq_some_iff.mp h).1
  simp [this]
theorem set_ne {σ : Store} {a c : Nat} {o' : AObj} (h : a ≠ c) : (σ.set a o')[c]? = σ[c]? := List.getElem?_set_ne h

section
variable {C : Ctx} (P : Prg C) {X : Store → Prop} {σ : Store}
include P

theorem s_tch {b : Bd} (o : b.Ok) (a c : Nat) : SemCall C 3 "_law_touch" [.int b.G.files, .int a, .int c] σ (fun v σ' => v = .bool (b.tch a c) ∧ σ' = σ) X :=
  s_touch P b.G.files a c (by have := o.fpos; omega)
theorem s_str {b : Bd} (o : b.Ok) (a c : Nat) (ha : a < b.s) (hc : c < b.s) (w : Nat) (wall : List Int) (hw : σ[w]? = some (.list (wall.map V.int))) :
    SemCall C 3 "_law_strikes" [.int b.G.files, .int b.kind, .int a, .int c, .ref w] σ (fun v σ' => v = .bool (b.str a c wall) ∧ Keep σ σ') X :=
  s_strikes P b.G.files b.kind o.kind o.fpos a c (by have : b.s ≤ 12 := o.s12; omega) (by have : b.s ≤ 12 := o.s12; omega) w wall hw

theorem s_stands {z : Nat} {b : Bd} (o : b.Ok) (hB : BrdIs σ z b) (p : Pl) (hp : p.In b.s) : SemCall C 5 "_law_stands" [brdV b z, p.v] σ (fun v σ' => v = .bool (stands b p) ∧ Keep σ σ') X := by
  refine P.call P.f__law_stands rfl ?_
  refine step fun K hK hR hC => ?_
  refine (hK _ _ (step fun K hK hR hC => ?_))
  refine (hK _ _ (step fun K hK hR hC => ?_))
  have zm : ∀ k : Nat, ((k : Int) ∈ b.zone.map fun (n : Nat) => (n : Int)) ↔ (k ∈ b.zone) := fun k => by
    rw [List.mem_map]
    exact ⟨fun ⟨a, h, e⟩ => Int.ofNat.inj e ▸ h, fun h => ⟨k, h, rfl⟩⟩
  have rf : stands b p = false → ∀ m, K (.ret (.bool false)) m σ := fun h m => hR _ _ _ ⟨by rw [h], Keep.refl _⟩
  refine ob_i (notin_ints hB.zone) (ite_i (fun c1 => rf ?_ _) fun c1 => ite_i (fun c2 => rf ?_ _) fun c2 => ite_i (fun c3 => rf ?_ _) fun c3 => SemCall.mono (s_tch P o p.king p.bare) (fun v σ'' q => ?_) fun _ h => h)
  · have := of_decide_eq_false (not_f c1)
    rw [zm] at this
    unfold stands; rw [decide_eq_false this]; rfl
  · have c2 := of_decide_eq_true c2
    unfold stands
    rcases List.mem_cons.mp c2 with h | h
    · simp [Int.ofNat.inj h]
    · simp [Int.ofNat.inj (List.mem_singleton.mp h)]
  · unfold stands; simp [cast_t c3]
  obtain ⟨rfl, rfl⟩ := q
  have c1 : p.king ∈ b.zone := (zm _).mp (of_decide_eq_true (not_t c1))
  have c2 : ¬ (p.man = p.king ∨ p.man = p.bare) := fun h => of_decide_eq_false c2 (h.elim (fun h => by rw [h]; exact .head _) fun h => by rw [h]; exact .tail _ (.head _))
  have c3 := cast_f c3
  refine ite_i (fun c4 => hR _ _ _ ⟨?_, Keep.refl _⟩) fun c4 => hK _ _ ?_
  · unfold stands; simp [c4]
  have hst : stands b p = (decide (p.side = 1) || !b.str p.man p.bare [(p.king : Int)]) := by
    unfold stands
    rw [decide_eq_true c1, decide_eq_false fun h => c2 (.inl h), decide_eq_false fun h => c2 (.inr h), decide_eq_false c3, c4]; rfl
  refine ite_i (fun c5 => ⟨?_, Keep.refl _⟩) fun c5 => SemCall.mono (s_str P o p.man p.bare hp.man hp.bare _ [(p.king : Int)] (append_here _ _)) (fun v σ3 q => ?_) fun _ h => h
  · rw [hst, decide_eq_true (cast_t (b := 1) c5), c5]; rfl
  · obtain ⟨rfl, k⟩ := q
    refine ⟨?_, (Keep.snoc _ _).trans k⟩
    rw [hst, decide_eq_false (cast_f (b := 1) c5)]; rfl
end
end Mine

end

section
open PySem
set_option linter.unusedVariables false
set_option linter.unusedSimpArgs false
set_option maxRecDepth 100000
set_option tactic.hygienic false
namespace Mine

noncomputable def wayAt (b : Bd) (p : Pl) (g : Nat) : List Way := if p.side = 1 then wayW b p g else wayK b p g ++ wayM b p g
theorem flat_len2 {f : Nat → List Way} (h : ∀ g, (f g).length ≤ 2) : ∀ n, ((List.range n).flatMap f).length ≤ 2 * n
  | 0 => by simp
  | n + 1 => by
    rw [flat_succ, List.length_append]
    have h1 := flat_len2 h n
    have h2 := h n
    omega
theorem wayAt_len (b : Bd) (p : Pl) (g : Nat) : (wayAt b p g).length ≤ 2 := by
  unfold wayAt
  split
  · have := wayW_len b p g; omega
  · have := wayK_len b p g; have := wayM_len b p g; rw [List.length_append]; omega

section
variable {C : Ctx} (P : Prg C) {X : Store → Prop} {σ : Store}
include P

theorem s_ways {z : Nat} {b : Bd} (o : b.Ok) (hB : BrdIs σ z b) (p : Pl) (hp : p.In b.s) :
    SemCall C 7 "_law_ways" [brdV b z, p.v] σ (fun v σ' => ∃ a, v = .ref a ∧ σ.length ≤ a ∧ σ'[a]? = some (.list ((ways b p).map wyV)) ∧ Keep σ σ') X := by
  refine P.call P.f__law_ways rfl ?_
  have hs : b.s ≤ 12 := o.s12
  have hsf : b.G.files * b.G.ranks ≤ 12 := o.s12
  refine step fun K hK hR hC => ?_
  refine (hK _ _ (step fun K hK hR hC => ?_))
  refine (hK _ _ (step fun K hK hR hC => ?_))
  refine hK _ _ (step fun K hK hR hC => ?_)
  refine (wpB_range (by omega) ?_)
  refine forW_rng (a := 0) (b := b.s) (Nat.zero_le _) (fun i m σ' => Keep σ σ' ∧ σ'[σ.length]? = some (.list (((List.range i).flatMap (wayAt b p)).map wyV)) ∧ m "board" = some (brdV b z) ∧ m "files" = some (.int b.G.files) ∧ m "kind" = some (.int b.kind) ∧
    m "side" = some (.int p.side) ∧ m "king" = some (.int p.king) ∧ m "man" = some (.int p.man) ∧ m "bare" = some (.int p.bare) ∧ m "found" = some (.ref σ.length)) ⟨Keep.snoc _ _, by simp, rfl, rfl, rfl, rfl, rfl, rfl, rfl, rfl⟩ ?_ ?_
  · rintro i m σ' _ hi ⟨ks, hf, m1, m2, m3, m4, m5, m6, m7, m8⟩ K k1 k2 k3
    have hlen : ∀ l : List Way, l.length ≤ 2 → (((List.range i).flatMap (wayAt b p) ++ l).map wyV).length < 1000000 := by
      intro l hl
      have := flat_len2 (wayAt_len b p) i; simp only [List.length_map, List.length_append]; omega
    have inv : ∀ (σ'' : Store), Keep σ σ'' → σ''[σ.length]? = some (.list (((List.range i).flatMap (wayAt b p) ++ wayAt b p i).map wyV)) →
        Keep σ σ'' ∧ σ''[σ.length]? = some (.list (((List.range (i + 1)).flatMap (wayAt b p)).map wyV)) ∧ upd m "goal" (.int i) "board" = some (brdV b z) ∧ upd m "goal" (.int i) "files" = some (.int b.G.files) ∧ upd m "goal" (.int i) "kind" = some (.int b.kind) ∧
    upd m "goal" (.int i) "side" = some (.int p.side) ∧ upd m "goal" (.int i) "king" = some (.int p.king) ∧ upd m "goal" (.int i) "man" = some (.int p.man) ∧ upd m "goal" (.int i) "bare" = some (.int p.bare) ∧ upd m "goal" (.int i) "found" = some (.ref σ.length) := by
      intro σ'' h1 h2
      exact ⟨h1, by rw [flat_succ]; exact h2, m1, m2, m3, m4, m5, m6, m7, m8⟩
    refine step fun K' hK' hR' hC' => (ob_i m4 (ite_i (fun h => ?_) fun h => ?_))
    · have h1 : p.side = 1 := cast_t (b := 1) h
      have wA : wayAt b p i = wayW b p i := by unfold wayAt; rw [if_pos h1]
      refine step fun K'' hK'' hR'' hC'' => ?_
      have fin : ∀ (σ'' : Store), Keep σ σ'' → σ''[σ.length]? = some (.list (((List.range i).flatMap (wayAt b p) ++ wayAt b p i).map wyV)) → K'' .next (upd m "goal" (.int i)) σ'' := by
        intro σ'' a1 a2
        refine hK'' _ _ (step fun K3 hK3 hR3 hC3 => ?_)
        exact hC3 _ _ (hC' _ _ (k2 _ _ (inv _ a1 a2)))
      ·
        refine (ob_i m2 (ob_i m7 ?_))
        refine SemCall.mono ((s_tch P o p.bare i).up (b := 5) (by decide)) (fun v σ'' ⟨hv, hσ2⟩ => ?_) fun _ h => h
        subst hv hσ2
        refine ite_e (fun ht => ?_) fun ht => ?_
        · refine (fin _ ks ?_)
          rw [wA]; unfold wayW; simp [ht]; simpa using hf
        · refine step fun K3 hK3 hR3 hC3 => (ob_i m6 (ite_i (fun h => ?_) fun h => ?_))
          · have hm : i = p.man := cast_t h
            refine step fun K4 hK4 hR4 hC4 => ?_
            refine (ob_i m2 (ob_i m5 (ob_i m6 ?_)))
            refine SemCall.mono ((s_tch P o p.king p.man).up (b := 5) (by decide)) (fun v σ'' ⟨hv, hσ2⟩ => ?_) fun _ h => h
            subst hv hσ2
            refine ite_n (fun ht2 => ?_) fun ht2 => ?_
            · refine step fun K5 hK5 hR5 hC5 => ?_
              refine (ob_i m8 ⟨isListV_at hf, ob_i m7 (ob_i (appendV_at hf (by simpa using hlen [] (by simp))) ?_)⟩)
              refine hK5 _ _ ((hK4 _ _ ((hK3 _ _ (done ?_)))))
              refine fin _ (ks.set (Nat.le_refl _) _) ?_
              rw [set_at hf, wA]
              unfold wayW; rw [hm] at ht; simp [hm, ht, ht2, wyV, plV]
            · refine (hK4 _ _ ((hK3 _ _ (done ?_))))
              refine fin _ ks ?_
              rw [wA]; unfold wayW; simp [hm, ht2]; simpa [hm] using hf
          · have hm : i ≠ p.man := cast_f h
            refine step fun K4 hK4 hR4 hC4 => ?_
            refine (ob_i m1 (ob_i m5 (ob_i m6 ?_)))
            have hin : (⟨0, p.king, p.man, i⟩ : Pl).In b.s := ⟨by simp, hp.king, hp.man, hi⟩
            refine SemCall.mono (s_stands P o (hB.keep ks) ⟨0, p.king, p.man, i⟩ hin) (fun v σ'' ⟨hv, hk⟩ => ?_) fun _ h => h
            subst hv
            have hf2 := hk _ _ hf
            have ks2 := ks.trans hk
            refine ite_e (fun hst => ?_) fun hst => ?_
            · refine (hK4 _ _ ((hK3 _ _ ((fin _ ks2 ?_)))))
              rw [wA]; unfold wayW; simp [ht, hm, hst]; simpa using hf2
            · refine step fun K5 hK5 hR5 hC5 => ?_
              refine (ob_i m8 ⟨isListV_at hf2, ob_i m7 (ob_i m5 (ob_i m6 (ob_i (appendV_at hf2 (by simpa using hlen [] (by simp))) ?_)))⟩)
              refine hK5 _ _ ((hK4 _ _ ((hK3 _ _ ((fin _ (ks2.set (Nat.le_refl _) _) ?_))))))
              rw [set_at hf2, wA]
              unfold wayW; simp [hm, ht, hst, wyV, plV, Pl.v]
    · have h1 : p.side ≠ 1 := cast_f (b := 1) h
      have wA : wayAt b p i = wayK b p i ++ wayM b p i := by unfold wayAt; rw [if_neg h1]
      refine (hK' _ _ (step fun K' hK' hR' hC' => ?_))
      have second : ∀ (σ'' : Store), Keep σ σ'' → σ''[σ.length]? = some (.list (((List.range i).flatMap (wayAt b p) ++ wayK b p i).map wyV)) → K' .next (upd m "goal" (.int i)) σ'' := by
        intro σ1 kk hf
        refine hK' _ _ (step fun K' hK' hR' hC' => ?_)
        have fin : ∀ (σ'' : Store), Keep σ σ'' → σ''[σ.length]? = some (.list (((List.range i).flatMap (wayAt b p) ++ wayAt b p i).map wyV)) → K' .next (upd m "goal" (.int i)) σ'' := by
          intro σ'' a1 a2
          exact hK' _ _ ((k1 _ _ (inv _ a1 a2)))
        ·
          refine (ob_i m2 (ob_i m3 (ob_i m6 (ob_i m5 (ob_i m7 ?_)))))
          refine SemCall.mono ((s_str P o p.man i hp.man hi _ [(p.king : Int), (p.bare : Int)] (append_here _ _)).up (b := 5) (by decide)) (fun v σ2 ⟨hv, k⟩ => ?_) fun _ h => h
          subst hv
          have k2 : Keep σ1 σ2 := (Keep.snoc _ _).trans k
          have hf2 := k2 _ _ hf
          refine ite_e (fun ht => ?_) fun ht => ?_
          · refine (fin _ (kk.trans k2) ?_)
            rw [wA]; unfold wayM; simp [ht]; simpa using hf2
          ·
            ·
              refine (ob_i m1 (ob_i m5 (ob_i m7 ?_)))
              have hin : (⟨1, p.king, i, p.bare⟩ : Pl).In b.s := ⟨by simp, hp.king, hi, hp.bare⟩
              refine SemCall.mono (s_stands P o (hB.keep (kk.trans k2)) ⟨1, p.king, i, p.bare⟩ hin) (fun v σ3 ⟨hv, hk⟩ => ?_) fun _ h => h
              subst hv
              have hf3 := hk _ _ hf2
              have ks3 := (kk.trans k2).trans hk
              refine ite_e (fun hst => ?_) fun hst => ?_
              · refine (fin _ ks3 ?_)
                rw [wA]; unfold wayM; simp [ht, hst]; simpa using hf3
              · refine step fun K5 hK5 hR5 hC5 => ?_
                refine (ob_i m8 ⟨isListV_at hf3, ob_i m6 (ob_i m5 (ob_i m7 (ob_i (appendV_at hf3 (by simpa using hlen (wayK b p i) (by have := wayK_len b p i; omega))) ?_)))⟩)
                refine hK5 _ _ ((fin _ (ks3.set (Nat.le_refl _) _) ?_))
                rw [set_at hf3, wA]
                unfold wayM; simp [ht, hst, wyV, plV, Pl.v]
      ·
        refine (ob_i m2 (ob_i m5 ?_))
        refine SemCall.mono ((s_tch P o p.king i).up (b := 5) (by decide)) (fun v σ2 ⟨hv, hσ2⟩ => ?_) fun _ h => h
        subst hv hσ2
        refine ite_e (fun ht => ?_) fun ht => ?_
        · refine (second _ ks ?_)
          unfold wayK; simp [ht]; simpa using hf
        ·
          ·
            refine (ob_i m1 (ob_i m6 (ob_i m7 ?_)))
            have hin : (⟨1, i, p.man, p.bare⟩ : Pl).In b.s := ⟨by simp, hi, hp.man, hp.bare⟩
            refine SemCall.mono (s_stands P o (hB.keep ks) ⟨1, i, p.man, p.bare⟩ hin) (fun v σ3 ⟨hv, hk⟩ => ?_) fun _ h => h
            subst hv
            have hf3 := hk _ _ hf
            have ks3 := ks.trans hk
            refine ite_e (fun hst => ?_) fun hst => ?_
            · refine (second _ ks3 ?_)
              unfold wayK; simp [ht, hst]; simpa using hf3
            · refine step fun K5 hK5 hR5 hC5 => ?_
              refine (ob_i m8 ⟨isListV_at hf3, ob_i m5 (ob_i m6 (ob_i m7 (ob_i (appendV_at hf3 (by simpa using hlen [] (by simp))) ?_)))⟩)
              refine hK5 _ _ ((second _ (ks3.set (Nat.le_refl _) _) ?_))
              rw [set_at hf3]
              unfold wayK; simp [ht, hst, wyV, plV, Pl.v]
  · rintro m σ' ⟨ks, hf, m1, m2, m3, m4, m5, m6, m7, m8⟩
    refine hK _ _ (step fun K hK hR hC => ?_)
    exact (ob_i m8 (hR _ _ _ ⟨_, rfl, Nat.le_refl _, hf, ks⟩))
end
end Mine

end

section
open PySem
set_option linter.unusedVariables false
set_option linter.unusedSimpArgs false
set_option maxRecDepth 100000
set_option tactic.hygienic false
namespace Mine

noncomputable def IsDue (b : Bd) (p : Pl) (ws : List Int) (d : Int) : Prop :=
  if p.side = 0 then ((∀ a ∈ ws, a < 0) ∧ d = -1) ∨ (∃ M ∈ ws, 0 ≤ M ∧ (∀ a ∈ ws, 0 ≤ a → M ≤ a) ∧ d = 1 + M)
  else if ws = [] then d = if b.str p.man p.bare [(p.king : Int)] = true then 0 else -1
  else ((∀ a ∈ ws, 0 ≤ a) ∧ ∃ M ∈ ws, (∀ a ∈ ws, a ≤ M) ∧ d = 1 + M) ∨ ((∃ a ∈ ws, a < 0) ∧ d = -1)

theorem eq_nil {σ : Store} {i j : Nat} {l : List Int} (h1 : σ[i]? = some (.list (l.map V.int))) (h2 : σ[j]? = some (.list [])) : cmpV σ .Eq (.ref i) (.ref j) = some (decide (l = [])) := by
  show obd (listAt σ i) _ = _
  rw [listAt_of h1]
  show obd (listAt σ j) _ = _
  rw [listAt_of h2]; cases l <;> rfl
theorem ne_nil {σ : Store} {i j : Nat} {l : List Int} (h1 : σ[i]? = some (.list (l.map V.int))) (h2 : σ[j]? = some (.list [])) : cmpV σ .NotEq (.ref i) (.ref j) = some (!decide (l = [])) := by
  show obd (listAt σ i) _ = _
  rw [listAt_of h1]
  show obd (listAt σ j) _ = _
  rw [listAt_of h2]
  show obd (intsOf (l.map V.int)) _ = _
  rw [intsOf_map]; rfl

section
variable {C : Ctx} (P : Prg C) {X : Store → Prop} {σ : Store}
include P

theorem s_due {w z : Nat} {b : Bd} (o : b.Ok) (p : Pl) (hp : p.In b.s) {ws : List Int} (hw : σ[w]? = some (.list (ws.map V.int))) (hl : ws.length < 1000000) {d : Int} (hd : IsDue b p ws d) :
    SemCall C 5 "_law_due" [brdV b z, p.v, .ref w] σ (fun v σ' => v = .int d ∧ Keep σ σ') X := by
  refine P.call P.f__law_due rfl ?_
  refine step fun K hK hR hC => ?_
  refine wpS_asg ?_
  refine wpE_comp (fun i acc σ' => σ' = σ ∧ acc = ((ws.take i).filter (fun a => decide (0 ≤ a))).map V.int) (.ref w) (ws.map V.int) (fun Q' h => by exact h) (listAt_of hw) (by simpa using hl) ⟨rfl, by simp⟩ ?_ ?_ ?_
  · rintro i acc σ' ⟨rfl, _⟩; exact listAt_of hw
  · rintro i v acc m' σ' hv ⟨rfl, rfl⟩ hm hx K' hK'
    rw [List.getElem?_map] at hv
    cases ha : ws[i]? with
    | none => rw [ha] at hv; cases hv
    | some a =>
      rw [ha] at hv; cases hv
      have ht : ws.take (i + 1) = ws.take i ++ [a] := by rw [List.take_add_one, ha]; rfl
      · refine (ob_i hx ?_)
        refine ite_e (fun h0 => ?_) fun h0 => ?_
        · exact hK' _ _ ⟨rfl, by rw [ht]; simp [List.filter_append, h0]⟩
        · refine (ob_i hx ?_)
          exact hK' _ _ ⟨rfl, by rw [ht]; simp [List.filter_append, h0]⟩
  rintro acc σ' ⟨rfl, rfl⟩
  have hlen : (ws.map V.int).length = ws.length := by simp
  rw [hlen, List.take_length]
  generalize hwon : ws.filter (fun a => decide (0 ≤ a)) = won
  have mwon : ∀ a, a ∈ won ↔ a ∈ ws ∧ 0 ≤ a := by intro a; rw [← hwon]; simp
  refine hK _ _ (step fun K hK hR hC => ?_)
  have iw := intsOf_map won
  unfold IsDue at hd
  refine (ite_i (fun h => ?_) fun h => ?_)
  · have h0 : p.side = 0 := cast_t (b := 0) h
    rw [if_pos h0] at hd
    refine step fun K' hK' hR' hC' => ?_
    have h2 : ((σ' ++ [AObj.list (won.map V.int)]) ++ [AObj.list []])[σ'.length]? = some (.list (won.map V.int)) := by simp
    have h3 : ((σ' ++ [AObj.list (won.map V.int)]) ++ [AObj.list []])[(σ' ++ [AObj.list (won.map V.int)]).length]? = some (.list []) := append_here _ _
    ·
      refine ob_i (ne_nil h2 h3) ?_
      have fin : ∀ v m₁, v = V.int d → K' (.ret v) m₁ ((σ' ++ [AObj.list (won.map V.int)]) ++ [AObj.list []]) := by
        intro v m₁ hv
        exact hR' _ _ _ (hR _ _ _ ⟨hv, (Keep.snoc _ _).trans (Keep.snoc _ _)⟩)
      refine ite_i (fun hwn => ?_) fun hwn => ?_
      · have hne : won ≠ [] := of_decide_eq_false (not_f hwn)
        refine wpB_min h2 hne fun M hM hle => ?_
        refine fin _ _ ?_
        rcases hd with ⟨hneg, _⟩ | ⟨M', hM', h0', hmin, rfl⟩
        · have := (mwon M).mp hM; have := hneg M this.1; omega
        · have a1 := hle M' ((mwon _).mpr ⟨hM', h0'⟩)
          have a2 := (mwon M).mp hM
          have a3 := hmin M a2.1 a2.2
          congr 1; omega
      · have hne : won = [] := of_decide_eq_true (not_t hwn)
        refine fin _ _ ?_
        rcases hd with ⟨_, rfl⟩ | ⟨M', hM', h0', hmin, rfl⟩
        · rfl
        · have := (mwon M').mpr ⟨hM', h0'⟩; rw [hne] at this; cases this
  · have h0 : p.side ≠ 0 := cast_f (b := 0) h
    rw [if_neg h0] at hd
    refine (hK _ _ (step fun K hK hR hC => ?_))
    have g1 : ((σ' ++ [AObj.list (won.map V.int)]) ++ [AObj.list []])[w]? = some (.list (ws.map V.int)) := ((Keep.snoc _ _).trans (Keep.snoc _ _)) _ _ hw
    have g2 : ((σ' ++ [AObj.list (won.map V.int)]) ++ [AObj.list []])[σ'.length]? = some (.list (won.map V.int)) := by simp
    have g3 : ((σ' ++ [AObj.list (won.map V.int)]) ++ [AObj.list []])[(σ' ++ [AObj.list (won.map V.int)]).length]? = some (.list []) := append_here _ _
    ·
      refine ob_i (eq_nil g1 g3) ?_
      refine ite_i (fun e => ?_) fun e => ?_
      · have hw0 : ws = [] := of_decide_eq_true e
        rw [if_pos hw0] at hd
        refine step fun K' hK' hR' hC' => ?_
        ·
          refine SemCall.mono (s_str P o p.man p.bare hp.man hp.bare _ [(p.king : Int)] (append_here _ _)) (fun v σ3 ⟨hv, k⟩ => ?_) fun _ h => h
          subst hv
          have kk : Keep σ' σ3 := ((Keep.snoc _ _).trans (Keep.snoc _ _)).trans ((Keep.snoc _ _).trans k)
          refine ite_i (fun hs => ?_) fun hs => ?_
          · rw [hs] at hd
            exact hR' _ _ _ (hR _ _ _ ⟨by rw [hd]; rfl, kk⟩)
          · rw [hs] at hd
            exact (hR' _ _ _ (hR _ _ _ ⟨by rw [hd]; rfl, kk⟩))
      · have hw0 : ws ≠ [] := of_decide_eq_false e
        rw [if_neg hw0] at hd
        refine (hK _ _ (step fun K hK hR hC => ?_))
        have lw : won.length ≤ ws.length := by rw [← hwon]; exact List.length_filter_le _ _
        ·
          refine wpB_len g2 (by rw [List.length_map]; omega) (wpB_len g1 (by rw [List.length_map]; exact hl) ?_)
          have kk : Keep σ' ((σ' ++ [AObj.list (won.map V.int)]) ++ [AObj.list []]) := (Keep.snoc _ _).trans (Keep.snoc _ _)
          refine ite_i (fun hwl => ?_) fun hwl => ?_
          rotate_left
          · refine (hR _ _ _ ⟨?_, kk⟩)
            rcases hd with ⟨hall, _⟩ | ⟨_, rfl⟩
            · exfalso
              have : won = ws := by rw [← hwon, List.filter_eq_self]; intro a ha; simpa using hall a ha
              rw [this] at hwl; exact cast_f hwl rfl
            · rfl
          · have hwl' : won.length = ws.length := by have := cast_t hwl; rwa [List.length_map, List.length_map] at this
            have hall : ∀ a ∈ ws, 0 ≤ a := by
              rw [← hwon] at hwl'
              have := List.length_filter_eq_length_iff.mp hwl'
              intro a ha; simpa using this a ha
            refine wpB_max g2 ?_ fun M hM hle => ?_
            · intro h; rw [h] at hwl'; simp at hwl'; exact hw0 (List.length_eq_zero_iff.mp hwl'.symm)
            refine hR _ _ _ ⟨?_, kk⟩
            rcases hd with ⟨_, M', hM', hmax, rfl⟩ | ⟨⟨a, ha, hn⟩, _⟩
            · have a1 := hle M' ((mwon _).mpr ⟨hM', hall _ hM'⟩)
              have a2 := hmax M ((mwon M).mp hM).1
              congr 1; omega
            · have := hall a ha; omega
end
end Mine

end

section
open PySem
set_option linter.unusedVariables false
set_option linter.unusedSimpArgs false
set_option maxRecDepth 100000
set_option tactic.hygienic false
namespace Mine

theorem mem_moves {b : Bd} {p : Pl} {w : Way} : w ∈ moves b p ↔ ∃ g, g < b.s ∧ w ∈ wayAt b p g := by
  unfold moves wayAt
  split
  · simp
  · simp only [List.mem_append, List.mem_flatMap, List.mem_range]
    constructor
    · rintro (⟨g, h1, h2⟩ | ⟨g, h1, h2⟩)
      · exact ⟨g, h1, .inl h2⟩
      · exact ⟨g, h1, .inr h2⟩
    · rintro ⟨g, h1, h2 | h2⟩
      · exact .inl ⟨g, h1, h2⟩
      · exact .inr ⟨g, h1, h2⟩
theorem mem_ways {b : Bd} {p : Pl} {w : Way} : w ∈ ways b p ↔ ∃ g, g < b.s ∧ w ∈ wayAt b p g := by
  unfold ways
  simp only [List.mem_flatMap, List.mem_range]
  rfl
theorem moves_ways {b : Bd} {p : Pl} {w : Way} : w ∈ moves b p ↔ w ∈ ways b p := mem_moves.trans mem_ways.symm

/-- a way: who goes where, and the place behind it -/
inductive WayIs (b : Bd) (p : Pl) : Way → Prop
  | take (g : Nat) : p.side = 1 → g < b.s → g = p.man → WayIs b p (p.bare, g, none)
  | weak (g : Nat) : p.side = 1 → g < b.s → stands b ⟨0, p.king, p.man, g⟩ = true → WayIs b p (p.bare, g, some ⟨0, p.king, p.man, g⟩)
  | king (g : Nat) : p.side ≠ 1 → g < b.s → stands b ⟨1, g, p.man, p.bare⟩ = true → WayIs b p (p.king, g, some ⟨1, g, p.man, p.bare⟩)
  | man (g : Nat) : p.side ≠ 1 → g < b.s → stands b ⟨1, p.king, g, p.bare⟩ = true → WayIs b p (p.man, g, some ⟨1, p.king, g, p.bare⟩)
theorem wayW_is {b : Bd} {p : Pl} {w : Way} {g : Nat} (h1 : p.side = 1) (hg : g < b.s) (hw : w ∈ wayW b p g) : w.2.1 = g ∧ WayIs b p w := by
  unfold wayW at hw
  split at hw
  · split at hw
    · split at hw
      · cases hw
      · rw [List.mem_singleton] at hw; subst hw; exact ⟨rfl, .take g h1 hg ‹_›⟩
    · split at hw
      · rw [List.mem_singleton] at hw; subst hw; exact ⟨rfl, .weak g h1 hg ‹_›⟩
      · cases hw
  · cases hw
theorem wayK_is {b : Bd} {p : Pl} {w : Way} {g : Nat} (h1 : p.side ≠ 1) (hg : g < b.s) (hw : w ∈ wayK b p g) : w.1 = p.king ∧ w.2.1 = g ∧ WayIs b p w := by
  unfold wayK at hw
  split at hw
  · rename_i h
    rw [Bool.and_eq_true] at h
    rw [List.mem_singleton] at hw; subst hw; exact ⟨rfl, rfl, .king g h1 hg h.2⟩
  · cases hw
theorem wayM_is {b : Bd} {p : Pl} {w : Way} {g : Nat} (h1 : p.side ≠ 1) (hg : g < b.s) (hw : w ∈ wayM b p g) : w.1 = p.man ∧ w.2.1 = g ∧ WayIs b p w := by
  unfold wayM at hw
  split at hw
  · rename_i h
    rw [Bool.and_eq_true] at h
    rw [List.mem_singleton] at hw; subst hw; exact ⟨rfl, rfl, .man g h1 hg h.2⟩
  · cases hw
theorem wayAt_is {b : Bd} {p : Pl} {w : Way} {g : Nat} (hg : g < b.s) (hw : w ∈ wayAt b p g) : w.2.1 = g ∧ WayIs b p w := by
  unfold wayAt at hw
  split at hw
  · exact wayW_is ‹_› hg hw
  · rcases List.mem_append.mp hw with h | h
    · exact (wayK_is ‹_› hg h).2
    · exact (wayM_is ‹_› hg h).2
theorem ways_is {b : Bd} {p : Pl} {w : Way} (hw : w ∈ ways b p) : WayIs b p w := by
  obtain ⟨g, hg, h⟩ := mem_ways.mp hw
  exact (wayAt_is hg h).2
theorem WayIs.in_ {b : Bd} {p : Pl} {w : Way} (hp : p.In b.s) (h : WayIs b p w) {q : Pl} (e : w.2.2 = some q) : q.In b.s ∧ stands b q = true ∧ q.side = 1 - p.side := by
  cases h with
  | take g _ _ _ => cases e
  | weak g h1 hg hs => cases e; exact ⟨⟨by simp, hp.king, hp.man, hg⟩, hs, by simp [h1]⟩
  | king g h1 hg hs => cases e; exact ⟨⟨by simp, hg, hp.man, hp.bare⟩, hs, by have := hp.side; simp only; omega⟩
  | man g h1 hg hs => cases e; exact ⟨⟨by simp, hp.king, hg, hp.bare⟩, hs, by have := hp.side; simp only; omega⟩

/-- what best_move holds a move for worth -/
noncomputable def worthOf (b : Bd) (tbl : List Int) (side : Nat) (w : Way) : Int :=
  let x : Int := if wordOf b.s tbl w.2.2 = -1 then tbl.length else wordOf b.s tbl w.2.2
  if side = 0 then -x else x
noncomputable def bm : V := .tup [.int (-1), .int (-1)]
noncomputable def IsBest (b : Bd) (tbl : List Int) (p : Pl) (v : V) : Prop :=
  ((stands b p = false ∨ moves b p = []) ∧ v = bm) ∨ (stands b p = true ∧ ∃ w ∈ moves b p, v = .tup [.int w.1, .int w.2.1] ∧ ∀ w' ∈ moves b p, worthOf b tbl p.side w' ≤ worthOf b tbl p.side w)

theorem moves_len (b : Bd) (p : Pl) : (moves b p).length ≤ 2 * b.s := by
  unfold moves
  split
  · have := flat_len (wayW_len b p) b.s; omega
  · have h1 := flat_len (wayM_len b p) b.s; have h2 := flat_len (wayK_len b p) b.s
    rw [List.length_append]; omega

section
variable {C : Ctx} (P : Prg C) {X : Store → Prop} {σ : Store}
include P

theorem s_best {g t : Nat} {b : Bd} (o : b.Ok) (hG : GeoIs σ g b.G) {tbl : List Int} (hT : Tab b σ t tbl) (mk : Marks b tbl) (p : Pl) (hp : p.In b.s) :
    SemCall C 17 "best_move" [.ref g, .ref t, .int b.kind, .int p.side, .int p.king, .int p.man, .int p.bare] σ (fun v σ' => IsBest b tbl p v ∧ Keep σ σ') X := by
  refine P.call P.f_best_move rfl ?_
  refine step fun K hK hR hC => (hK _ _ (step fun K hK hR hC => ?_))
  refine SemCall.mono ((s_probe P o hG hT p hp).up (b := 15) (by decide)) (fun v σ2 ⟨hv, hσ2⟩ => ?_) fun _ h => h
  subst hv hσ2
  refine ite_i (fun hst => ?_) fun hst => ?_ <;> rw [mk.st hp] at hst
  · exact hR _ _ _ ⟨.inl ⟨.inl (not_f hst), rfl⟩, Keep.refl _⟩
  have hst := not_t hst
  refine (hK _ _ (step fun K hK hR hC => ?_))
  refine hK _ _ (step fun K hK hR hC => ?_)
  refine SemCall.mono (s_moves P o hG hT mk p hp) (fun v σ3 ⟨hv, hσ3⟩ => ?_) fun _ h => h
  subst hv
  have ks : Keep σ2 σ3 := by rw [hσ3]; exact Keep.snoc _ _
  have hml := moves_len b p
  have hs : b.s ≤ 12 := o.s12
  have hL : σ3[σ2.length]? = some (.list ((moves b p).map (mvV b.s))) := by rw [hσ3]; exact append_here _ _
  refine ob_i (listAt_of hL) ?_
  refine forW_inv (fun i m σ' => σ' = σ3 ∧ m "table" = some (.ref t) ∧ m "side" = some (.int p.side) ∧ ∃ bv top, m "best" = some bv ∧ m "top" = some (.int top) ∧
      ((i = 0 ∧ bv = bm) ∨ (∃ w ∈ (moves b p).take i, bv = .tup [.int w.1, .int w.2.1] ∧ top = worthOf b tbl p.side w ∧ ∀ w' ∈ (moves b p).take i, worthOf b tbl p.side w' ≤ worthOf b tbl p.side w)))
    ?_ ?_ ?_ _ 0 _ _ rfl (Nat.zero_le _) ⟨rfl, rfl, rfl, _, _, rfl, rfl, .inl ⟨rfl, rfl⟩⟩
  · rintro i m σ' ⟨rfl, _⟩; exact listAt_of hL
  · rintro i v m σ' hv ⟨rfl, m1, m2, bv, top, m3, m4, hb⟩ K k1 k2 k3
    rw [List.getElem?_map] at hv
    cases hw : (moves b p)[i]? with
    | none => rw [hw] at hv; cases hv
    | some w =>
      rw [hw] at hv; cases hv
      have hwm : w ∈ moves b p := List.mem_of_getElem? hw
      have hwi := ways_is (moves_ways.mp hwm)
      have htk : (moves b p).take (i + 1) = (moves b p).take i ++ [w] := by rw [List.take_add_one, hw]; rfl
      have hT3 := hT.keep ks
      refine step fun K' hK' hR' hC' => ?_
      refine (ob_i m1 (wpB_len hT3.here (by rw [List.length_map, hT3.len]; have := o.cube; omega) ?_))
      rw [List.length_map]
      refine hK' _ _ (step fun K' hK' hR' hC' => ?_)
      -- the worth before the sign
      have nxt : ∀ (m' : Loc), (∀ y, y ≠ "worth" → m' y = upd (upd (upd m "origin" (.int w.1)) "goal" (.int w.2.1)) "place" (.int (ixOf b.s w.2.2)) y) →
          m' "worth" = some (.int (if wordOf b.s tbl w.2.2 = -1 then tbl.length else wordOf b.s tbl w.2.2)) → K' .next m' σ' := by
        intro m' hm hwo
        refine hK' _ _ (step fun K' hK' hR' hC' => ?_)
        have n1 : m' "side" = some (.int p.side) := by rw [hm _ (by decide)]; simp [upd, m2]
        have last : ∀ (m'' : Loc), (∀ y, y ≠ "worth" → m'' y = m' y) → m'' "worth" = some (.int (worthOf b tbl p.side w)) → K' .next m'' σ' := by
          intro m'' hm'' hwo''
          refine hK' _ _ (step fun K' hK' hR' hC' => ?_)
          have q1 : m'' "best" = some bv := by rw [hm'' _ (by decide), hm _ (by decide)]; simp [upd, m3]
          have q2 : m'' "top" = some (.int top) := by rw [hm'' _ (by decide), hm _ (by decide)]; simp [upd, m4]
          have q3 : m'' "origin" = some (.int w.1) := by rw [hm'' _ (by decide), hm _ (by decide)]; simp [upd]
          have q4 : m'' "goal" = some (.int w.2.1) := by rw [hm'' _ (by decide), hm _ (by decide)]; simp [upd]
          have q5 : m'' "table" = some (.ref t) := by rw [hm'' _ (by decide), hm _ (by decide)]; simp [upd, m1]
          have q6 : m'' "side" = some (.int p.side) := by rw [hm'' _ (by decide), n1]
          have isb : ∃ e : Bool, cmpV σ' .Eq bv bm = some e ∧ (e = true ↔ i = 0) := by
            rcases hb with ⟨h0, rfl⟩ | ⟨w0, hw0, rfl, _⟩
            · exact ⟨true, rfl, by simp [h0]⟩
            · refine ⟨false, congrArg some (decide_eq_false fun h => ?_), fun h => noB h, fun h => ?_⟩
              · have := (List.cons.inj h).1; omega
              · subst h; exact nomatch hw0
          obtain ⟨e, he, hei⟩ := isb
          have take : ∀ K0 : Fl → Loc → Store → Prop, (∀ m₁, K' .next m₁ σ' → K0 .next m₁ σ') → (e = true ∨ top < worthOf b tbl p.side w) → wpSs C 16 X [.assign (.name "best") (.tup [(.loc "origin"), (.loc "goal")]), .assign (.name "top") (.loc "worth")] m'' σ' fun fl m₁ σ₁ => K' fl m₁ σ₁ := by
            intro K0 _ hor
            refine step fun K6 hK6 hR6 hC6 => ?_
            refine (ob_i q3 (ob_i q4 ?_))
            refine hK6 _ _ (step fun K7 hK7 hR7 hC7 => ?_)
            refine (ob_i hwo'' ?_)
            refine hK7 _ _ ((hK' _ _ ((k1 _ _ ⟨rfl, q5, q6, _, _, rfl, rfl, .inr ⟨w, by rw [htk]; simp, rfl, rfl, ?_⟩⟩))))
            intro w' hw'
            rw [htk] at hw'
            rcases List.mem_append.mp hw' with h | h
            · rcases hb with ⟨h0, _⟩ | ⟨w0, hw0, _, htop, hmax⟩
              · subst h0; simp at h
              · have := hmax w' h
                rcases hor with he' | hlt
                · have := hei.mp he'; subst this; simp at h
                · omega
            · rw [List.mem_singleton] at h; subst h; exact Int.le_refl _
          · refine (ob_i q1 ?_)
            refine ob_i he ?_
            refine ite_e (fun hce => ?_) fun hce => ?_
            ·
              · refine (ob_i hwo'' ?_)
                refine (ob_i q2 ?_)
                refine ite_e (fun hlt => ?_) fun hlt => ?_
                · have hlt' : ¬ top < worthOf b tbl p.side w := by simpa using hlt
                  refine (hK' _ _ ((k1 _ _ ⟨rfl, q5, q6, _, _, q1, q2, ?_⟩)))
                  rcases hb with ⟨h0, _⟩ | ⟨w0, hw0, hbv, htop, hmax⟩
                  · have := hei.mpr h0; rw [hce] at this; cases this
                  · refine .inr ⟨w0, by rw [htk]; exact List.mem_append_left _ hw0, hbv, htop, ?_⟩
                    intro w' hw'
                    rw [htk] at hw'
                    rcases List.mem_append.mp hw' with h | h
                    · exact hmax w' h
                    · rw [List.mem_singleton] at h; subst h; omega
                · exact take K' (fun _ h => h) (.inr (by simpa using hlt))
            · exact take K' (fun _ h => h) (.inl hce)
        · refine (ob_i n1 ?_)
          refine ite_e (fun hs0 => ?_) fun hs0 => ?_
          · have hs0' : ¬ p.side = 0 := cast_f (b := 0) hs0
            refine (last _ (fun _ _ => rfl) ?_)
            rw [hwo]; simp [worthOf, hs0']
          · have hs0' : p.side = 0 := cast_t (b := 0) hs0
            refine step fun K5 hK5 hR5 hC5 => ?_
            refine (ob_i hwo ?_)
            refine hK5 _ _ ((last _ (fun y hy => upd_ne hy) ?_))
            simp [upd, worthOf, hs0']
      ·
        cases hq : w.2.2 with
        | none =>
          refine (nxt _ (fun y hy => by rw [hq]; first | exact upd_ne hy | exact (upd_ne hy).trans (upd_ne hy) | rfl) ?_)
          simp [upd, hq, wordOf]
        | some q =>
          have hin := (hwi.in_ hp hq).1
          have hne : ¬ ixOf b.s (some q) = -1 := by simp only [ixOf]; omega
          · refine (ob_i m1 ?_)
            refine hT3.item o hin ?_
            refine ite_n (fun hv => ?_) fun hv => ?_
            · refine step fun K5 hK5 hR5 hC5 => ?_
              refine (ob_i m1 ?_)
              refine hT3.item o hin (hK5 _ _ (nxt _ (fun y hy => by rw [hq]; first | exact upd_ne hy | exact (upd_ne hy).trans (upd_ne hy) | rfl) ?_))
              have hv' : ¬ at_ tbl (idx b.s q) = -1 := by simpa using hv
              simp [upd, hq, wordOf, hv']
            · have hv' : at_ tbl (idx b.s q) = -1 := by simpa using hv
              refine (nxt _ (fun y hy => by rw [hq]; first | exact upd_ne hy | exact (upd_ne hy).trans (upd_ne hy) | rfl) ?_)
              simp [upd, hq, wordOf, hv']
  · rintro m σ' ⟨rfl, m1, m2, bv, top, m3, m4, hb⟩
    refine hK _ _ (step fun K hK hR hC => ?_)
    refine (ob_i m3 (hR _ _ _ ⟨?_, ks⟩))
    have htk : (moves b p).take ((moves b p).map (mvV b.s)).length = moves b p := by rw [List.length_map, List.take_length]
    rw [htk] at hb
    rcases hb with ⟨h0, rfl⟩ | ⟨w, hw, rfl, _, hmax⟩
    · refine .inl ⟨.inr ?_, rfl⟩
      simpa using h0
    · exact .inr ⟨hst, w, hw, rfl, hmax⟩
end
end Mine

end

section
open PySem
set_option linter.unusedVariables false
set_option linter.unusedSimpArgs false
set_option maxRecDepth 100000
set_option tactic.hygienic false
namespace Mine

structure TblOk (b : Bd) (tbl : List Int) : Prop where
  marks : Marks b tbl
  due : ∀ p : Pl, p.In b.s → stands b p = true → IsDue b p ((ways b p).map fun w => wordOf b.s tbl w.2.2) (at_ tbl (idx b.s p))
  low : ∀ p : Pl, p.In b.s → stands b p = true → -1 ≤ at_ tbl (idx b.s p)
  high : ∀ p : Pl, p.In b.s → at_ tbl (idx b.s p) < tbl.length

theorem TblOk.stand {b : Bd} {tbl : List Int} (T : TblOk b tbl) {p : Pl} (hp : p.In b.s) (h : -1 ≤ at_ tbl (idx b.s p)) : stands b p = true := by
  cases hs : stands b p
  · have := (T.marks p hp).mpr hs; omega
  · rfl
theorem TblOk.word {b : Bd} {tbl : List Int} (T : TblOk b tbl) {p : Pl} (hp : p.In b.s) {w : Way} (hw : w ∈ ways b p) : -1 ≤ wordOf b.s tbl w.2.2 ∧ wordOf b.s tbl w.2.2 < tbl.length ∧ (∀ q, w.2.2 = some q → q.In b.s ∧ stands b q = true ∧ q.side = 1 - p.side) := by
  have hi := ways_is hw
  have hin := fun q e => hi.in_ hp (q := q) e
  cases hq : w.2.2 with
  | none => simp only [wordOf]; exact ⟨by omega, by omega, fun q e => by cases e⟩
  | some q =>
    obtain ⟨h1, h2, h3⟩ := hin q hq
    simp only [wordOf]
    exact ⟨T.low q h1 h2, T.high q h1, fun q' e => by cases e; exact ⟨h1, h2, h3⟩⟩

theorem moves_nil {b : Bd} {p : Pl} : moves b p = [] ↔ ways b p = [] := by
  constructor <;> intro h <;> rw [List.eq_nil_iff_forall_not_mem] at h ⊢ <;> intro w hw
  · exact h w (moves_ways.mpr hw)
  · exact h w (moves_ways.mp hw)

/-- the best move at a place that stands and has ways -/
theorem best_way {b : Bd} {tbl : List Int} (T : TblOk b tbl) {p : Pl} (hp : p.In b.s) (hs : stands b p = true) (hne : ways b p ≠ []) {v : V} (hv : IsBest b tbl p v) :
    ∃ w ∈ ways b p, v = .tup [.int w.1, .int w.2.1] ∧ (0 < at_ tbl (idx b.s p) → wordOf b.s tbl w.2.2 = at_ tbl (idx b.s p) - 1) ∧ (at_ tbl (idx b.s p) ≤ 0 → p.side = 0 ∨ wordOf b.s tbl w.2.2 = -1) := by
  rcases hv with ⟨h | h, _⟩ | ⟨_, w, hw, hvw, hmax⟩
  · rw [hs] at h; cases h
  · exact absurd (moves_nil.mp h) hne
  rw [moves_ways] at hw
  refine ⟨w, hw, hvw, ?_⟩
  have hd := T.due p hp hs
  obtain ⟨l1, l2, _⟩ := T.word hp hw
  have hmax' : ∀ w' ∈ ways b p, worthOf b tbl p.side w' ≤ worthOf b tbl p.side w := fun w' h => hmax w' (moves_ways.mpr h)
  unfold IsDue at hd
  have hwds : (ways b p).map (fun w => wordOf b.s tbl w.2.2) ≠ [] := by simpa using hne
  by_cases h0 : p.side = 0
  · rw [if_pos h0] at hd
    rcases hd with ⟨_, e⟩ | ⟨M, hM, hM0, hmin, e⟩
    · exact ⟨fun h => by omega, fun _ => .inl h0⟩
    · refine ⟨fun _ => ?_, fun _ => .inl h0⟩
      obtain ⟨w0, hw0, rfl⟩ := List.mem_map.mp hM
      obtain ⟨_, k2, _⟩ := T.word hp hw0
      have a := hmax' w0 hw0
      unfold worthOf at a
      simp only [h0, if_true] at a
      rw [if_neg (by omega)] at a
      have c := hmin _ (List.mem_map.mpr ⟨w, hw, rfl⟩)
      split at a
      · omega
      · have := c (by omega); omega
  · rw [if_neg h0, if_neg hwds] at hd
    rcases hd with ⟨hall, M, hM, hmx, e⟩ | ⟨⟨a0, ha0, hneg⟩, e⟩
    · have hwn := hall _ (List.mem_map.mpr ⟨w, hw, rfl⟩)
      have hMn := hall _ hM
      refine ⟨fun _ => ?_, fun h => by omega⟩
      obtain ⟨w0, hw0, rfl⟩ := List.mem_map.mp hM
      have a := hmax' w0 hw0
      unfold worthOf at a
      simp only [h0, if_false] at a
      rw [if_neg (by omega), if_neg (by omega)] at a
      have c := hmx _ (List.mem_map.mpr ⟨w, hw, rfl⟩)
      omega
    · refine ⟨fun h => by omega, fun _ => .inr ?_⟩
      obtain ⟨w0, hw0, rfl⟩ := List.mem_map.mp ha0
      obtain ⟨k1, k2, _⟩ := T.word hp hw0
      have a := hmax' w0 hw0
      unfold worthOf at a
      simp only [h0, if_false] at a
      rw [if_pos (by omega)] at a
      split at a
      · assumption
      · omega

/-- the ways differ by who goes where -/
noncomputable def key (w : Way) : Nat × Nat := (w.1, w.2.1)
theorem wayAt_pw {b : Bd} {p : Pl} (hs : stands b p = true) (g : Nat) (hg : g < b.s) : (wayAt b p g).Pairwise fun a c => key a ≠ key c := by
  unfold wayAt
  have hkm : p.man ≠ p.king := by
    unfold stands at hs
    simp only [Bool.and_eq_true] at hs
    simpa using hs.1.1.1.1.2
  split
  · unfold wayW; split
    · split
      · split <;> simp
      · split <;> simp
    · simp
  · rename_i h1
    rw [List.pairwise_append]
    refine ⟨by unfold wayK; split <;> simp, by unfold wayM; split <;> simp, fun a ha c hc e => ?_⟩
    have e1 := (wayK_is h1 hg ha).1
    have e2 := (wayM_is h1 hg hc).1
    have := congrArg Prod.fst e
    simp only [key] at this
    rw [e1, e2] at this
    exact hkm this.symm
theorem ways_pw {b : Bd} {p : Pl} (hs : stands b p = true) : (ways b p).Pairwise fun a c => key a ≠ key c := by
  show ((List.range b.s).flatMap fun g => wayAt b p g).Pairwise _
  rw [List.pairwise_flatMap]
  refine ⟨fun g hg => wayAt_pw hs g (List.mem_range.mp hg), ?_⟩
  have : (List.range b.s).Pairwise fun a c => a < c := List.pairwise_lt_range
  refine (List.Pairwise.imp_of_mem ?_ this)
  intro a c ha hc hlt x hx y hy e
  have e1 := (wayAt_is (List.mem_range.mp ha) hx).1
  have e2 := (wayAt_is (List.mem_range.mp hc) hy).1
  have := congrArg Prod.snd e
  simp only [key] at this
  omega
theorem filter_key {l : List Way} (h : l.Pairwise fun a c => key a ≠ key c) {w : Way} (hw : w ∈ l) : l.filter (fun x => decide (key x = key w)) = [w] := by
  induction l with
  | nil => cases hw
  | cons a r ih =>
    rw [List.pairwise_cons] at h
    rcases List.mem_cons.mp hw with rfl | hr
    · rw [List.filter_cons_of_pos (by simp)]
      congr 1
      rw [List.filter_eq_nil_iff]
      intro x hx
      have := h.1 x hx
      simpa using fun e => this e.symm
    · rw [List.filter_cons_of_neg (by simpa using h.1 w hr)]
      exact ih h.2 hr

/-- the line of best play -/
inductive Line (b : Bd) (tbl : List Int) : Pl → List (Nat × Nat) → Prop
  | nil {p : Pl} : p.In b.s → at_ tbl (idx b.s p) ≤ 0 → Line b tbl p []
  | cons {p q : Pl} {w : Way} {l : List (Nat × Nat)} : p.In b.s → 0 < at_ tbl (idx b.s p) → w ∈ ways b p → w.2.2 = some q → at_ tbl (idx b.s q) = at_ tbl (idx b.s p) - 1 → Line b tbl q l → Line b tbl p (key w :: l)
theorem Line.len {b : Bd} {tbl : List Int} {p : Pl} {l : List (Nat × Nat)} (h : Line b tbl p l) : (l.length : Int) = max (at_ tbl (idx b.s p)) 0 := by
  induction h with
  | nil _ h => simp; omega
  | cons _ h1 _ _ h2 _ ih => simp only [List.length_cons]; omega
theorem Line.in_ {b : Bd} {tbl : List Int} {p : Pl} {l : List (Nat × Nat)} (h : Line b tbl p l) : p.In b.s := by
  cases h <;> assumption
end Mine

end

section
open PySem
set_option linter.unusedVariables false
set_option linter.unusedSimpArgs false
set_option maxRecDepth 100000
set_option tactic.hygienic false
namespace Mine

theorem ite_t {b : Bool} {A B : Prop} (h : b = true) (a : A) : if b = true then A else B := by rw [if_pos h]; exact a
theorem ite_f {b : Bool} {A B : Prop} (h : b = false) (a : B) : if b = true then A else B := by rw [if_neg (by simp [h])]; exact a
noncomputable def keyV (k : Nat × Nat) : V := .tup [.int k.1, .int k.2]
theorem stands_ne {b : Bd} {p : Pl} (hs : stands b p = true) : p.man ≠ p.king ∧ p.man ≠ p.bare ∧ p.king ≠ p.bare := by
  unfold stands at hs
  simp only [Bool.and_eq_true] at hs
  obtain ⟨⟨⟨⟨⟨_, h1⟩, h2⟩, h3⟩, _⟩, _⟩ := hs
  exact ⟨by simpa using h1, by simpa using h2, by simpa using h3⟩

section
variable {C : Ctx} (P : Prg C) {X : Store → Prop} {σ : Store}
include P

noncomputable def mlTest : E := .cmp .Gt (.loc "plies") (.cint 0)
noncomputable def mlBody : List S := [
    .assign (.tup ["origin", "goal"]) (.call (.glob "best_move") [(.loc "geo"), (.loc "table"), (.loc "kind"), (.loc "side"), (.loc "strong"), (.loc "piece"), (.loc "weak")]),
    .append (.loc "out") (.tup [(.loc "origin"), (.loc "goal")]),
    .ite (.cmp .Eq (.loc "origin") (.loc "strong")) [
      .assign (.name "strong") (.loc "goal")] [
      .ite (.cmp .Eq (.loc "origin") (.loc "piece")) [
        .assign (.name "piece") (.loc "goal")] [
        .assign (.name "weak") (.loc "goal")]],
    .assign (.name "side") (.bin .Sub (.cint 1) (.loc "side")),
    .aug "plies" .Sub (.cint 1)]

omit P in
theorem ml_test {m : Loc} {σ : Store} {Q : Bool → Store → Prop} {d : Int} (h : m "plies" = some (.int d)) (hq : Q (decide (0 < d)) σ) : wpT C 18 X mlTest m σ Q := by
  exact ob_i h hq

theorem ml_loop {g t : Nat} {b : Bd} (o : b.Ok) (hG : GeoIs σ g b.G) {tbl : List Int} (hT : Tab b σ t tbl) (T : TblOk b tbl) (a : Nat) (ha : σ.length ≤ a) {Q : Fl → Loc → Store → Prop} :
    ∀ (n : Nat) (q : Pl) (acc : List (Nat × Nat)) (m : Loc) (σ' : Store), q.In b.s → (at_ tbl (idx b.s q)).toNat = n → acc.length + n < 4000 → Keep σ σ' → σ'[a]? = some (.list (acc.map keyV)) →
      m "geo" = some (.ref g) → m "table" = some (.ref t) → m "kind" = some (.int b.kind) → m "side" = some (.int q.side) → m "strong" = some (.int q.king) → m "piece" = some (.int q.man) → m "weak" = some (.int q.bare) → m "out" = some (.ref a) → m "plies" = some (.int (at_ tbl (idx b.s q))) →
      (∀ m' σ'' l, Line b tbl q l → Keep σ σ'' → σ''[a]? = some (.list ((acc ++ l).map keyV)) → m' "out" = some (.ref a) → Q .next m' σ'') →
      whileW (fun m σ Q => wpT C 18 X mlTest m σ Q) (fun m σ Q => wpSs C 18 X mlBody m σ Q) (n + 1) m σ' Q := by
  intro n
  induction n with
  | zero =>
    intro q acc m σ' hq hn hl hk hacc m1 m2 m3 m4 m5 m6 m7 m8 m9 hQ
    rw [whileW]
    refine ml_test m9 ?_
    rw [decide_eq_false (by omega)]
    exact hQ _ _ [] (.nil hq (by omega)) hk (by simpa using hacc) m8
  | succ n ih =>
    intro q acc m σ' hq hn hl hk hacc m1 m2 m3 m4 m5 m6 m7 m8 m9 hQ
    rw [whileW]
    refine ml_test m9 ?_
    have hpos : 0 < at_ tbl (idx b.s q) := by omega
    rw [decide_eq_true hpos]
    have hst := T.stand hq (by omega)
    have hne : ways b q ≠ [] := by
      intro h
      have hd := T.due q hq hst
      rw [h] at hd
      unfold IsDue at hd
      simp at hd
      split at hd
      · omega
      · split at hd <;> omega
    refine step fun K' hK' hR' hC' => ?_
    refine (ob_i m1 (ob_i m2 (ob_i m3 (ob_i m4 (ob_i m5 (ob_i m6 (ob_i m7 ?_)))))))
    refine SemCall.mono (s_best P o (hG.keep hk) (hT.keep hk) T.marks q hq) (fun v σ2 hp2 => ?_) fun _ h => h
    obtain ⟨hv, hk2⟩ := hp2
    obtain ⟨w, hw, rfl, hnext, _⟩ := best_way T hq hst hne hv
    have hnx := hnext hpos
    obtain ⟨q', hq'⟩ : ∃ q', w.2.2 = some q' := by
      cases h : w.2.2 with
      | none => rw [h] at hnx; simp only [wordOf] at hnx; omega
      | some q' => exact ⟨q', rfl⟩
    rw [hq'] at hnx
    simp only [wordOf] at hnx
    have hqin := ((ways_is hw).in_ hq hq').1
    have hacc2 := hk2 _ _ hacc
    refine (hK' _ _ (step fun K' hK' hR' hC' => ?_))
    refine (ob_i m8 ⟨isListV_at hacc2, ob_i (appendV_at hacc2 (by simp; omega)) (hK' _ _ (step fun K' hK' hR' hC' => ?_))⟩)
    have hset : (σ2.set a (.list (acc.map keyV ++ [.tup [.int w.1, .int w.2.1]])))[a]? = some (.list ((acc ++ [key w]).map keyV)) := by rw [set_at hacc2]; simp [keyV, key]
    have hk3 : Keep σ (σ2.set a (.list (acc.map keyV ++ [.tup [.int w.1, .int w.2.1]]))) := (hk.trans hk2).set ha _
    generalize (σ2.set a (.list (acc.map keyV ++ [.tup [.int w.1, .int w.2.1]]))) = σ3 at hset hk3 ⊢
    have rest : ∀ m' : Loc, (∀ y, y ≠ "strong" → y ≠ "piece" → y ≠ "weak" → m' y = upd (upd m "origin" (.int w.1)) "goal" (.int w.2.1) y) → m' "strong" = some (.int q'.king) → m' "piece" = some (.int q'.man) → m' "weak" = some (.int q'.bare) → q'.side = 1 - q.side → K' .next m' σ3 := by
      intro m' hm n5 n6 n7 hside
      have hsd := hq.side
      refine hK' _ _ (step fun K' hK' hR' hC' => ?_)
      refine (ob_i (by rw [hm _ (by decide) (by decide) (by decide)]; simp [upd]; exact m4) ?_)
      refine hK' _ _ (step fun K' hK' hR' hC' => ?_)
      refine (ob_i (by simp only [upd]; rw [if_neg (by decide), hm _ (by decide) (by decide) (by decide)]; simp [upd]; exact m9) ?_)
      refine hK' _ _ (done ?_)
      have hmm : ∀ y, y ≠ "strong" → y ≠ "piece" → y ≠ "weak" → y ≠ "side" → y ≠ "plies" → y ≠ "origin" → y ≠ "goal" → upd (upd m' "side" (.int (1 - q.side))) "plies" (.int (at_ tbl (idx b.s q) - 1)) y = m y := by
        intro y h1 h2 h3 h4 h5 h6 h7
        simp only [upd]
        rw [if_neg h5, if_neg h4, hm y h1 h2 h3]
        simp [upd, h6, h7]
      refine ih q' (acc ++ [key w]) (upd (upd m' "side" (.int (1 - q.side))) "plies" (.int (at_ tbl (idx b.s q) - 1))) σ3 hqin (by omega) (by simp; omega) hk3 hset (by rw [hmm _ (by decide) (by decide) (by decide) (by decide) (by decide) (by decide) (by decide)]; exact m1) (by rw [hmm _ (by decide) (by decide) (by decide) (by decide) (by decide) (by decide) (by decide)]; exact m2)
        (by rw [hmm _ (by decide) (by decide) (by decide) (by decide) (by decide) (by decide) (by decide)]; exact m3) (by simp [upd]; omega) (n5) (n6) (n7) (by rw [hmm _ (by decide) (by decide) (by decide) (by decide) (by decide) (by decide) (by decide)]; exact m8) (by simp [upd]; omega) ?_
      intro m'' σ'' l hline hk4 hs4 ho
      exact hQ m'' σ'' (key w :: l) (.cons hq hpos hw hq' hnx hline) hk4 (by simpa using hs4) ho
    obtain ⟨d1, d2, d3⟩ := stands_ne hst
    have hwi := ways_is hw
    generalize hww : w = ww at hwi
    cases hwi with
    | take g' _ _ _ => subst hww; cases hq'
    | weak g' h1 hg' hs' =>
      subst hww; cases hq'
      refine ob_i m5 (ite_f (decide_eq_false (by omega)) ?_)
      refine step fun K5 hK5 hR5 hC5 => ?_
      refine ob_i m6 (ite_f (decide_eq_false (by omega)) ?_)
      refine step fun K6 hK6 hR6 hC6 => ?_
      exact hK6 _ _ ((hK5 _ _ ((rest _ (fun y y1 y2 y3 => upd_ne y3) (m5) (m6) (rfl) (by simp [h1])))))
    | king g' h1 hg' hs' =>
      subst hww; cases hq'
      refine ob_i m5 (ite_t (decide_eq_true rfl) ?_)
      refine step fun K6 hK6 hR6 hC6 => ?_
      exact hK6 _ _ ((rest _ (fun y y1 y2 y3 => upd_ne y1) (rfl) (m6) (m7) (by have := hq.side; simp only; omega)))
    | man g' h1 hg' hs' =>
      subst hww; cases hq'
      refine ob_i m5 (ite_f (decide_eq_false (by omega)) ?_)
      refine step fun K5 hK5 hR5 hC5 => ?_
      refine ob_i m6 (ite_t (decide_eq_true rfl) ?_)
      refine step fun K6 hK6 hR6 hC6 => ?_
      exact hK6 _ _ ((hK5 _ _ ((rest _ (fun y y1 y2 y3 => upd_ne y2) (m5) (rfl) (m7) (by have := hq.side; simp only; omega)))))

theorem s_line {g t : Nat} {b : Bd} (o : b.Ok) (hG : GeoIs σ g b.G) {tbl : List Int} (hT : Tab b σ t tbl) (T : TblOk b tbl) (p : Pl) (hp : p.In b.s) :
    SemCall C 19 "mate_line" [.ref g, .ref t, .int b.kind, .int p.side, .int p.king, .int p.man, .int p.bare] σ (fun v σ' => ∃ a l, v = .ref a ∧ σ'[a]? = some (.list (l.map keyV)) ∧ Keep σ σ' ∧ Line b tbl p l) X := by
  refine P.call P.f_mate_line rfl ?_
  refine step fun K hK hR hC => ?_
  refine hK _ _ (step fun K hK hR hC => ?_)
  have k1 : Keep σ (σ ++ [.list []]) := Keep.snoc _ _
  refine SemCall.mono ((s_probe P o (hG.keep k1) (hT.keep k1) p hp).up (b := 17) (by decide)) (fun v σ2 hp2 => ?_) fun _ h => h
  obtain ⟨hv, hσ2⟩ := hp2
  subst hv
  have hh := T.high p hp
  have hc : tbl.length ≤ 3456 := by rw [hT.len]; exact o.cube
  refine hK _ _ (step fun K hK hR hC => ?_)
  refine ⟨_, ml_loop P o hG hT T σ.length (Nat.le_refl _) _ p [] _ σ2 hp rfl (by simp; omega) (by rw [hσ2]; exact k1) (by rw [hσ2]; simp) (rfl) (rfl) (rfl) (rfl) (rfl) (rfl) (rfl) (rfl) (rfl) ?_⟩
  intro m' σ'' l hline hk hs ho
  refine hK _ _ (step fun K hK hR hC => ?_)
  exact (ob_i ho (hR _ _ _ ⟨_, l, rfl, by simpa using hs, hk, hline⟩))
end
end Mine

end

section
open PySem
set_option linter.unusedVariables false
set_option linter.unusedSimpArgs false
set_option maxRecDepth 100000
set_option tactic.hygienic false
namespace Mine

theorem rng_items {n i : Nat} {v : V} (h : ((rngList 0 n 1).map V.int)[i]? = some v) : v = .int i ∧ i < n := by
  have e := rngList_up 0 n
  rw [show ((0 : Nat) : Int) = 0 from rfl] at e
  rw [e] at h
  simp only [List.getElem?_map] at h
  by_cases hi : i < n
  · rw [List.getElem?_range (by omega)] at h
    simp at h
    exact ⟨h.symm, hi⟩
  · rw [List.getElem?_eq_none (by simp; omega)] at h
    cases h
theorem rng_len (n : Nat) : ((rngList 0 n 1).map V.int).length = n := by
  have e := rngList_up 0 n
  rw [show ((0 : Nat) : Int) = 0 from rfl] at e
  rw [e]; simp

theorem map_getElem {α : Type} {l : List α} {f : α → V} {i : Nat} {v : V} (h : (l.map f)[i]? = some v) : ∃ a, l[i]? = some a ∧ v = f a ∧ l.take (i + 1) = l.take i ++ [a] := by
  rw [List.getElem?_map] at h
  cases ha : l[i]? with
  | none => rw [ha] at h; cases h
  | some a => rw [ha] at h; cases h; exact ⟨a, rfl, rfl, by rw [List.take_add_one, ha]; rfl⟩
theorem ways_len (b : Bd) (p : Pl) : (ways b p).length ≤ 2 * b.s := flat_len2 (f := fun g => wayAt b p g) (wayAt_len b p) b.s

theorem eq_nilv {σ : Store} {i j : Nat} {xs : List V} (h1 : σ[i]? = some (.list xs)) (h2 : σ[j]? = some (.list [])) : cmpV σ .Eq (.ref i) (.ref j) = some xs.isEmpty := by
  show (obd (listAt σ i) fun xs => obd (listAt σ j) fun ys => _) = _
  rw [listAt_of h1, listAt_of h2]; rfl

theorem key_eq {σ : Store} (x w : Way) : cmpV σ .Eq (.tup (List.take (Int.toNat 2) [.int x.1, .int x.2.1, plV x.2.2])) (.tup [.int w.1, .int w.2.1]) = some (decide (key x = key w)) := by
  refine congrArg some (decide_eq_decide.mpr ?_)
  simp only [List.cons.injEq, key, Prod.mk.injEq, and_true]; omega

section
variable {C : Ctx} (P : Prg C) {X : Store → Prop} {σ : Store}
include P

theorem s_right {g t z : Nat} {b : Bd} (o : b.Ok) (hG : GeoIs σ g b.G) {tbl : List Int} (hT : Tab b σ t tbl) (T : TblOk b tbl) (hB : BrdIs σ z b) (p : Pl) (hp : p.In b.s) :
    SemCall C 19 "_law_right" [.ref g, brdV b z, .ref t, p.v] σ (fun v σ' => v = .bool true ∧ Keep σ σ') X := by
  refine P.call P.f__law_right rfl ?_
  have hs12 : b.s ≤ 12 := o.s12
  refine step fun K hK hR hC => ?_
  refine (hK _ _ (step fun K hK hR hC => ?_))
  refine SemCall.mono ((s_word P o hG hT (some p) (fun q e => by cases e; exact hp)).up (b := 17) (by decide)) (fun v σ1 ⟨hv, hσ1⟩ => ?_) fun _ h => h
  subst hv hσ1
  refine hK _ _ (step fun K hK hR hC => ?_)
  refine SemCall.mono (s_best P o hG hT T.marks p hp) (fun heard σ2 ⟨hbest, k2⟩ => ?_) fun _ h => h
  refine hK _ _ (step fun K hK hR hC => ?_)
  refine SemCall.mono ((s_stands P o (hB.keep k2) p hp).up (b := 17) (by decide)) (fun v σ3 ⟨hv, k3⟩ => ?_) fun _ h => h
  subst hv
  have k13 := k2.trans k3
  refine ite_n (fun hst => ?_) fun hst => ?_
  · refine step fun K' hK' hR' hC' => ?_
    have hw : at_ tbl (idx b.s p) = -2 := (T.marks p hp).mpr hst
    have hb : heard = bm := by
      rcases hbest with ⟨_, h⟩ | ⟨h, _⟩
      · exact h
      · rw [hst] at h; cases h
    subst hb
    refine ite_t (decide_eq_true hw) ?_
    exact hR' _ _ _ (hR _ _ _ ⟨rfl, k13⟩)
  refine (hK _ _ (step fun K hK hR hC => ?_))
  refine SemCall.mono ((s_ways P o (hB.keep k13) p hp).up (b := 17) (by decide)) (fun v σ4 ⟨wa, hv, _, hwa, k4⟩ => ?_) fun _ h => h
  subst hv
  have k14 := k13.trans k4
  refine hK _ _ (step fun K hK hR hC => ?_)
  have wl := ways_len b p
  refine wpS_asg ?_
  refine wpE_comp (fun i acc σ' => σ' = σ4 ∧ acc = (((ways b p).take i).map fun w => wordOf b.s tbl w.2.2).map V.int) (.ref wa) ((ways b p).map wyV) (fun Q' h => by exact h) (listAt_of hwa) (by simp; omega) ⟨rfl, by simp⟩ ?_ ?_ ?_
  · rintro i acc σ' ⟨rfl, _⟩; exact listAt_of hwa
  · rintro i v acc m' σ' hv ⟨rfl, rfl⟩ hm hx K' hK'
    obtain ⟨w, hw, rfl, htk⟩ := map_getElem hv
    have hwm : w ∈ ways b p := List.mem_of_getElem? hw
    refine (ob_i (by rw [hm _ (by decide) (by decide)]; rfl) (ob_i (by rw [hm _ (by decide) (by decide)]; rfl) (ob_i (by rw [hm _ (by decide) (by decide)]; rfl) (ob_i hx ?_))))
    refine SemCall.mono ((s_word P o (hG.keep k14) (hT.keep k14) w.2.2 (fun q e => ((ways_is hwm).in_ hp e).1)).up (b := 17) (by decide)) (fun v σ5 ⟨hv, hσ5⟩ => ?_) fun _ h => h
    subst hv hσ5
    exact hK' _ _ ⟨rfl, by rw [htk]; simp⟩
  rintro acc σ' ⟨rfl, rfl⟩
  rw [List.length_map, List.take_length]
  generalize hws : (ways b p).map (fun w => wordOf b.s tbl w.2.2) = ws
  have wsl : ws.length = (ways b p).length := by rw [← hws]; simp
  have k5 : Keep σ' (σ' ++ [AObj.list (ws.map V.int)]) := Keep.snoc _ _
  have hws5 : (σ' ++ [AObj.list (ws.map V.int)])[σ'.length]? = some (.list (ws.map V.int)) := append_here _ _
  have k15 := k14.trans k5
  have hwa5 := k5 _ _ hwa
  generalize hs5 : σ' ++ [AObj.list (ws.map V.int)] = σ5 at k5 hws5 k15 hwa5 ⊢
  generalize hwd : at_ tbl (idx b.s p) = wd at *
  have hdue := T.due p hp hst
  rw [hws, hwd] at hdue
  refine hK _ _ (step fun K hK hR hC => ?_)
  refine SemCall.mono ((s_due P o p hp hws5 (by omega) hdue).up (b := 17) (by decide)) (fun v σ6 ⟨hv, k6⟩ => ?_) fun _ h => h
  subst hv
  have k16 := k15.trans k6
  have hws6 := k6 _ _ hws5
  have hwa6 := k6 _ _ hwa5
  refine ite_f (by rw [show wordOf b.s tbl (some p) = wd from hwd]; simp) ?_
  refine (hK _ _ (step fun K hK hR hC => ?_))
  have k7 : Keep σ6 (σ6 ++ [AObj.list []]) := Keep.snoc _ _
  have hwa7 := k7 _ _ hwa6
  have hws7 := k7 _ _ hws6
  have k17 := k16.trans k7
  have h07 : (σ6 ++ [AObj.list []])[σ6.length]? = some (.list []) := append_here _ _
  refine ob_i (eq_nilv hwa7 h07) ?_
  generalize hs7 : σ6 ++ [AObj.list []] = σ7 at k7 hwa7 hws7 k17 h07 ⊢
  refine ite_i (fun hne => ?_) fun hne => ?_
  · have hne : ways b p = [] := by simpa using hne
    refine step fun K' hK' hR' hC' => ?_
    have hb : heard = bm := by
      rcases hbest with ⟨_, h⟩ | ⟨_, w, hw, _⟩
      · exact h
      · rw [moves_ways, hne] at hw; cases hw
    subst hb
    exact hR' _ _ _ (hR _ _ _ ⟨rfl, k17⟩)
  have hne : ways b p ≠ [] := by simpa using hne
  refine (hK _ _ (step fun K hK hR hC => ?_))
  obtain ⟨w, hw, rfl, hb1, hb2⟩ := best_way T hp hst hne hbest
  rw [hwd] at hb1 hb2
  have hfl := filter_key (ways_pw hst) hw
  refine wpS_asg ?_
  refine wpE_comp (fun i acc σ' => σ' = σ7 ∧ acc = ((((ways b p).take i).filter fun x => decide (key x = key w)).map fun w => wordOf b.s tbl w.2.2).map V.int) (.rng 0 (ways b p).length 1) ((rngList 0 (ways b p).length 1).map V.int)
    (fun Q' h => by
      refine (wpB_len hwa7 (by simp; omega) ?_)
      rw [List.length_map]
      exact wpB_range (by omega) h) rfl (by rw [rng_len]; omega) ⟨rfl, by simp⟩ ?_ ?_ ?_
  · rintro i acc σ' ⟨rfl, _⟩; rfl
  · rintro i v acc m' σ' hv ⟨rfl, rfl⟩ hm hx K' hK'
    obtain ⟨rfl, hi⟩ := rng_items hv
    obtain ⟨x, hxx⟩ : ∃ x, (ways b p)[i]? = some x := ⟨_, List.getElem?_eq_getElem hi⟩
    have htk : (ways b p).take (i + 1) = (ways b p).take i ++ [x] := by rw [List.take_add_one, hxx]; rfl
    have hwi : ws[i]? = some (wordOf b.s tbl x.2.2) := by rw [← hws, List.getElem?_map, hxx]; rfl
    refine (ob_i (by rw [hm _ (by decide) (by decide)]; rfl) (ob_i hx ?_))
    refine item_get (x := wyV x) hwa7 (by rw [List.getElem?_map, hxx]; rfl) (by omega) ?_
    refine ⟨(by decide : (2 : Int) < 3), (by decide : 3 < 1000000), ob_i ((hm "heard" (by decide) (by decide)).trans rfl) ?_⟩
    refine ob_i (key_eq x w) ?_
    refine ite_e (fun hkk => ?_) fun hkk => ?_
    · exact hK' _ _ ⟨rfl, by rw [htk]; simp [List.filter_append, hkk]⟩
    · refine (ob_i (by rw [hm _ (by decide) (by decide)]; rfl) (ob_i hx ?_))
      refine item_get (x := .int (wordOf b.s tbl x.2.2)) hws7 (by rw [List.getElem?_map, hwi]; rfl) (by omega) ?_
      exact hK' _ _ ⟨rfl, by rw [htk]; simp [List.filter_append, hkk]⟩
  rintro acc σ' ⟨rfl, rfl⟩
  rw [rng_len, List.take_length, hfl]
  simp only [List.map_cons, List.map_nil]
  generalize hww : wordOf b.s tbl w.2.2 = ww at *
  have h8 : (σ' ++ [AObj.list [.int ww]])[σ'.length]? = some (.list [.int ww]) := append_here _ _
  have k18 := k17.trans (Keep.snoc σ' (AObj.list [.int ww]))
  generalize hs8 : σ' ++ [AObj.list [.int ww]] = σ8 at h8 k18 ⊢
  refine hK _ _ (step fun K hK hR hC => ?_)
  refine (wpB_len h8 (by simp) ?_)
  refine (hK _ _ (step fun K hK hR hC => ?_))
  have h80 : ∀ {Q : V → Prop}, Q (.int ww) → wpItem (.ref σ'.length) (.int 0) σ8 Q := fun hq => item_get (k := 0) h8 rfl (by decide) hq
  refine (ite_i (fun hpos => ?_) fun hpos => ?_)
  · exact h80 (hR _ _ _ ⟨congrArg V.bool (decide_eq_true (by rw [show wordOf b.s tbl (some p) = wd from hwd]; exact hb1 (by rw [← hwd]; exact of_decide_eq_true hpos))), k18⟩)
  · have hpos : ¬ 0 < wd := fun h => of_decide_eq_false hpos (by rw [show wordOf b.s tbl (some p) = wd from hwd]; exact h)
    refine hK _ _ (ite_i (fun h0 => ⟨by rw [h0], k18⟩) fun h0 => ?_)
    have h0 := cast_f (b := 0) h0
    refine h80 ⟨congrArg V.bool (decide_eq_true ?_), k18⟩
    rcases hb2 (by omega) with h | h
    · exact absurd h h0
    · exact h
end
end Mine

end

section
open PySem
set_option linter.unusedVariables false
set_option linter.unusedSimpArgs false
set_option maxRecDepth 100000
set_option tactic.hygienic false
namespace Mine

theorem comp_turns {C : Ctx} {n : Nat} {elt : E} {x : String} {conds : List E} {m : Loc} {σ : Store} {Q : List V → Store → Prop}
    (I : Nat → List V → Store → Prop) (sv : V) (items : List V)
    (h0 : I 0 [] σ)
    (hsrc : ∀ i acc σ, I i acc σ → srcItems σ sv = some items)
    (hstep : ∀ i v acc m' σ, items[i]? = some v → I i acc σ → (∀ y, y ≠ x → y ≠ ".0" → m' y = m y) → m' x = some v → ∀ K : List V → Store → Prop, (∀ acc' σ', I (i + 1) acc' σ' → K acc' σ') →
      wpCs C n (fun _ => False) conds m' σ fun b σ₁ => if b then wpE C n (fun _ => False) elt m' σ₁ fun y σ₂ => K (acc ++ [y]) σ₂ else K acc σ₁)
    (hend : ∀ acc σ, I items.length acc σ → Q acc σ) :
    compW sv items x (fun m σ Q => wpCs C n (fun _ => False) conds m σ Q) (fun m σ Q => wpE C n (fun _ => False) elt m σ Q) items [] (clr (clr m x) ".0") σ Q := by
  refine compW_inv (m₀ := clr (clr m x) ".0") I hsrc (fun i v acc m' σ' hv hI hm hx K hK => hstep i v acc m' σ' hv hI (fun y h1 h2 => ?_) hx K hK) hend _ 0 [] _ σ rfl (Nat.zero_le _) (fun y _ => rfl) h0
  rw [hm y h1]; simp [clr, h1, h2]

theorem due_zero {b : Bd} {tbl : List Int} (T : TblOk b tbl) {q : Pl} (hq : q.In b.s) (h : at_ tbl (idx b.s q) = 0) : q.side = 1 ∧ ways b q = [] ∧ stands b ⟨0, q.king, q.man, q.bare⟩ = false := by
  have hst := T.stand hq (by omega)
  have hd := T.due q hq hst
  rw [h] at hd
  unfold IsDue at hd
  by_cases h0 : q.side = 0
  · rw [if_pos h0] at hd
    rcases hd with ⟨_, e⟩ | ⟨M, _, _, _, e⟩ <;> omega
  · rw [if_neg h0] at hd
    have := hq.side
    by_cases hw : (ways b q).map (fun w => wordOf b.s tbl w.2.2) = []
    · rw [if_pos hw] at hd
      have hstr : b.str q.man q.bare [(q.king : Int)] = true := by
        cases hs : b.str q.man q.bare [(q.king : Int)]
        · rw [hs] at hd; simp at hd
        · rfl
      refine ⟨by omega, by simpa using hw, ?_⟩
      unfold stands
      simp [hstr]
    · rw [if_neg hw] at hd
      rcases hd with ⟨hall, M, hM, _, e⟩ | ⟨_, e⟩
      · have := hall M hM; omega
      · omega

section
variable {C : Ctx} (P : Prg C) {X : Store → Prop} {σ : Store}
include P

theorem s_line_right {g t z : Nat} {b : Bd} (o : b.Ok) (hG : GeoIs σ g b.G) {tbl : List Int} (hT : Tab b σ t tbl) (T : TblOk b tbl) (hB : BrdIs σ z b) (p : Pl) (hp : p.In b.s) :
    SemCall C 21 "_law_line_right" [.ref g, brdV b z, .ref t, p.v] σ (fun v σ' => v = .bool true ∧ Keep σ σ') X := by
  refine P.call P.f__law_line_right rfl ?_
  have hs12 : b.s ≤ 12 := o.s12
  refine step fun K hK hR hC => ?_
  refine SemCall.mono ((s_word P o hG hT (some p) (fun q e => by cases e; exact hp)).up (b := 19) (by decide)) (fun v σ1 ⟨hv, hσ1⟩ => ?_) fun _ h => h
  subst hv hσ1
  refine hK _ _ (step fun K hK hR hC => ?_)
  refine SemCall.mono (s_line P o hG hT T p hp) (fun v σ2 ⟨pa, l, hv, hpa, k2, hline⟩ => ?_) fun _ h => h
  subst hv
  have hll := hline.len
  have hh := T.high p hp
  have hc : tbl.length ≤ 3456 := by rw [hT.len]; exact o.cube
  have hl4 : l.length < 4000 := by omega
  refine hK _ _ (step fun K hK hR hC => ?_)
  refine (wpB_len hpa (by simp; omega) ?_)
  refine WB.max2 ?_
  refine ite_f (by rw [List.length_map, hll]; simp [wordOf]) ?_
  refine (hK _ _ (step fun K hK hR hC => ?_))
  refine ob_i (listAt_of hpa) ?_
  refine forW_inv (fun i m σ' => Keep σ1 σ' ∧ σ'[pa]? = some (.list (l.map keyV)) ∧ m "geo" = some (.ref g) ∧ m "board" = some (brdV b z) ∧ m "table" = some (.ref t) ∧ m "played" = some (.ref pa) ∧
      ∃ q, m "place" = some q.v ∧ m "word" = some (.int (at_ tbl (idx b.s q))) ∧ Line b tbl q (l.drop i) ∧ (0 < i → 0 ≤ at_ tbl (idx b.s q))) ?_ ?_ ?_ _ 0 _ _ rfl (Nat.zero_le _)
    ⟨k2, hpa, rfl, rfl, rfl, rfl, p, rfl, rfl, hline, fun h => by omega⟩
  · rintro i m σ' ⟨_, h, _⟩; exact listAt_of h
  · rintro i v m σ' hv ⟨ks, hpa', m1, m2, m3, m4, q, m5, m6, hln, _⟩ K k1 k2 k3
    obtain ⟨kk, hkk, rfl, _⟩ := map_getElem hv
    have hlt : i < l.length := (List.getElem?_eq_some_iff.mp hkk).1
    have hdrop : l.drop i = kk :: l.drop (i + 1) := by
      rw [List.drop_eq_getElem_cons hlt]
      congr 1
      exact (List.getElem?_eq_some_iff.mp hkk).2
    rw [hdrop] at hln
    have hq := hln.in_
    cases hln with
    | @cons _ q' w _ _ hpos hw hwq hnx hl2 =>
    have hst := T.stand hq (by omega)
    have hq' := hl2.in_
    refine step fun K' hK' hR' hC' => ?_
    have hcall : ∀ (m' : Loc) (Q' : V → Store → Prop), m' "board" = some (brdV b z) → m' "place" = some q.v → (∀ wa σ3, σ3[wa]? = some (.list ((ways b q).map wyV)) → Keep σ' σ3 → Q' (.ref wa) σ3) → wpE C 20 X (.call (.glob "_law_ways") [.loc "board", .loc "place"]) m' σ' Q' := by
      intro m' Q' h1 h2 h3
      refine (ob_i h1 (ob_i h2 ?_))
      refine SemCall.mono ((s_ways P o (hB.keep ks) q hq).up (b := 19) (by decide)) (fun v σ3 ⟨wa, hv, _, hwa, kw⟩ => ?_) fun _ h => h
      subst hv
      exact h3 _ _ hwa kw
    refine hcall _ _ (m2) (m5) fun wa σ3 hwa kw => ?_
    have ks3 := ks.trans kw
    have hpa3 := kw _ _ hpa'
    have wl := ways_len b q
    refine ob_i (listAt_of hwa) ⟨by simp; omega, ?_⟩
    refine comp_turns (fun i acc σ' => σ' = σ3 ∧ acc = (((ways b q).take i).filter fun x => decide (key x = key w)).map fun w => plV w.2.2) (.ref wa) ((ways b q).map wyV) ⟨rfl, by simp⟩ ?_ ?_ ?_
    · rintro i acc σ' ⟨rfl, _⟩; exact listAt_of hwa
    · rintro i v acc m' σ' hv ⟨rfl, rfl⟩ hm hx K4 hK4
      obtain ⟨x, hx', rfl, htk⟩ := map_getElem hv
      refine (ob_i hx ?_)
      refine ⟨(by decide : (2 : Int) < 3), (by decide : 3 < 1000000), ob_i ((hm "turn" (by decide) (by decide)).trans rfl) ?_⟩
      refine ob_i (key_eq x w) ?_
      refine ite_e (fun hkk => ?_) fun hkk => ?_
      · exact hK4 _ _ ⟨rfl, by rw [htk]; simp [List.filter_append, hkk]⟩
      · refine (ob_i hx ?_)
        exact hK4 _ _ ⟨rfl, by rw [htk]; simp [List.filter_append, hkk]⟩
    rintro acc σ' ⟨rfl, rfl⟩
    rw [List.length_map, List.take_length, filter_key (ways_pw hst) hw]
    simp only [List.map_cons, List.map_nil, hwq, plV]
    have h8 : (σ' ++ [AObj.list [q'.v]])[σ'.length]? = some (.list [q'.v]) := append_here _ _
    have ks8 := ks3.trans (Keep.snoc σ' (AObj.list [q'.v]))
    have hpa8 := (Keep.snoc σ' (AObj.list [q'.v])) _ _ hpa3
    generalize hs8 : σ' ++ [AObj.list [q'.v]] = σ8 at h8 ks8 hpa8 ⊢
    generalize hln8 : σ'.length = n8 at h8 ⊢
    have h80 : ∀ Q : V → Prop, Q q'.v → wpItem (.ref n8) (.int 0) σ8 Q := fun Q hq => item_get (k := 0) h8 rfl (by decide) hq
    refine hK' _ _ (step fun K' hK' hR' hC' => ?_)
    refine (wpB_len h8 (by simp) ?_)
    refine (h80 _ ?_)
    refine (ob_i m1 (ob_i m2 (ob_i m3 (h80 _ ?_))))
    refine SemCall.mono ((s_word P o (hG.keep ks8) (hT.keep ks8) (some q') (fun q e => by cases e; exact hq')).up (b := 19) (by decide)) (fun v σ9 ⟨hv, hσ9⟩ => ?_) fun _ h => h
    subst hv hσ9
    refine (ob_i m6 ?_)
    refine ite_f (by rw [show wordOf b.s tbl (some q') = at_ tbl (idx b.s q) - 1 from hnx]; simp) ?_
    refine (hK' _ _ (step fun K' hK' hR' hC' => ?_))
    refine (h80 _ (ob_i m6 ?_))
    refine (hK' _ _ (step fun K' hK' hR' hC' => ?_))
    refine (ob_i m1 (ob_i m2 (ob_i m3 ?_)))
    refine SemCall.mono (s_right P o (hG.keep ks8) (hT.keep ks8) T (hB.keep ks8) q' hq') (fun v σ10 ⟨hv, k10⟩ => ?_) fun _ h => h
    subst hv
    refine (hK' _ _ ((k1 _ _ ⟨ks8.trans k10, k10 _ _ hpa8, m1, m2, m3, m4, q', rfl, by simp [upd, hnx], hl2, fun _ => by omega⟩)))
  · rintro m σ' ⟨ks, hpa', m1, m2, m3, m4, q, m5, m6, hln, hge⟩
    rw [List.length_map] at hge hln
    have hq := hln.in_
    rw [List.drop_length] at hln
    have hle : at_ tbl (idx b.s q) ≤ 0 := by cases hln; assumption
    have hpa3 := (Keep.snoc σ' (AObj.list [])) _ _ hpa'
    have ks3 := ks.trans (Keep.snoc σ' (AObj.list []))
    have h07 : (σ' ++ [AObj.list []])[σ'.length]? = some (.list []) := append_here _ _
    refine hK _ _ (step fun K hK hR hC => (ob_i m4 (ob_i (eq_nilv hpa3 h07) (ite_i (fun hl0 => hR _ _ _ ⟨rfl, ks3⟩) fun hl0 => ?_))))
    have hpos : 0 < l.length := by
      cases l with
      | nil => cases hl0
      | cons _ _ => exact Nat.succ_pos _
    have h0 : at_ tbl (idx b.s q) = 0 := by have := hge hpos; omega
    obtain ⟨e1, e2, e3⟩ := due_zero T hq h0
    refine hK _ _ (ob_i m5 (ite_t (decide_eq_true (by rw [e1]; rfl)) ?_))
    refine (ob_i m2 (ob_i m5 (SemCall.mono ((s_ways P o (hB.keep ks3) q hq).up (b := 19) (by decide)) (fun v σ8 ⟨wa, hv, _, hwa, kw⟩ => ?_) fun _ h => h)))
    subst hv
    rw [e2] at hwa
    have hwa9 := (Keep.snoc σ8 (AObj.list [])) _ _ hwa
    have h9 : (σ8 ++ [AObj.list []])[σ8.length]? = some (.list []) := append_here _ _
    have ks9 := (ks3.trans kw).trans (Keep.snoc σ8 (AObj.list []))
    have hin : (⟨0, q.king, q.man, q.bare⟩ : Pl).In b.s := ⟨(show 0 < 2 by decide), hq.king, hq.man, hq.bare⟩
    refine ob_i (eq_nilv hwa9 h9) (ob_i (a := true) rfl ?_)
    refine (ob_i m2 (ob_i m5 (ob_i m5 (ob_i m5 (SemCall.mono ((s_stands P o (hB.keep ks9) ⟨0, q.king, q.man, q.bare⟩ hin).up (b := 19) (by decide)) (fun v σ10 ⟨hv, k10⟩ => ?_) fun _ h => h)))))
    subst hv
    rw [e3]
    exact ⟨rfl, ks9.trans k10⟩
end
end Mine

end

section
open PySem
set_option linter.unusedVariables false
set_option linter.unusedSimpArgs false
set_option maxRecDepth 100000
set_option tactic.hygienic false
namespace Mine

section
variable {C : Ctx} (P : Prg C) {X : Store → Prop} {σ : Store}
include P

theorem bad_probe {g t : Nat} {G : GeoD} (ok : G.Ok) (hG : GeoIs σ g G) {tbl : List Int} (hT : σ[t]? = some (.list (tbl.map V.int))) (hl : tbl.length < 1000000) {kind side a c d : Int} (hb : ¬ Good (G.files * G.ranks) tbl.length kind side a c d) (hX : ∀ σ', Keep σ σ' → X σ') :
    SemCall C 3 "probe" [.ref g, .ref t, .int kind, .int side, .int a, .int c, .int d] σ (fun _ _ => False) X :=
  s_probe_gen P ok hG hT hl _ _ _ _ _ (fun h => absurd h hb) fun _ => hX _ (Keep.refl _)
theorem bad_best {g t : Nat} {G : GeoD} (ok : G.Ok) (hG : GeoIs σ g G) {tbl : List Int} (hT : σ[t]? = some (.list (tbl.map V.int))) (hl : tbl.length < 1000000) {kind side a c d : Int} (hb : ¬ Good (G.files * G.ranks) tbl.length kind side a c d) (hX : ∀ σ', Keep σ σ' → X σ') :
    SemCall C 5 "best_move" [.ref g, .ref t, .int kind, .int side, .int a, .int c, .int d] σ (fun _ _ => False) X := by
  refine P.call P.f_best_move rfl ?_
  refine step fun K hK hR hC => (hK _ _ (step fun K hK hR hC => ?_))
  exact SemCall.mono (bad_probe P ok hG hT hl hb hX) (fun v σ2 h => h.elim) fun _ h => h
theorem bad_line {g t : Nat} {G : GeoD} (ok : G.Ok) (hG : GeoIs σ g G) {tbl : List Int} (hT : σ[t]? = some (.list (tbl.map V.int))) (hl : tbl.length < 1000000) {kind side a c d : Int} (hb : ¬ Good (G.files * G.ranks) tbl.length kind side a c d) (hX : ∀ σ', Keep σ σ' → X σ') :
    SemCall C 5 "mate_line" [.ref g, .ref t, .int kind, .int side, .int a, .int c, .int d] σ (fun _ _ => False) X := by
  refine P.call P.f_mate_line rfl ?_
  refine step fun K hK hR hC => ?_
  refine hK _ _ (step fun K hK hR hC => ?_)
  have k1 : Keep σ (σ ++ [.list []]) := Keep.snoc _ _
  exact SemCall.mono (bad_probe P ok (hG.keep k1) (k1 _ _ hT) hl hb fun σ' h => hX _ (k1.trans h)) (fun v σ2 h => h.elim) fun _ h => h

/-- what is asked of the three: a table, and five numbers that can't be -/
noncomputable def BadAsk (b : Bd) (σ : Store) (v : V) : Prop :=
  ∃ (t' : Nat) (tbl' : List Int) (kind side a c d : Int), v = .tup [.ref t', .int kind, .int side, .int a, .int c, .int d] ∧ σ[t']? = some (.list (tbl'.map V.int)) ∧ tbl'.length < 1000000 ∧ ¬ Good b.s tbl'.length kind side a c d

theorem refused_tail {g : Nat} {b : Bd} (o : b.Ok) (hG : GeoIs σ g b.G) {m : Loc} {v : V} (hv : BadAsk b σ v) (m1 : m "geo" = some (.ref g)) (m2 : m "asked" = some v) {Q : Fl → Loc → Store → Prop} (hQ : ∀ m σ', Keep σ σ' → Q (.ret (.bool true)) m σ') :
    wpSs C 20 X (b__law_refused.drop 2) m σ Q := by
  obtain ⟨t', tbl', kind, side, a, c, d, rfl, hT, hl, hb⟩ := hv
  simp only [b__law_refused, List.drop]
  refine step fun K hK hR hC => ?_
  refine forW_inv (fun i m σ' => Keep σ σ' ∧ m "geo" = some (.ref g) ∧ m "asked" = some (.tup [.ref t', .int kind, .int side, .int a, .int c, .int d])) ?_ ?_ ?_ _ 0 _ _ rfl (Nat.zero_le _) ⟨Keep.refl _, m1, m2⟩
  · intros; rfl
  · rintro i w m σ' hw ⟨ks, n1, n2⟩ K k1 k2 k3
    refine step fun K' hK' hR' hC' => ?_
    refine ob_i n1 (ob_i n2 ?_)
    refine (ob_i n2 ?_)
    refine (ob_i n2 ?_)
    refine (ob_i n2 ?_)
    refine (ob_i n2 ?_)
    refine (ob_i n2 ?_)
    have fin : ∀ σ3, Keep σ' σ3 → K' .next (upd m "work" w) σ3 := fun σ3 k3 => hK' _ _ ((k1 _ _ ⟨ks.trans k3, n1, n2⟩))
    have hw' := List.mem_of_getElem? hw
    simp only [List.mem_cons, List.not_mem_nil, or_false] at hw'
    rcases hw' with rfl | rfl | rfl
    · exact SemCall.mono ((bad_probe P o.geo (hG.keep ks) (ks _ _ hT) hl hb fin).up (b := 19) (by decide)) (fun v σ2 h => h.elim) fun _ h => h
    · exact SemCall.mono ((bad_best P o.geo (hG.keep ks) (ks _ _ hT) hl hb fin).up (b := 19) (by decide)) (fun v σ2 h => h.elim) fun _ h => h
    · exact SemCall.mono ((bad_line P o.geo (hG.keep ks) (ks _ _ hT) hl hb fin).up (b := 19) (by decide)) (fun v σ2 h => h.elim) fun _ h => h
  · rintro m σ' ⟨ks, _, _⟩
    refine hK _ _ (step fun K hK hR hC => ?_)
    exact hR _ _ _ (hQ _ _ ks)

omit P in
theorem wpEs_c {n : Nat} {e : E} {r : List E} {m : Loc} {Q : List V → Store → Prop} (h : wpE C n X e m σ fun v σ₁ => wpEs C n X r m σ₁ fun vs σ₂ => Q (v :: vs) σ₂) : wpEs C n X (e :: r) m σ Q := h
omit P in
theorem wpE_sub {n : Nat} {a i : E} {m : Loc} {Q : V → Store → Prop} (h : wpE C n X a m σ fun va σ₁ => wpE C n X i m σ₁ fun vi σ₂ => wpItem va vi σ₂ fun y => Q y σ₂) : wpE C n X (.sub a i) m σ Q := h
omit P in
theorem wpE_lst {n : Nat} {es : List E} {m : Loc} {Q : V → Store → Prop} (h : wpEs C n X es m σ fun vs σ₁ => Q (.ref σ₁.length) (σ₁ ++ [.list vs])) : wpE C n X (.lst es) m σ Q := h

theorem s_refused {g t z : Nat} {b : Bd} (o : b.Ok) (hG : GeoIs σ g b.G) {tbl : List Int} (hT : Tab b σ t tbl) (n : Int) :
    SemCall C 21 "_law_refused" [.ref g, brdV b z, .ref t, .int n] σ (fun v σ' => v = .bool true ∧ Keep σ σ') X := by
  refine P.call P.f__law_refused rfl ?_
  have hl : tbl.length < 100000 := by rw [hT.len]; have := o.cube; omega
  refine step fun K hK hR hC => ?_
  refine (hK _ _ ?_)
  clear hK hR hC
  have main : ∀ (m : Loc) (Q : Fl → Loc → Store → Prop), m "geo" = some (.ref g) → m "table" = some (.ref t) → m "size" = some (.int b.s) → m "kind" = some (.int b.kind) → m "n" = some (.int n) → (∀ m σ', Keep σ σ' → Q (.ret (.bool true)) m σ') →
      wpSs C 20 X (b__law_refused.drop 1) m σ Q := by
    intro m Q m1 m2 m3 m4 m5 hQ
    simp only [b__law_refused, List.drop]
    refine step fun K hK hR hC => ?_
    have T1 : ∀ (σ : Store) (Q : V → Store → Prop), Q (.tup [.ref t, .int 1, .int 0, .int 0, .int 1, .int (b.s - 1)]) σ → wpE C 20 X (.tup [(.loc "table"), (.cint 1), (.cint 0), (.cint 0), (.cint 1), (.bin .Sub (.loc "size") (.cint 1))]) m σ Q := by
      intro σ Q h; exact (ob_i m2 (ob_i m3 h))
    have T2 : ∀ (σ : Store) (Q : V → Store → Prop), Q (.tup [.ref t, .int 6, .int 1, .int 0, .int 1, .int (b.s - 1)]) σ → wpE C 20 X (.tup [(.loc "table"), (.cint 6), (.cint 1), (.cint 0), (.cint 1), (.bin .Sub (.loc "size") (.cint 1))]) m σ Q := by
      intro σ Q h; exact (ob_i m2 (ob_i m3 h))
    have T3 : ∀ (σ : Store) (Q : V → Store → Prop), Q (.tup [.ref t, .int b.kind, .int 2, .int 0, .int 1, .int 2]) σ → wpE C 20 X (.tup [(.loc "table"), (.loc "kind"), (.cint 2), (.cint 0), (.cint 1), (.cint 2)]) m σ Q := by
      intro σ Q h; exact (ob_i m2 (ob_i m4 h))
    have T4 : ∀ (σ : Store) (Q : V → Store → Prop), Q (.tup [.ref t, .int b.kind, .int (-1), .int 0, .int 1, .int 2]) σ → wpE C 20 X (.tup [(.loc "table"), (.loc "kind"), (.neg (.cint 1)), (.cint 0), (.cint 1), (.cint 2)]) m σ Q := by
      intro σ Q h; exact (ob_i m2 (ob_i m4 h))
    have T5 : ∀ (σ : Store) (Q : V → Store → Prop), Q (.tup [.ref t, .int b.kind, .int 0, .int b.s, .int 1, .int 2]) σ → wpE C 20 X (.tup [(.loc "table"), (.loc "kind"), (.cint 0), (.loc "size"), (.cint 1), (.cint 2)]) m σ Q := by
      intro σ Q h; exact (ob_i m2 (ob_i m4 (ob_i m3 h)))
    have T6 : ∀ (σ : Store) (Q : V → Store → Prop), Q (.tup [.ref t, .int b.kind, .int 1, .int 0, .int (-1), .int 2]) σ → wpE C 20 X (.tup [(.loc "table"), (.loc "kind"), (.cint 1), (.cint 0), (.neg (.cint 1)), (.cint 2)]) m σ Q := by
      intro σ Q h; exact (ob_i m2 (ob_i m4 h))
    have T7 : ∀ (σ : Store) (Q : V → Store → Prop), Q (.tup [.ref t, .int b.kind, .int 0, .int 0, .int 1, .int (b.s + n % 3)]) σ → wpE C 20 X (.tup [(.loc "table"), (.loc "kind"), (.cint 0), (.cint 0), (.cint 1), (.bin .Add (.loc "size") (.bin .Mod (.loc "n") (.cint 3)))]) m σ Q := by
      intro σ Q h; exact (ob_i m2 (ob_i m4 (ob_i m3 (ob_i m5 ⟨⟨by decide, by decide⟩, h⟩))))
    have T8 : ∀ (Q : V → Store → Prop), Q (.tup [.ref (σ ++ [AObj.list [.int 0]]).length, .int b.kind, .int 0, .int 0, .int 1, .int (b.s - 1)]) ((σ ++ [AObj.list [.int 0]]) ++ [AObj.list (tbl.map V.int ++ [.int 0])]) →
        wpE C 20 X (.tup [(.bin .Add (.loc "table") (.lst [(.cint 0)])), (.loc "kind"), (.cint 0), (.cint 0), (.cint 1), (.bin .Sub (.loc "size") (.cint 1))]) m σ Q := by
      intro Q h
      refine (ob_i m2 ?_)
      refine ob_i (listAt_of ((Keep.snoc σ _) _ _ hT.here)) (ob_i (listAt_of (append_here _ _)) ⟨by simp; omega, ?_⟩)
      exact (ob_i m4 (ob_i m3 h))
    refine wpS_asg (wpE_sub (wpE_lst (wpEs_c (T1 _ _ (wpEs_c (T2 _ _ (wpEs_c (T3 _ _ (wpEs_c (T4 _ _ (wpEs_c (T5 _ _ (wpEs_c (T6 _ _ (wpEs_c (T7 _ _ (wpEs_c (T8 _ ?_))))))))))))))))))
    have k2 : Keep σ ((σ ++ [AObj.list [.int 0]]) ++ [AObj.list (tbl.map V.int ++ [.int 0])]) := (Keep.snoc _ _).trans (Keep.snoc _ _)
    have h2 : ((σ ++ [AObj.list [.int 0]]) ++ [AObj.list (tbl.map V.int ++ [.int 0])])[(σ ++ [AObj.list [.int 0]]).length]? = some (.list ((tbl ++ [0]).map V.int)) := by rw [append_here]; simp
    generalize ((σ ++ [AObj.list [.int 0]]) ++ [AObj.list (tbl.map V.int ++ [.int 0])]) = σ2 at k2 h2 ⊢
    generalize (σ ++ [AObj.list [.int 0]]).length = n2 at h2 ⊢
    refine (ob_i m5 ⟨⟨by decide, by decide⟩, ?_⟩)
    have hn0 : 0 ≤ n % 8 := Int.emod_nonneg _ (by decide)
    have hn8 : n % 8 < 8 := Int.emod_lt_of_pos _ (by decide)
    generalize hk8 : n % 8 = k at hn0 hn8 ⊢
    obtain ⟨j, rfl⟩ := Int.eq_ofNat_of_zero_le hn0
    have hj : j < 8 := by omega
    have h3 := fun xs : List V => append_here σ2 xs
    have hs := o.s12
    have fin : ∀ (xs : List V) (v : V), xs[j]? = some v → BadAsk b (σ2 ++ [.list xs]) v → wpItem (.ref σ2.length) (.int j) (σ2 ++ [.list xs]) fun y => wpAssign C 20 X (.name "asked") y m (σ2 ++ [.list xs]) fun m' σ₂ => K .next m' σ₂ := by
      intro xs v hv hbad
      refine item_get (h3 xs) hv (by omega) ?_
      have ks := k2.trans (Keep.snoc σ2 (AObj.list xs))
      exact hK _ _ (refused_tail P o (hG.keep ks) (m := upd m "asked" v) hbad m1 upd_same fun m' σ' k => hQ _ _ (ks.trans k))
    have kt : ∀ xs : List V, (σ2 ++ [AObj.list xs])[t]? = some (.list (tbl.map V.int)) := fun xs => (Keep.snoc σ2 _) _ _ (k2 _ _ hT.here)
    have kt2 : ∀ xs : List V, (σ2 ++ [AObj.list xs])[n2]? = some (.list ((tbl ++ [0]).map V.int)) := fun xs => (Keep.snoc σ2 _) _ _ h2
    have hl' : tbl.length < 1000000 := by omega
    have h3' : 0 ≤ n % 3 := Int.emod_nonneg _ (by decide)
    have cases8 : j = 0 ∨ j = 1 ∨ j = 2 ∨ j = 3 ∨ j = 4 ∨ j = 5 ∨ j = 6 ∨ j = 7 := by omega
    rcases cases8 with rfl | rfl | rfl | rfl | rfl | rfl | rfl | rfl
    · exact fin _ _ rfl ⟨t, tbl, _, _, _, _, _, rfl, kt _, hl', fun h => by have := h.kind; omega⟩
    · exact fin _ _ rfl ⟨t, tbl, _, _, _, _, _, rfl, kt _, hl', fun h => by have := h.kind; omega⟩
    · exact fin _ _ rfl ⟨t, tbl, _, _, _, _, _, rfl, kt _, hl', fun h => by have := h.side; omega⟩
    · exact fin _ _ rfl ⟨t, tbl, _, _, _, _, _, rfl, kt _, hl', fun h => by have := h.side; omega⟩
    · exact fin _ _ rfl ⟨t, tbl, _, _, _, _, _, rfl, kt _, hl', fun h => by have := h.a; omega⟩
    · exact fin _ _ rfl ⟨t, tbl, _, _, _, _, _, rfl, kt _, hl', fun h => by have := h.c; omega⟩
    · exact fin _ _ rfl ⟨t, tbl, _, _, _, _, _, rfl, kt _, hl', fun h => by have := h.d; omega⟩
    · exact fin _ _ rfl ⟨n2, tbl ++ [0], _, _, _, _, _, rfl, kt2 _, by simp; omega, fun h => by have := h.len; have := hT.len; simp at *; omega⟩
  exact main _ _ (rfl) (rfl) (rfl) (rfl) (rfl) fun m σ' k => ⟨rfl, k⟩
end
end Mine

end

section
open PySem
set_option linter.unusedVariables false
set_option linter.unusedSimpArgs false
set_option maxRecDepth 100000
set_option tactic.hygienic false
namespace Mine

/-- the word of an entry -/
noncomputable def wv (vals : List Int) (k : Int) : Int := if k < 0 then -1 else at_ vals k.toNat
noncomputable def bef (after : Nat → List Int) (m : Nat) : Nat → List Nat
  | 0 => []
  | N + 1 => bef after m N ++ ((after N).filter fun k => decide (k = (m : Int))).map fun _ => N
noncomputable def inD (D : List Nat) (k : Int) : Bool := decide (0 ≤ k ∧ k.toNat ∈ D)

theorem at_set {l : List Int} {n : Nat} {x : Int} (h : n < l.length) (k : Nat) : at_ (l.set n x) k = if k = n then x else at_ l k := by
  unfold at_
  split
  · rename_i e; subst e; simp [h]
  · rename_i e; rw [List.getElem?_set_ne (fun h => e h.symm)]

theorem count_const {n N : Nat} (l : List Int) : List.count n (l.map fun _ => N) = if n = N then l.length else 0 := by
  induction l with
  | nil => simp
  | cons a r ih =>
    rw [List.map_cons, List.count_cons, ih]
    by_cases h : n = N
    · simp [h]
    · have : ¬ N = n := fun e => h e.symm
      simp [h, this]
theorem count_bef {after : Nat → List Int} {m n : Nat} : ∀ N, List.count n (bef after m N) = if n < N then List.count (m : Int) (after n) else 0
  | 0 => by simp [bef]
  | N + 1 => by
    rw [bef, List.count_append, count_bef N, count_const]
    have hc : ((after N).filter fun k => decide (k = (m : Int))).length = List.count (m : Int) (after N) := by
      rw [List.count_eq_countP, ← List.countP_eq_length_filter]
      congr 1
    rw [hc]
    by_cases h : n = N
    · subst h; simp
    · by_cases h2 : n < N
      · have : n < N + 1 := by omega
        simp [h, h2, this]
      · have : ¬ n < N + 1 := by omega
        simp [h, h2, this]
theorem mem_bef {after : Nat → List Int} {m n : Nat} : ∀ N, n ∈ bef after m N ↔ n < N ∧ (m : Int) ∈ after n
  | 0 => by simp [bef]
  | N + 1 => by
    rw [bef, List.mem_append, mem_bef N]
    simp only [List.mem_map, List.mem_filter, decide_eq_true_eq]
    constructor
    · rintro (⟨h1, h2⟩ | ⟨a, ⟨h1, h2⟩, h3⟩)
      · exact ⟨by omega, h2⟩
      · subst h2 h3; exact ⟨by omega, h1⟩
    · rintro ⟨h1, h2⟩
      by_cases h : n = N
      · subst h; exact .inr ⟨_, ⟨h2, rfl⟩, rfl⟩
      · exact .inl ⟨by omega, h2⟩

theorem nodup_le : ∀ (N : Nat) {l : List Nat}, l.Nodup → (∀ a ∈ l, a < N) → l.length ≤ N
  | 0, l, _, h => by
    cases l with
    | nil => exact Nat.le_refl _
    | cons a r => have := h a (List.mem_cons_self ..); omega
  | N + 1, l, hn, h => by
    have h1 := nodup_le N (l := l.erase N) (hn.erase _) fun a ha => by
      rw [hn.mem_erase_iff] at ha
      have := h a ha.2; omega
    rw [List.length_erase] at h1
    split at h1 <;> omega

/-- the search's state: D the done, Q the queue behind, R what is left to look at from the last of D -/
structure SInv (N : Nat) (after : Nat → List Int) (side0 lost : Nat → Bool) (vals left : List Int) (D Q R : List Nat) (c : Int) : Prop where
  lenv : vals.length = N
  lenl : left.length = N
  hk : ∀ n, n < N → ∀ k ∈ after n, k < N
  nodup : (D ++ Q).Nodup
  lt : ∀ n ∈ D ++ Q, n < N
  memv : ∀ n, n < N → (n ∈ D ++ Q ↔ 0 ≤ at_ vals n)
  ge : ∀ n, n < N → -1 ≤ at_ vals n
  lf : ∀ n, n < N → at_ left n = (after n).length - (after n).countP (inD D) + R.count n
  dle : ∀ d ∈ D, at_ vals d ≤ c
  qs : Q.Pairwise fun a b => at_ vals a ≤ at_ vals b
  qb : ∀ q ∈ Q, c ≤ at_ vals q ∧ at_ vals q ≤ c + 1
  cD : c + 1 ≤ D.length
  lost0 : ∀ n, n < N → lost n = true → at_ vals n = 0
  s0 : ∀ n, n < N → side0 n = true → lost n = false → 0 ≤ at_ vals n → 1 ≤ at_ vals n ∧ (∃ k ∈ after n, wv vals k = at_ vals n - 1) ∧ ∀ k ∈ after n, 0 ≤ wv vals k → at_ vals n - 1 ≤ wv vals k
  s1 : ∀ n, n < N → side0 n = false → lost n = false → 0 ≤ at_ vals n → 1 ≤ at_ vals n ∧ (∃ k ∈ after n, wv vals k = at_ vals n - 1) ∧ ∀ k ∈ after n, 0 ≤ wv vals k ∧ wv vals k ≤ at_ vals n - 1
  u0 : ∀ n, n < N → side0 n = true → at_ vals n = -1 → at_ left n = (after n).length ∧ ∀ k ∈ after n, 0 ≤ wv vals k → c ≤ wv vals k
  u1 : ∀ n, n < N → side0 n = false → at_ vals n = -1 → at_ left n = 0 → after n = []

theorem wv_nat {vals : List Int} {m : Nat} : wv vals (m : Int) = at_ vals m := by unfold wv; rw [if_neg (by omega)]; simp
theorem at_out {l : List Int} {n : Nat} (h : l.length ≤ n) : at_ l n = 0 := by unfold at_; rw [List.getElem?_eq_none h]; rfl

section
variable {N : Nat} {after : Nat → List Int} {side0 lost : Nat → Bool} {vals left : List Int} {D Q R : List Nat} {c : Int}

theorem SInv.start (hk : ∀ n, n < N → ∀ k ∈ after n, k < N) (hv : vals.length = N) (hl : left.length = N) (h1 : ∀ n, n < N → at_ vals n = if lost n then 0 else -1) (h2 : ∀ n, n < N → at_ left n = (after n).length) :
    SInv N after side0 lost vals left [] ((List.range N).filter lost) [] (-1) where
  lenv := hv
  lenl := hl
  hk := hk
  nodup := by rw [List.nil_append]; exact List.nodup_range.filter _
  lt := fun n h => by simp at h; exact h.1
  memv := fun n h => by
    rw [h1 n h]; simp only [List.nil_append, List.mem_filter, List.mem_range]
    cases lost n <;> simp [h]
  ge := fun n h => by rw [h1 n h]; split <;> omega
  lf := fun n h => by
    rw [h2 n h]
    have : (after n).countP (inD []) = 0 := by rw [List.countP_eq_zero]; intro k _; simp [inD]
    rw [this]; simp
  dle := fun d h => by cases h
  qs := by
    have : ∀ a ∈ (List.range N).filter lost, at_ vals a = 0 := by
      intro a ha
      simp only [List.mem_filter, List.mem_range] at ha
      rw [h1 a ha.1, if_pos ha.2]
    refine List.Pairwise.imp_of_mem (R := fun _ _ => True) ?_ (List.pairwise_of_forall (fun _ _ => trivial))
    intro a b ha hb _
    rw [this a ha, this b hb]; exact Int.le_refl _
  qb := fun q h => by
    simp only [List.mem_filter, List.mem_range] at h
    rw [h1 q h.1, if_pos h.2]; omega
  cD := by simp
  lost0 := fun n h e => by rw [h1 n h, if_pos e]
  s0 := fun n h _ e g => by rw [h1 n h, e] at g; simp at g
  s1 := fun n h _ e g => by rw [h1 n h, e] at g; simp at g
  u0 := fun n h _ _ => ⟨h2 n h, fun k _ g => by omega⟩
  u1 := fun n h _ _ e => by rw [h2 n h] at e; exact List.length_eq_zero_iff.mp (by omega)

theorem inD_snoc {m : Nat} (hm : m ∉ D) (l : List Int) : l.countP (inD (D ++ [m])) = l.countP (inD D) + l.count (m : Int) := by
  induction l with
  | nil => rfl
  | cons k r ih =>
    rw [List.countP_cons, List.countP_cons, List.count_cons, ih]
    by_cases hk : k = (m : Int)
    · subst hk
      simp [inD, hm]; omega
    · have h1 : inD (D ++ [m]) k = inD D k := by
        unfold inD
        apply decide_eq_decide.mpr
        constructor
        · rintro ⟨a, b⟩
          rcases List.mem_append.mp b with b | b
          · exact ⟨a, b⟩
          · rw [List.mem_singleton] at b; omega
        · rintro ⟨a, b⟩; exact ⟨a, List.mem_append_left _ b⟩
      rw [h1]
      simp [hk]; omega

/-- the next of the queue is taken -/
theorem SInv.pop {m : Nat} (h : SInv N after side0 lost vals left D (m :: Q) [] c) : SInv N after side0 lost vals left (D ++ [m]) Q (bef after m N) (at_ vals m) := by
  have e : D ++ (m :: Q) = (D ++ [m]) ++ Q := by simp
  have hm : m ∉ D := fun hd => by
    have := h.nodup
    rw [List.nodup_append] at this
    exact this.2.2 m hd m (List.mem_cons_self ..) rfl
  have hqb := h.qb m (List.mem_cons_self ..)
  have hmN := h.lt m (by simp)
  have hqs := List.pairwise_cons.mp h.qs
  refine ⟨h.lenv, h.lenl, h.hk, e ▸ h.nodup, e ▸ h.lt, fun n hn => e ▸ h.memv n hn, h.ge, fun n hn => ?_, fun d hd => ?_, hqs.2, fun q hq => ⟨hqs.1 q hq, ?_⟩, ?_, h.lost0, h.s0, h.s1, fun n hn hs hv => ⟨(h.u0 n hn hs hv).1, fun k hk hw => ?_⟩, h.u1⟩
  · have := h.lf n hn
    rw [inD_snoc hm, count_bef, if_pos hn]
    simp at this ⊢; omega
  · rcases List.mem_append.mp hd with hd | hd
    · have := h.dle d hd; omega
    · rw [List.mem_singleton] at hd; subst hd; exact Int.le_refl _
  · have := (h.qb q (List.mem_cons_of_mem _ hq)).2; omega
  · have := h.cD; simp; omega
  · have h0 := (h.u0 n hn hs hv).1
    have hl := h.lf n hn
    simp at hl
    have hz : (after n).countP (inD D) = 0 := by
      have := List.countP_le_length (p := inD D) (l := after n)
      omega
    rw [List.countP_eq_zero] at hz
    have hkd := hz k hk
    unfold wv at hw ⊢
    split at hw
    · omega
    · rename_i hk0
      rw [if_neg hk0]
      by_cases hkN : k.toNat < N
      · have := (h.memv _ hkN).mpr hw
        rcases List.mem_append.mp this with hd | hq
        · exact absurd (by simp [inD]; exact ⟨by omega, hd⟩) hkd
        · rcases List.mem_cons.mp hq with e | hq
          · rw [e]; exact Int.le_refl _
          · exact hqs.1 _ hq
      · have := h.hk n hn k hk; omega

/-- one step: n is looked at from m, the last of D -/
theorem SInv.look {m n : Nat} (h : SInv N after side0 lost vals left (D ++ [m]) Q (n :: R) (at_ vals m)) (hR : ∀ x ∈ n :: R, x < N ∧ (m : Int) ∈ after x) (hm0 : 0 ≤ at_ vals m) :
    if at_ vals n = -1 ∧ (side0 n = true ∨ at_ left n - 1 = 0) then
      n ∉ D ++ [m] ∧ SInv N after side0 lost (vals.set n (at_ vals m + 1)) (left.set n (at_ left n - 1)) (D ++ [m]) (Q ++ [n]) R (at_ (vals.set n (at_ vals m + 1)) m) ∧ at_ (vals.set n (at_ vals m + 1)) m = at_ vals m
    else SInv N after side0 lost vals (left.set n (at_ left n - 1)) (D ++ [m]) Q R (at_ vals m) := by
  obtain ⟨hnN, hmn⟩ := hR n (List.mem_cons_self ..)
  have hln : n < left.length := by rw [h.lenl]; exact hnN
  have hvn : n < vals.length := by rw [h.lenv]; exact hnN
  have hlf : ∀ x, x < N → at_ (left.set n (at_ left n - 1)) x = (after x).length - (after x).countP (inD (D ++ [m])) + R.count x := by
    intro x hx
    rw [at_set hln]
    have := h.lf x hx
    rw [List.count_cons] at this
    split
    · rename_i e; subst e; simp at this; omega
    · rename_i e
      have e' : ¬ n = x := fun e'' => e e''.symm
      simp [e'] at this; omega
  split
  · rename_i hc
    obtain ⟨hv, hor⟩ := hc
    have hnot : n ∉ (D ++ [m]) ++ Q := fun hin => by have := (h.memv n hnN).mp hin; omega
    have hmn' : m ≠ n := fun e => by subst e; omega
    have hvm : at_ (vals.set n (at_ vals m + 1)) m = at_ vals m := by rw [at_set hvn, if_neg hmn']
    have hlost : lost n = false := by
      cases hl : lost n
      · rfl
      · have := h.lost0 n hnN hl; omega
    have hwn : ∀ k, wv (vals.set n (at_ vals m + 1)) k = if k = (n : Int) then at_ vals m + 1 else wv vals k := by
      intro k
      unfold wv
      by_cases hk : k < 0
      · rw [if_pos hk, if_pos hk, if_neg (by omega)]
      · rw [if_neg hk, if_neg hk, at_set hvn]
        by_cases e : k = (n : Int)
        · subst e; simp
        · rw [if_neg (by omega), if_neg e]
    have hall : ∀ x ∈ (D ++ [m]) ++ Q, at_ vals x ≤ at_ vals m + 1 := by
      intro x hx
      rcases List.mem_append.mp hx with hx | hx
      · have := h.dle x hx; omega
      · exact (h.qb x hx).2
    have hvx : ∀ x ∈ (D ++ [m]) ++ Q, at_ (vals.set n (at_ vals m + 1)) x = at_ vals x := by
      intro x hx
      rw [at_set hvn, if_neg (fun e => by subst e; exact hnot hx)]
    refine ⟨fun hx => hnot (List.mem_append_left _ hx), ?_, hvm⟩
    rw [hvm]
    refine ⟨by rw [List.length_set]; exact h.lenv, by rw [List.length_set]; exact h.lenl, h.hk, ?_, ?_, ?_, ?_, hlf, ?_, ?_, ?_, h.cD, ?_, ?_, ?_, ?_, ?_⟩
    · rw [← List.append_assoc, List.nodup_append]
      refine ⟨h.nodup, by simp, ?_⟩
      intro a ha b hb e
      rw [List.mem_singleton] at hb
      subst hb e; exact hnot ha
    · intro x hx
      rw [← List.append_assoc] at hx
      rcases List.mem_append.mp hx with hx | hx
      · exact h.lt x hx
      · rw [List.mem_singleton] at hx; subst hx; exact hnN
    · intro x hx
      rw [← List.append_assoc, List.mem_append, List.mem_singleton, h.memv x hx, at_set hvn]
      split
      · rename_i e; subst e; simp; omega
      · rename_i e; simp [e]
    · intro x hx
      rw [at_set hvn]; split
      · omega
      · exact h.ge x hx
    · intro d hd
      rw [hvx d (List.mem_append_left _ hd)]; exact h.dle d hd
    · rw [List.pairwise_append]
      refine ⟨?_, by simp, ?_⟩
      · refine List.Pairwise.imp_of_mem ?_ h.qs
        intro a b ha hb hab
        rw [hvx a (List.mem_append_right _ ha), hvx b (List.mem_append_right _ hb)]; exact hab
      · intro a ha b hb
        rw [List.mem_singleton] at hb; subst hb
        rw [hvx a (List.mem_append_right _ ha), at_set hvn, if_pos rfl]
        exact (h.qb a ha).2
    · intro q hq
      rcases List.mem_append.mp hq with hq | hq
      · rw [hvx q (List.mem_append_right _ hq)]; exact h.qb q hq
      · rw [List.mem_singleton] at hq; subst hq
        rw [at_set hvn, if_pos rfl]; omega
    · intro x hx hl
      have := h.lost0 x hx hl
      rw [at_set hvn, if_neg (fun e => by subst e; omega)]; exact this
    · intro x hx hs hl hv0
      rw [at_set hvn] at hv0 ⊢
      by_cases e : x = n
      · subst e
        simp only [if_true]
        refine ⟨by omega, ⟨(m : Int), hmn, ?_⟩, ?_⟩
        · rw [hwn, if_neg (by omega), wv_nat]; omega
        · intro k hk hw
          rw [hwn] at hw ⊢
          have hu := (h.u0 x hx hs hv).2 k hk
          split
          · omega
          · rename_i e; rw [if_neg e] at hw; have := hu hw; omega
      · rw [if_neg e] at hv0 ⊢
        obtain ⟨a1, ⟨k, hk, a2⟩, a3⟩ := h.s0 x hx hs hl hv0
        refine ⟨a1, ⟨k, hk, ?_⟩, ?_⟩
        · rw [hwn, if_neg]
          · exact a2
          · intro e'; subst e'; rw [wv_nat] at a2; omega
        · intro k hk hw
          rw [hwn] at hw ⊢
          split
          · have := hall x ((h.memv x hx).mpr hv0); omega
          · rename_i e'; rw [if_neg e'] at hw; exact a3 k hk hw
    · intro x hx hs hl hv0
      rw [at_set hvn] at hv0 ⊢
      by_cases e : x = n
      · subst e
        simp only [if_true]
        have hz : at_ left x - 1 = 0 := by
          rcases hor with h' | h'
          · rw [hs] at h'; cases h'
          · exact h'
        have hcnt := hlf x hx
        rw [at_set hln, if_pos rfl, hz] at hcnt
        have hcl := List.countP_le_length (p := inD (D ++ [m])) (l := after x)
        have hcl' : (after x).countP (inD (D ++ [m])) = (after x).length := by omega
        rw [List.countP_eq_length] at hcl'
        refine ⟨by omega, ⟨(m : Int), hmn, ?_⟩, ?_⟩
        · rw [hwn, if_neg (by omega), wv_nat]; omega
        · intro k hk
          have hd := hcl' k hk
          simp only [inD, decide_eq_true_eq] at hd
          have hne : k ≠ (x : Int) := fun e => by
            subst e; exact hnot (List.mem_append_left _ (by simpa using hd.2))
          rw [hwn, if_neg hne]
          unfold wv
          rw [if_neg (by omega)]
          have h1 := h.dle _ hd.2
          have h2 := (h.memv k.toNat (h.lt _ (List.mem_append_left _ hd.2))).mp (List.mem_append_left _ hd.2)
          omega
      · rw [if_neg e] at hv0 ⊢
        obtain ⟨a1, ⟨k, hk, a2⟩, a3⟩ := h.s1 x hx hs hl hv0
        have hne : ∀ k ∈ after x, k ≠ (n : Int) := fun k hk e' => by
          subst e'; have := (a3 _ hk).1; rw [wv_nat] at this; omega
        refine ⟨a1, ⟨k, hk, ?_⟩, ?_⟩
        · rw [hwn, if_neg (hne k hk)]; exact a2
        · intro k hk
          rw [hwn, if_neg (hne k hk)]; exact a3 k hk
    · intro x hx hs hvx'
      rw [at_set hvn] at hvx'
      by_cases e : x = n
      · rw [if_pos e] at hvx'; omega
      · rw [if_neg e] at hvx'
        obtain ⟨a1, a2⟩ := h.u0 x hx hs hvx'
        refine ⟨by rw [at_set hln, if_neg e]; exact a1, ?_⟩
        intro k hk hw
        rw [hwn] at hw ⊢
        split
        · omega
        · rename_i e'; rw [if_neg e'] at hw; exact a2 k hk hw
    · intro x hx hs hvx' hl0
      rw [at_set hvn] at hvx'
      by_cases e : x = n
      · rw [if_pos e] at hvx'; omega
      · rw [if_neg e] at hvx'
        rw [at_set hln, if_neg e] at hl0
        exact h.u1 x hx hs hvx' hl0
  · rename_i hc
    refine ⟨h.lenv, by rw [List.length_set]; exact h.lenl, h.hk, h.nodup, h.lt, h.memv, h.ge, hlf, h.dle, h.qs, h.qb, h.cD, h.lost0, h.s0, h.s1, ?_, ?_⟩
    · intro x hx hs hv
      obtain ⟨a1, a2⟩ := h.u0 x hx hs hv
      refine ⟨?_, a2⟩
      rw [at_set hln, if_neg]
      · exact a1
      · intro e; subst e; exact hc ⟨hv, .inl hs⟩
    · intro x hx hs hv hl0
      rw [at_set hln] at hl0
      split at hl0
      · rename_i e; subst e; exact absurd ⟨hv, .inr hl0⟩ hc
      · exact h.u1 x hx hs hv hl0

/-- at the end -/
theorem SInv.fin (h : SInv N after side0 lost vals left D [] [] c) (n : Nat) (hn : n < N) :
    -1 ≤ at_ vals n ∧ at_ vals n < N ∧ (lost n = true → at_ vals n = 0) ∧
    (lost n = false → side0 n = true → ((∀ a ∈ (after n).map (wv vals), a < 0) ∧ at_ vals n = -1) ∨ (∃ M ∈ (after n).map (wv vals), 0 ≤ M ∧ (∀ a ∈ (after n).map (wv vals), 0 ≤ a → M ≤ a) ∧ at_ vals n = 1 + M)) ∧
    (lost n = false → side0 n = false → if after n = [] then at_ vals n = -1 else ((∀ a ∈ (after n).map (wv vals), 0 ≤ a) ∧ ∃ M ∈ (after n).map (wv vals), (∀ a ∈ (after n).map (wv vals), a ≤ M) ∧ at_ vals n = 1 + M) ∨ ((∃ a ∈ (after n).map (wv vals), a < 0) ∧ at_ vals n = -1)) := by
  have hge := h.ge n hn
  have hDn : D.length ≤ N := nodup_le N (by have := h.nodup; simpa using this) fun a ha => h.lt a (by simpa using ha)
  have hunv : ∀ k ∈ after n, inD D k = false → wv vals k = -1 := by
    intro k hk hd
    unfold wv
    split
    · rfl
    · have hkN := h.hk n hn k hk
      have hkN' : k.toNat < N := by omega
      have h1 := h.memv k.toNat hkN'
      have h2 := h.ge k.toNat hkN'
      have h3 : k.toNat ∉ D := fun hd' => by
        have : inD D k = true := by simp [inD]; exact ⟨by omega, hd'⟩
        rw [hd] at this; cases this
      have h4 : ¬ 0 ≤ at_ vals k.toNat := fun h5 => h3 (by simpa using h1.mpr h5)
      omega
  have hlf := h.lf n hn
  simp at hlf
  have hcl := List.countP_le_length (p := inD D) (l := after n)
  refine ⟨hge, ?_, h.lost0 n hn, fun hl hs => ?_, fun hl hs => ?_⟩
  · by_cases hv : 0 ≤ at_ vals n
    · have hd : n ∈ D := by simpa using (h.memv n hn).mpr hv
      have := h.dle n hd
      have := h.cD
      omega
    · omega
  · by_cases hv : 0 ≤ at_ vals n
    · obtain ⟨a1, ⟨k, hk, a2⟩, a3⟩ := h.s0 n hn hs hl hv
      refine .inr ⟨_, List.mem_map.mpr ⟨k, hk, rfl⟩, by omega, ?_, by omega⟩
      intro a ha h0
      obtain ⟨k', hk', rfl⟩ := List.mem_map.mp ha
      have := a3 k' hk' h0; omega
    · have hv1 : at_ vals n = -1 := by omega
      refine .inl ⟨?_, hv1⟩
      have hl0 := (h.u0 n hn hs hv1).1
      have hz : (after n).countP (inD D) = 0 := by omega
      rw [List.countP_eq_zero] at hz
      intro a ha
      obtain ⟨k, hk, rfl⟩ := List.mem_map.mp ha
      have := hunv k hk (by simpa using hz k hk)
      omega
  · by_cases hv : 0 ≤ at_ vals n
    · obtain ⟨a1, ⟨k, hk, a2⟩, a3⟩ := h.s1 n hn hs hl hv
      rw [if_neg (fun e => by rw [e] at hk; cases hk)]
      refine .inl ⟨?_, _, List.mem_map.mpr ⟨k, hk, rfl⟩, ?_, by omega⟩
      · intro a ha
        obtain ⟨k', hk', rfl⟩ := List.mem_map.mp ha
        exact (a3 k' hk').1
      · intro a ha
        obtain ⟨k', hk', rfl⟩ := List.mem_map.mp ha
        have := (a3 k' hk').2; omega
    · have hv1 : at_ vals n = -1 := by omega
      split
      · exact hv1
      · rename_i hne
        refine .inr ⟨?_, hv1⟩
        have hu := h.u1 n hn hs hv1
        have hlt : (after n).countP (inD D) ≠ (after n).length := fun e => hne (hu (by omega))
        rw [Ne, List.countP_eq_length] at hlt
        obtain ⟨k, hk⟩ := Classical.not_forall.mp hlt
        rw [Classical.not_imp] at hk
        refine ⟨_, List.mem_map.mpr ⟨k, hk.1, rfl⟩, ?_⟩
        have := hunv k hk.1 (by simpa using hk.2)
        omega
end
end Mine

end

section
open PySem
set_option linter.unusedVariables false
set_option linter.unusedSimpArgs false
set_option maxRecDepth 100000
set_option tactic.hygienic false
namespace Mine

noncomputable def nV (l : List Nat) : List V := l.map fun (n : Nat) => V.int n
theorem setItemV_at {σ : Store} {a k : Nat} {xs : List V} {v : V} (h : σ[a]? = some (.list xs)) (hk : k < xs.length) (hl : xs.length < 1000000) : setItemV σ (.ref a) (.int k) v = some (σ.set a (.list (xs.set k v))) := by
  show (obd σ[a]? fun o => obd (setO k v o) fun o' => some (σ.set a o')) = _
  rw [h]; simp [obd, grd, setO, hk, hl]

/-- the store while solve works -/
structure SS (σ : Store) (N : Nat) (σ' : Store) (vals left : List Int) (befs : Nat → List Nat) (queue : List Nat) : Prop where
  keep : Keep σ σ'
  v : σ'[σ.length + 1]? = some (.list (vals.map V.int))
  l : σ'[σ.length + 2]? = some (.list (left.map V.int))
  b : ∀ m, m < N → σ'[σ.length + 3 + m]? = some (.list (nV (befs m)))
  bl : σ'[σ.length + 3 + N]? = some (.list ((List.range N).map fun m => V.ref (σ.length + 3 + m)))
  q : σ'[σ.length + 4 + N]? = some (.list (nV queue))

section
variable {σ σ' : Store} {N : Nat} {vals left : List Int} {befs : Nat → List Nat} {queue : List Nat}
theorem SS.setV (h : SS σ N σ' vals left befs queue) (vals' : List Int) : SS σ N (σ'.set (σ.length + 1) (.list (vals'.map V.int))) vals' left befs queue :=
  ⟨h.keep.set (by omega) _, set_at h.v, by rw [set_ne (by omega)]; exact h.l, fun m hm => by rw [set_ne (by omega)]; exact h.b m hm, by rw [set_ne (by omega)]; exact h.bl, by rw [set_ne (by omega)]; exact h.q⟩
theorem SS.setL (h : SS σ N σ' vals left befs queue) (left' : List Int) : SS σ N (σ'.set (σ.length + 2) (.list (left'.map V.int))) vals left' befs queue :=
  ⟨h.keep.set (by omega) _, by rw [set_ne (by omega)]; exact h.v, set_at h.l, fun m hm => by rw [set_ne (by omega)]; exact h.b m hm, by rw [set_ne (by omega)]; exact h.bl, by rw [set_ne (by omega)]; exact h.q⟩
theorem SS.setQ (h : SS σ N σ' vals left befs queue) (queue' : List Nat) : SS σ N (σ'.set (σ.length + 4 + N) (.list (nV queue'))) vals left befs queue' :=
  ⟨h.keep.set (by omega) _, by rw [set_ne (by omega)]; exact h.v, by rw [set_ne (by omega)]; exact h.l, fun m hm => by rw [set_ne (by omega)]; exact h.b m hm, by rw [set_ne (by omega)]; exact h.bl, set_at h.q⟩
theorem SS.setB (h : SS σ N σ' vals left befs queue) (k : Nat) (hk : k < N) (l' : List Nat) : SS σ N (σ'.set (σ.length + 3 + k) (.list (nV l'))) vals left (fun m => if m = k then l' else befs m) queue :=
  ⟨h.keep.set (by omega) _, by rw [set_ne (by omega)]; exact h.v, by rw [set_ne (by omega)]; exact h.l, fun m hm => by
    by_cases e : m = k
    · subst e; rw [set_at (h.b m hm)]; simp
    · rw [set_ne (by omega), if_neg e]; exact h.b m hm, by rw [set_ne (by omega)]; exact h.bl, by rw [set_ne (by omega)]; exact h.q⟩
end

structure SolveIn (σ : Store) (sa fa la N : Nat) (after : Nat → List Int) (sd : List Int) (ls : List Bool) : Prop where
  n : N < 4000
  sdl : sd.length = N
  lsl : ls.length = N
  s : σ[sa]? = some (.list (sd.map V.int))
  l : σ[la]? = some (.list (ls.map V.bool))
  a : ∃ rr : List Nat, rr.length = N ∧ σ[fa]? = some (.list (rr.map V.ref)) ∧ ∀ n, n < N → ∃ r, rr[n]? = some r ∧ σ[r]? = some (.list ((after n).map V.int))
  rl : ∀ n, n < N → (after n).length < 100
  lo : ∀ n, n < N → ∀ k ∈ after n, -1 ≤ k ∧ k < N
noncomputable def lostOf (ls : List Bool) (n : Nat) : Bool := (ls[n]?).getD false
noncomputable def side0Of (sd : List Int) (n : Nat) : Bool := decide (at_ sd n = 0)

section
variable {C : Ctx} (P : Prg C) {X : Store → Prop} {σ : Store}
include P

/-- the setting up -/
theorem solve_setup {sa fa la N : Nat} {after : Nat → List Int} {sd : List Int} {ls : List Bool} (H : SolveIn σ sa fa la N after sd ls) {m : Loc} (m1 : m "sides" = some (.ref sa)) (m2 : m "after" = some (.ref fa)) (m3 : m "lost" = some (.ref la)) {Q : Fl → Loc → Store → Prop}
    (hQ : ∀ m' σ', m' "sides" = some (.ref sa) → m' "after" = some (.ref fa) → m' "lost" = some (.ref la) → m' "values" = some (.ref (σ.length + 1)) → m' "left" = some (.ref (σ.length + 2)) → m' "before" = some (.ref (σ.length + 3 + N)) → m' "queue" = some (.ref (σ.length + 4 + N)) →
      SS σ N σ' (List.replicate N (-1)) [] (fun _ => []) [] → Q .next m' σ') : wpSs C 0 X (b_solve.take 4) m σ Q := by
  obtain ⟨rr, hrl, hfa, hrr⟩ := H.a
  have hN := H.n
  simp only [b_solve, List.take]
  refine step fun K hK hR hC => ?_
  refine (ob_i m2 ?_)
  refine wpB_len ((Keep.snoc σ _) _ _ hfa) (by simp; omega) ?_
  refine ob_i (a := .int (-1)) (by rw [listAt_of (append_here _ _)]; rfl) ⟨⟨by omega, by simp; omega⟩, ?_⟩
  simp only [List.length_map, hrl, Int.toNat_natCast]
  refine hK _ _ (step fun K hK hR hC => ?_)
  refine hK _ _ (step fun K hK hR hC => ?_)
  have hlen : (((σ ++ [AObj.list [.int (-1)]]) ++ [AObj.list (List.replicate N (V.int (-1)))]) ++ [AObj.list []]).length = σ.length + 3 := by simp
  have k3 : Keep σ (((σ ++ [AObj.list [.int (-1)]]) ++ [AObj.list (List.replicate N (V.int (-1)))]) ++ [AObj.list []]) := ((Keep.snoc _ _).trans (Keep.snoc _ _)).trans (Keep.snoc _ _)
  have e1 : (((σ ++ [AObj.list [.int (-1)]]) ++ [AObj.list (List.replicate N (V.int (-1)))]) ++ [AObj.list []])[σ.length + 1]? = some (.list ((List.replicate N (-1)).map V.int)) := by
    refine Keep.snoc _ _ _ _ ?_
    have := append_here (σ ++ [AObj.list [.int (-1)]]) (List.replicate N (V.int (-1)))
    simp only [List.length_append, List.length_singleton] at this
    rw [this]; simp
  have e2 : (((σ ++ [AObj.list [.int (-1)]]) ++ [AObj.list (List.replicate N (V.int (-1)))]) ++ [AObj.list []])[σ.length + 2]? = some (.list (([] : List Int).map V.int)) := by
    have := append_here ((σ ++ [AObj.list [.int (-1)]]) ++ [AObj.list (List.replicate N (V.int (-1)))]) []
    simpa using this
  have l1 : (σ ++ [AObj.list [V.int (-1)]]).length = σ.length + 1 := by simp
  have l2 : ((σ ++ [AObj.list [.int (-1)]]) ++ [AObj.list (List.replicate N (V.int (-1)))]).length = σ.length + 2 := by simp
  rw [l1, l2]
  generalize hs3 : (((σ ++ [AObj.list [.int (-1)]]) ++ [AObj.list (List.replicate N (V.int (-1)))]) ++ [AObj.list []]) = σ3 at hlen k3 e1 e2 ⊢
  refine wpS_asg ?_
  refine wpE_comp (fun i acc σ' => σ' = σ3 ++ List.replicate i (.list []) ∧ acc = (List.range i).map fun m => V.ref (σ.length + 3 + m)) (.ref fa) (rr.map V.ref) (fun Q' h => by exact (ob_i m2 h)) (listAt_of (k3 _ _ hfa)) (by simp; omega) ⟨by simp, by simp⟩ ?_ ?_ ?_
  · rintro i acc σ' ⟨rfl, _⟩
    have := (k3 _ _ hfa)
    have h2 : (σ3 ++ List.replicate i (AObj.list []))[fa]? = some (.list (rr.map V.ref)) := by
      rw [List.getElem?_append_left (List.getElem?_eq_some_iff.mp this).1]; exact this
    exact listAt_of h2
  · rintro i v acc m' σ' hv ⟨rfl, rfl⟩ hm hx K4 hK4
    refine hK4 _ _ ⟨?_, ?_⟩
    · rw [List.append_assoc]; congr 1; rw [List.replicate_succ']
    · rw [List.range_succ, List.map_append]; simp [hlen]
  rintro acc σ' ⟨rfl, rfl⟩
  simp only [List.length_map, hrl]
  refine hK _ _ (step fun K hK hR hC => ?_)
  refine hK _ _ (done ?_)
  have lA : (σ3 ++ List.replicate N (AObj.list [])).length = σ.length + 3 + N := by simp [hlen]
  have lB : ((σ3 ++ List.replicate N (AObj.list [])) ++ [AObj.list ((List.range N).map fun m => V.ref (σ.length + 3 + m))]).length = σ.length + 4 + N := by simp [hlen]; omega
  rw [lA, lB]
  have kA : Keep σ3 (σ3 ++ List.replicate N (AObj.list [])) := fun i o h => by rw [List.getElem?_append_left (List.getElem?_eq_some_iff.mp h).1]; exact h
  have kAB := (kA.trans (Keep.snoc _ (AObj.list ((List.range N).map fun m => V.ref (σ.length + 3 + m))))).trans (Keep.snoc _ (AObj.list []))
  refine hQ _ _ (m1) (m2) (m3) (rfl) (rfl) (rfl) (rfl) ⟨k3.trans kAB, kAB _ _ e1, kAB _ _ e2, fun m hm => ?_, ?_, ?_⟩
  · refine Keep.snoc _ _ _ _ (Keep.snoc _ _ _ _ ?_)
    rw [List.getElem?_append_right (by omega), hlen, show σ.length + 3 + m - (σ.length + 3) = m by omega]
    simp [hm, nV]
  · refine Keep.snoc _ _ _ _ ?_
    rw [← lA]; exact append_here _ _
  · rw [← lB]; exact append_here _ _

/-- the rows are read -/
theorem solve_fill {sa fa la N : Nat} {after : Nat → List Int} {sd : List Int} {ls : List Bool} (H : SolveIn σ sa fa la N after sd ls) {m : Loc} {σ' : Store} (m1 : m "sides" = some (.ref sa)) (m2 : m "after" = some (.ref fa)) (m3 : m "lost" = some (.ref la))
    (m4 : m "values" = some (.ref (σ.length + 1))) (m5 : m "left" = some (.ref (σ.length + 2))) (m6 : m "before" = some (.ref (σ.length + 3 + N))) (m7 : m "queue" = some (.ref (σ.length + 4 + N))) (hS : SS σ N σ' (List.replicate N (-1)) [] (fun _ => []) []) {Q : Fl → Loc → Store → Prop}
    (hQ : ∀ m' σ'' vals left, m' "sides" = some (.ref sa) → m' "after" = some (.ref fa) → m' "lost" = some (.ref la) → m' "values" = some (.ref (σ.length + 1)) → m' "left" = some (.ref (σ.length + 2)) → m' "before" = some (.ref (σ.length + 3 + N)) → m' "queue" = some (.ref (σ.length + 4 + N)) →
      SS σ N σ'' vals left (fun m => bef after m N) ((List.range N).filter (lostOf ls)) → vals.length = N → left.length = N → (∀ n, n < N → at_ vals n = if lostOf ls n then 0 else -1) → (∀ n, n < N → at_ left n = (after n).length) → Q .next m' σ'') : wpSs C 0 X ((b_solve.drop 4).take 1) m σ' Q := by
  obtain ⟨rr, hrl, hfa, hrr⟩ := H.a
  have hN := H.n
  simp only [b_solve, List.take, List.drop]
  refine step fun K hK hR hC => ?_
  refine (ob_i m2 ?_)
  refine wpB_len (hS.keep _ _ hfa) (by simp; omega) ?_
  rw [List.length_map, hrl]
  refine wpB_range (by omega) ?_
  refine forW_rng (a := 0) (b := N) (Nat.zero_le _) (fun i m σ'' => m "sides" = some (.ref sa) ∧ m "after" = some (.ref fa) ∧ m "lost" = some (.ref la) ∧ m "values" = some (.ref (σ.length + 1)) ∧ m "left" = some (.ref (σ.length + 2)) ∧ m "before" = some (.ref (σ.length + 3 + N)) ∧ m "queue" = some (.ref (σ.length + 4 + N)) ∧
      ∃ vals left, SS σ N σ'' vals left (fun m => bef after m i) ((List.range i).filter (lostOf ls)) ∧ vals.length = N ∧ left.length = i ∧ (∀ n, n < N → at_ vals n = if n < i ∧ lostOf ls n = true then 0 else -1) ∧ (∀ n, n < i → at_ left n = (after n).length))
    ⟨m1, m2, m3, m4, m5, m6, m7, _, _, hS, by simp, by simp, fun n hn => by simp [at_, hn], fun n hn => by omega⟩ ?_ ?_
  · clear m1 m2 m3 m4 m5 m6 m7 hS
    rintro i m σ1 _ hi ⟨m1, m2, m3, m4, m5, m6, m7, vals, left, hS, hvl, hll, hva, hle⟩ K k1 k2 k3
    obtain ⟨r, hr1, hr2⟩ := hrr i hi
    refine step fun K' hK' hR' hC' => ?_
    refine ob_i m5 ⟨isListV_at hS.l, ?_⟩
    refine ob_i m2 ?_
    refine item_get (x := .ref r) (hS.keep _ _ hfa) (by rw [List.getElem?_map, hr1]; rfl) (by omega) ?_
    have hrl2 := H.rl i hi
    refine wpB_len (hS.keep _ _ hr2) (by simp; omega) ?_
    refine (ob_i (appendV_at hS.l (by simp; omega)) (hK' _ _ (step fun K' hK' hR' hC' => ?_)))
    have hS1 := hS.setL (left ++ [((after i).length : Int)])
    rw [show (left ++ [((after i).length : Int)]).map V.int = left.map V.int ++ [V.int ((after i).map V.int).length] by simp] at hS1
    generalize σ1.set (σ.length + 2) (AObj.list (left.map V.int ++ [V.int ((after i).map V.int).length])) = σ2 at hS1 ⊢
    clear hS
    refine (ob_i m2 ?_)
    refine item_get (x := .ref r) (hS1.keep _ _ hfa) (by rw [List.getElem?_map, hr1]; rfl) (by omega) ?_
    refine ob_i (listAt_of (hS1.keep _ _ hr2)) ?_
    refine forW_inv (fun j m σ'' => m "sides" = some (.ref sa) ∧ m "after" = some (.ref fa) ∧ m "lost" = some (.ref la) ∧ m "values" = some (.ref (σ.length + 1)) ∧ m "left" = some (.ref (σ.length + 2)) ∧ m "before" = some (.ref (σ.length + 3 + N)) ∧ m "queue" = some (.ref (σ.length + 4 + N)) ∧ m "n" = some (.int i) ∧
      SS σ N σ'' vals (left ++ [((after i).length : Int)]) (fun m => bef after m i ++ (((after i).take j).filter fun k => decide (k = (m : Int))).map fun _ => i) ((List.range i).filter (lostOf ls))) ?_ ?_ ?_ _ 0 _ _ rfl (Nat.zero_le _)
      ⟨m1, m2, m3, m4, m5, m6, m7, rfl, by simpa using hS1⟩
    · rintro j m σ'' ⟨_, _, _, _, _, _, _, _, h⟩; exact listAt_of (h.keep _ _ hr2)
    · clear m1 m2 m3 m4 m5 m6 m7 hS1
      rintro j v m σ3 hv ⟨m1, m2, m3, m4, m5, m6, m7, m8, hS⟩ K k1 k2 k3
      obtain ⟨k, hk, rfl, htk⟩ := map_getElem hv
      have hkm : k ∈ after i := List.mem_of_getElem? hk
      have hj : j < 100 := by have := (List.getElem?_eq_some_iff.mp hk).1; omega
      obtain ⟨klo, khi⟩ := H.lo i hi k hkm
      refine (step fun K' hK' hR' hC' => ?_)
      refine ite_n (fun hk1 => ?_) fun hk1 => ?_
      rotate_left
      · have hk1 := of_decide_eq_true hk1
        refine (hK' _ _ ((k1 _ _ ⟨m1, m2, m3, m4, m5, m6, m7, m8, ?_⟩)))
        have e : ∀ m : Nat, (((after i).take (j + 1)).filter fun k => decide (k = (m : Int))) = (((after i).take j).filter fun k => decide (k = (m : Int))) := by
          intro m
          rw [htk, List.filter_append, hk1]
          have : ¬ (-1 : Int) = m := by omega
          simp [this]
        simp only [e]; exact hS
      · have hk1 := of_decide_eq_false hk1
        obtain ⟨kk, rfl⟩ := Int.eq_ofNat_of_zero_le (a := k) (by omega)
        have hkN : kk < N := by omega
        refine step fun K'' hK'' hR'' hC'' => ?_
        refine (ob_i m6 ?_)
        refine item_get (x := .ref (σ.length + 3 + kk)) hS.bl (by simp [hkN]) (by omega) ?_
        have hbl : (nV (bef after kk i ++ (((after i).take j).filter fun k => decide (k = (kk : Int))).map fun _ => i)).length < 1000000 := by
          have b1 : ∀ n, n ≤ N → (bef after kk n).length ≤ n * 100 := by
            intro n
            induction n with
            | zero => intro _; simp [bef]
            | succ n ih =>
              intro hn
              rw [bef, List.length_append, List.length_map]
              have h1 := List.length_filter_le (fun k => decide (k = (kk : Int))) (after n)
              have h2 := H.rl n (by omega)
              have := ih (by omega)
              omega
          have h1 := b1 i (by omega)
          have h2 := List.length_filter_le (fun k => decide (k = (kk : Int))) ((after i).take j)
          have h3 : ((after i).take j).length ≤ j := List.length_take_le _ _
          simp only [nV, List.length_map, List.length_append]
          omega
        refine ⟨isListV_at (hS.b kk hkN), ob_i m8 (ob_i (appendV_at (hS.b kk hkN) hbl) (hK'' _ _ ((hK' _ _ ((k1 _ _ ⟨m1, m2, m3, m4, m5, m6, m7, m8, ?_⟩))))))⟩
        have := hS.setB kk hkN (bef after kk i ++ ((((after i).take j).filter fun k => decide (k = (kk : Int))).map fun _ => i) ++ [i])
        rw [show nV (bef after kk i ++ ((((after i).take j).filter fun k => decide (k = (kk : Int))).map fun _ => i) ++ [i]) = nV (bef after kk i ++ (((after i).take j).filter fun k => decide (k = (kk : Int))).map fun _ => i) ++ [V.int i] by simp [nV]] at this
        refine (show SS σ N _ _ _ _ _ from this) |> fun h => ?_
        have e : (fun m : Nat => bef after m i ++ (((after i).take (j + 1)).filter fun k => decide (k = (m : Int))).map fun _ => i) = fun m => if m = kk then bef after kk i ++ ((((after i).take j).filter fun k => decide (k = (kk : Int))).map fun _ => i) ++ [i] else bef after m i ++ (((after i).take j).filter fun k => decide (k = (m : Int))).map fun _ => i := by
          funext m
          rw [htk, List.filter_append]
          split
          · rename_i e; subst e; simp
          · rename_i e
            have : ¬ (kk : Int) = m := by omega
            simp [this]
        rw [e]; exact h
    · clear m1 m2 m3 m4 m5 m6 m7 hS1
      rintro m σ3 ⟨m1, m2, m3, m4, m5, m6, m7, m8, hS⟩
      rw [List.length_map, List.take_length] at hS
      refine hK' _ _ (step fun K' hK' hR' hC' => ?_)
      have hls : ls[i]? = some (lostOf ls i) := by
        have : i < ls.length := by rw [H.lsl]; exact hi
        unfold lostOf; rw [List.getElem?_eq_getElem this]; rfl
      · refine (ob_i m3 ?_)
        refine (ob_i m8 ?_)
        refine item_get (x := .bool (lostOf ls i)) (hS.keep _ _ H.l) (by rw [List.getElem?_map, hls]; rfl) (by omega) ?_
        have hle' : ∀ n, n < i + 1 → at_ (left ++ [((after i).length : Int)]) n = (after n).length := by
          intro n hn
          by_cases e : n = i
          · subst e; unfold at_; rw [← hll]; simp
          · have := hle n (by omega)
            unfold at_ at this ⊢
            rw [List.getElem?_append_left (by omega)]; exact this
        refine ite_e (fun hlo => ?_) fun hlo => ?_
        · refine (hK' _ _ ((k1 _ _ ⟨m1, m2, m3, m4, m5, m6, m7, _, _, ?_, hvl, by simp [hll], ?_, hle'⟩)))
          · have e : (List.range (i + 1)).filter (lostOf ls) = (List.range i).filter (lostOf ls) := by rw [List.range_succ, List.filter_append]; simp [hlo]
            rw [e]; exact hS
          · intro n hn
            rw [hva n hn]
            by_cases e : n = i
            · subst e; simp [hlo]
            · have : (n < i) = (n < i + 1) := by simp only [eq_iff_iff]; omega
              simp only [this]
        · refine step fun K'' hK'' hR'' hC'' => ?_
          have hS1 := hS.setV (vals.set i 0)
          rw [show (vals.set i 0).map V.int = (vals.map V.int).set i (V.int 0) by rw [List.map_set]] at hS1
          refine (ob_i m4 (ob_i m8 (ob_i (setItemV_at hS.v (by simp [hvl]; exact hi) (by simp [hvl]; omega)) (hK'' _ _ (step fun K'' hK'' hR'' hC'' => ?_)))))
          generalize σ3.set (σ.length + 1) (AObj.list ((vals.map V.int).set i (V.int 0))) = σ4 at hS1 ⊢
          have hql : (nV ((List.range i).filter (lostOf ls))).length < 1000000 := by
            have := List.length_filter_le (lostOf ls) (List.range i)
            simp [nV] at this ⊢; omega
          refine (ob_i m7 ⟨isListV_at hS1.q, ob_i m8 (ob_i (appendV_at hS1.q hql) (hK'' _ _ ((hK' _ _ ((k1 _ _ ⟨m1, m2, m3, m4, m5, m6, m7, vals.set i 0, _, ?_, by simp [hvl], by simp [hll], ?_, hle'⟩))))))⟩)
          rotate_left
          · intro n hn
            rw [at_set (by omega)]
            by_cases e : n = i
            · subst e; simp [hlo]
            · rw [if_neg e, hva n hn]
              have : (n < i) = (n < i + 1) := by simp only [eq_iff_iff]; omega
              simp only [this]
          have e : (List.range (i + 1)).filter (lostOf ls) = (List.range i).filter (lostOf ls) ++ [i] := by rw [List.range_succ, List.filter_append]; simp [hlo]
          rw [e]
          have := hS1.setQ ((List.range i).filter (lostOf ls) ++ [i])
          rw [show nV ((List.range i).filter (lostOf ls) ++ [i]) = nV ((List.range i).filter (lostOf ls)) ++ [V.int i] by simp [nV]] at this
          exact this
  · clear m1 m2 m3 m4 m5 m6 m7 hS
    rintro m σ1 ⟨m1, m2, m3, m4, m5, m6, m7, vals, left, hS, hvl, hll, hva, hle⟩
    refine hK _ _ ((hQ _ _ _ _ m1 m2 m3 m4 m5 m6 m7 hS hvl hll (fun n hn => ?_) hle))
    rw [hva n hn]; simp [hn]
end
end Mine

end

section
open PySem
set_option linter.unusedVariables false
set_option linter.unusedSimpArgs false
set_option maxRecDepth 100000
set_option tactic.hygienic false
namespace Mine

theorem at_get {l : List Int} {n : Nat} (h : n < l.length) : (l.map V.int)[n]? = some (.int (at_ l n)) := by
  unfold at_; simp [h]
theorem nV_get {l : List Nat} {i n : Nat} (h : l[i]? = some n) : (nV l)[i]? = some (.int n) := by simp [nV, h]
theorem nV_get' {l : List Nat} {i : Nat} {v : V} (h : (nV l)[i]? = some v) : ∃ n, l[i]? = some n ∧ v = .int n := by
  obtain ⟨a, h1, h2, _⟩ := map_getElem h
  exact ⟨a, h1, h2⟩

noncomputable def swTest : E := .cmp .Lt (.loc "at") (.bcall "len" [(.loc "queue")])
noncomputable def swBody : List S := [
    .assign (.name "m") (.sub (.loc "queue") (.loc "at")),
    .aug "at" .Add (.cint 1),
    .for (.name "n") (.sub (.loc "before") (.loc "m")) [
      .augsub (.loc "left") (.loc "n") .Sub (.cint 1),
      .ite (.all [(.cmp .Eq (.sub (.loc "values") (.loc "n")) (.glob "NO_MATE")), (.any [(.cmp .Eq (.sub (.loc "sides") (.loc "n")) (.glob "STRONG_MOVES")), (.cmp .Eq (.sub (.loc "left") (.loc "n")) (.cint 0))])]) [
        .assign (.sub (.loc "values") (.loc "n")) (.bin .Add (.sub (.loc "values") (.loc "m")) (.cint 1)),
        .append (.loc "queue") (.loc "n")] []]]

structure SLoc (σ : Store) (sa N : Nat) (m : Loc) : Prop where
  s : m "sides" = some (.ref sa)
  v : m "values" = some (.ref (σ.length + 1))
  l : m "left" = some (.ref (σ.length + 2))
  b : m "before" = some (.ref (σ.length + 3 + N))
  q : m "queue" = some (.ref (σ.length + 4 + N))
theorem SLoc.of {σ : Store} {sa N : Nat} {m m' : Loc} (h : SLoc σ sa N m) (e : ∀ y, y ≠ "m" → y ≠ "n" → y ≠ "at" → m' y = m y) : SLoc σ sa N m' :=
  ⟨by rw [e _ (by decide) (by decide) (by decide)]; exact h.s, by rw [e _ (by decide) (by decide) (by decide)]; exact h.v, by rw [e _ (by decide) (by decide) (by decide)]; exact h.l, by rw [e _ (by decide) (by decide) (by decide)]; exact h.b, by rw [e _ (by decide) (by decide) (by decide)]; exact h.q⟩

section
variable {C : Ctx} (P : Prg C) {X : Store → Prop} {σ : Store}
include P

theorem sw_test {N sa : Nat} {m : Loc} {σ' : Store} {vals left : List Int} {befs : Nat → List Nat} {queue : List Nat} {a : Nat} {Q : Bool → Store → Prop} (L : SLoc σ sa N m) (hS : SS σ N σ' vals left befs queue) (ha : m "at" = some (.int a)) (hq : queue.length < 1000000)
    (h : Q (decide (a < queue.length)) σ') : wpT C 0 X swTest m σ' Q := by
  refine ob_i ha (ob_i L.q (wpB_len hS.q (by simpa [nV] using hq) (show Q (decide ((a : Int) < ((nV queue).length : Int))) σ' from ?_)))
  have e : decide ((a : Int) < ((nV queue).length : Int)) = decide (a < queue.length) := by simp [nV]
  rw [e]; exact h

theorem sw_loop {sa fa la N : Nat} {after : Nat → List Int} {sd : List Int} {ls : List Bool} (H : SolveIn σ sa fa la N after sd ls) {Q : Fl → Loc → Store → Prop} :
    ∀ (k : Nat) (D Qu : List Nat) (c : Int) (vals left : List Int) (m : Loc) (σ' : Store), N < D.length + k → SLoc σ sa N m → m "at" = some (.int D.length) → SS σ N σ' vals left (fun m => bef after m N) (D ++ Qu) → SInv N after (side0Of sd) (lostOf ls) vals left D Qu [] c →
      (∀ m' σ'' vals left D c, m' "values" = some (.ref (σ.length + 1)) → SS σ N σ'' vals left (fun m => bef after m N) D → SInv N after (side0Of sd) (lostOf ls) vals left D [] [] c → Q .next m' σ'') →
      whileW (fun m σ Q => wpT C 0 X swTest m σ Q) (fun m σ Q => wpSs C 0 X swBody m σ Q) k m σ' Q := by
  have hN := H.n
  intro k
  induction k with
  | zero =>
    intro D Qu c vals left m σ' hk L hat hS hI hQ
    have := nodup_le N (List.nodup_append.mp hI.nodup).1 fun a ha => hI.lt a (List.mem_append_left _ ha)
    omega
  | succ k ih =>
    intro D Qu c vals left m σ' hk L hat hS hI hQ
    have hql : (D ++ Qu).length ≤ N := nodup_le N hI.nodup hI.lt
    rw [whileW]
    refine sw_test P L hS hat (by omega) ?_
    cases Qu with
    | nil =>
      rw [decide_eq_false (by simp)]
      exact hQ _ _ _ _ D c L.v (by simpa using hS) hI
    | cons mm Qr =>
      rw [decide_eq_true (by simp)]
      have hI2 := hI.pop
      have hmmN : mm < N := hI.lt mm (by simp)
      have hmm0 : 0 ≤ at_ vals mm := (hI.memv mm hmmN).mp (by simp)
      refine step fun K' hK' hR' hC' => ?_
      refine (ob_i L.q (ob_i hat ?_))
      refine item_get (x := .int mm) hS.q (nV_get (by simp)) (by rw [List.length_append] at hql; omega) ?_
      refine hK' _ _ (step fun K' hK' hR' hC' => ?_)
      refine (ob_i hat ?_)
      refine hK' _ _ (step fun K' hK' hR' hC' => ?_)
      have L2 : SLoc σ sa N (upd (upd m "m" (.int mm)) "at" (.int (D.length + 1))) := L.of fun y h1 h2 h3 => by simp [upd, h1, h3]
      have hmloc : upd (upd m "m" (.int mm)) "at" (.int (D.length + 1)) "m" = some (.int mm) := by simp [upd]
      have hatloc : upd (upd m "m" (.int mm)) "at" (.int (D.length + 1)) "at" = some (.int ((D ++ [mm]).length : Nat)) := by simp [upd]
      generalize upd (upd m "m" (.int mm)) "at" (.int (D.length + 1)) = m2 at L2 hmloc hatloc ⊢
      refine (ob_i L2.b (ob_i hmloc ?_))
      refine item_get (x := .ref (σ.length + 3 + mm)) hS.bl (by simp [hmmN]) (by omega) ?_
      refine ob_i (listAt_of (hS.b mm hmmN)) ?_
      refine forW_inv (fun j m σ'' => SLoc σ sa N m ∧ m "m" = some (.int mm) ∧ m "at" = some (.int ((D ++ [mm]).length : Nat)) ∧ ∃ vals left Qr, SS σ N σ'' vals left (fun m => bef after m N) ((D ++ [mm]) ++ Qr) ∧ SInv N after (side0Of sd) (lostOf ls) vals left (D ++ [mm]) Qr ((bef after mm N).drop j) (at_ vals mm) ∧ 0 ≤ at_ vals mm) ?_ ?_ ?_ _ 0 _ _ rfl (Nat.zero_le _)
        ⟨L2, hmloc, hatloc, vals, left, Qr, by simpa using hS, by simpa using hI2, hmm0⟩
      · rintro j m σ'' ⟨_, _, _, _, _, _, h, _⟩; exact listAt_of (h.b mm hmmN)
      · clear L2 hmloc hatloc hS hI hI2 hmm0 L hat hql
        rintro j v m3 σ3 hv ⟨L, hm, hat, vals, left, Qr, hS, hI, h0⟩ K k1 k2 k3
        obtain ⟨n, hn, rfl⟩ := nV_get' hv
        have hjl : j < (bef after mm N).length := (List.getElem?_eq_some_iff.mp hn).1
        have hdrop : (bef after mm N).drop j = n :: (bef after mm N).drop (j + 1) := by
          rw [List.drop_eq_getElem_cons hjl]; congr 1; exact (List.getElem?_eq_some_iff.mp hn).2
        rw [hdrop] at hI
        have hmem : ∀ x ∈ n :: (bef after mm N).drop (j + 1), x < N ∧ (mm : Int) ∈ after x := by
          intro x hx
          rw [← hdrop] at hx
          exact (mem_bef N).mp (List.mem_of_mem_drop hx)
        have hnN := (hmem n (List.mem_cons_self ..)).1
        have look := hI.look hmem h0
        have hql : ((D ++ [mm]) ++ Qr).length ≤ N := nodup_le N hI.nodup hI.lt
        refine (step fun K' hK' hR' hC' => ?_)
        have L3 : SLoc σ sa N (upd m3 "n" (.int n)) := L.of fun y h1 h2 h3 => upd_ne h2
        have hn3 : upd m3 "n" (.int n) "n" = some (.int n) := upd_same
        have hm3 : upd m3 "n" (.int n) "m" = some (.int mm) := by simp [upd, hm]
        have hat3 : upd m3 "n" (.int n) "at" = some (.int ((D ++ [mm]).length : Nat)) := by simp [upd]; simpa using hat
        generalize upd m3 "n" (.int n) = m4 at L3 hn3 hm3 hat3 ⊢
        have hll := hI.lenl
        have hvl := hI.lenv
        refine (ob_i L3.l (ob_i hn3 ?_))
        refine item_get (x := .int (at_ left n)) hS.l (at_get (by omega)) (by omega) ?_
        refine (ob_i (setItemV_at hS.l (by simp; omega) (by simp; omega)) (hK' _ _ (step fun K' hK' hR' hC' => ?_)))
        have hS1 := hS.setL (left.set n (at_ left n - 1))
        rw [show (left.set n (at_ left n - 1)).map V.int = (left.map V.int).set n (V.int (at_ left n - 1)) by rw [List.map_set]] at hS1
        generalize σ3.set (σ.length + 2) (AObj.list ((left.map V.int).set n (V.int (at_ left n - 1)))) = σ4 at hS1 ⊢
        have hcond : ∀ Q' : Bool → Store → Prop, Q' (decide (at_ vals n = -1 ∧ (side0Of sd n = true ∨ at_ left n - 1 = 0))) σ4 →
            wpT C 0 X (.all [(.cmp .Eq (.sub (.loc "values") (.loc "n")) (.glob "NO_MATE")), (.any [(.cmp .Eq (.sub (.loc "sides") (.loc "n")) (.glob "STRONG_MOVES")), (.cmp .Eq (.sub (.loc "left") (.loc "n")) (.cint 0))])]) m4 σ4 Q' := by
          intro Q' hq
          have yes : (at_ vals n = -1 ∧ (side0Of sd n = true ∨ at_ left n - 1 = 0)) → Q' true σ4 := fun h => by rw [decide_eq_true h] at hq; exact hq
          have no : ¬ (at_ vals n = -1 ∧ (side0Of sd n = true ∨ at_ left n - 1 = 0)) → Q' false σ4 := fun h => by rw [decide_eq_false h] at hq; exact hq
          have hsd := H.sdl
          refine (ob_i L3.v (ob_i hn3 (item_get (x := .int (at_ vals n)) hS1.v (at_get (by omega)) (by omega) (ite_i (fun c1 => ?_) fun c1 => no fun h => of_decide_eq_false c1 h.1))))
          refine (ob_i L3.s (ob_i hn3 (item_get (x := .int (at_ sd n)) (hS1.keep _ _ H.s) (at_get (by omega)) (by omega) (ite_i (fun c2 => yes ⟨of_decide_eq_true c1, .inl c2⟩) fun c2 => ?_))))
          have hg : ((left.map V.int).set n (V.int (at_ left n - 1)))[n]? = some (.int (at_ left n - 1)) := by
            rw [List.getElem?_set_self]; simp; omega
          have hSl := hS1.l
          rw [show (left.set n (at_ left n - 1)).map V.int = (left.map V.int).set n (V.int (at_ left n - 1)) by rw [List.map_set]] at hSl
          refine (ob_i L3.l (ob_i hn3 (item_get (x := .int (at_ left n - 1)) hSl hg (by omega) (ite_i (fun c3 => yes ⟨of_decide_eq_true c1, .inr (of_decide_eq_true c3)⟩) fun c3 => no ?_))))
          rintro ⟨_, h | h⟩
          · rw [show side0Of sd n = false from c2] at h; cases h
          · exact of_decide_eq_false c3 h
        refine hcond _ ?_
        by_cases hc : at_ vals n = -1 ∧ (side0Of sd n = true ∨ at_ left n - 1 = 0)
        · rw [if_pos hc] at look
          obtain ⟨hnD, hI4, hvm⟩ := look
          rw [decide_eq_true hc]
          refine step fun K'' hK'' hR'' hC'' => ?_
          refine (ob_i L3.v (ob_i hm3 ?_))
          have hmN := hI.lt mm (by simp)
          refine item_get (x := .int (at_ vals mm)) hS1.v (at_get (by omega)) (by omega) ?_
          have hS2 := hS1.setV (vals.set n (at_ vals mm + 1))
          rw [show (vals.set n (at_ vals mm + 1)).map V.int = (vals.map V.int).set n (V.int (at_ vals mm + 1)) by rw [List.map_set]] at hS2
          refine (ob_i L3.v (ob_i hn3 (ob_i (setItemV_at hS1.v (by simp; omega) (by simp; omega)) (hK'' _ _ (step fun K'' hK'' hR'' hC'' => ?_)))))
          generalize σ4.set (σ.length + 1) (AObj.list ((vals.map V.int).set n (V.int (at_ vals mm + 1)))) = σ5 at hS2 ⊢
          have hS3 := hS2.setQ (((D ++ [mm]) ++ Qr) ++ [n])
          rw [show nV (((D ++ [mm]) ++ Qr) ++ [n]) = nV ((D ++ [mm]) ++ Qr) ++ [V.int n] by simp [nV]] at hS3
          refine (ob_i L3.q ⟨isListV_at hS2.q, ob_i hn3 (ob_i (appendV_at hS2.q (by simp only [nV, List.length_map]; omega)) (hK'' _ _ ((hK' _ _ ((k1 _ _ ⟨L3, hm3, hat3, _, _, Qr ++ [n], ?_, hI4, by omega⟩))))))⟩)
          rw [← List.append_assoc]; exact hS3
        · rw [if_neg hc] at look
          rw [decide_eq_false hc]
          exact (hK' _ _ ((k1 _ _ ⟨L3, hm3, hat3, _, _, Qr, hS1, look, h0⟩)))
      · clear L2 hmloc hatloc hS hI hI2 hmm0 L hat hql
        rintro m3 σ3 ⟨L, hm, hat, vals, left, Qr, hS, hI, h0⟩
        rw [show (nV (bef after mm N)).length = (bef after mm N).length by simp [nV], List.drop_length] at hI
        refine hK' _ _ (done ?_)
        exact ih (D ++ [mm]) Qr _ vals left _ _ (by simp; omega) L hat hS hI hQ

theorem s_solve {sa fa la N : Nat} {after : Nat → List Int} {sd : List Int} {ls : List Bool} (H : SolveIn σ sa fa la N after sd ls) :
    SemCall C 1 "solve" [.ref sa, .ref fa, .ref la] σ (fun v σ' => ∃ a vals left D c, v = .ref a ∧ σ.length ≤ a ∧ σ'[a]? = some (.list (vals.map V.int)) ∧ Keep σ σ' ∧ SInv N after (side0Of sd) (lostOf ls) vals left D [] [] c) X := by
  refine P.call P.f_solve rfl ?_
  rw [show b_solve = b_solve.take 4 ++ ((b_solve.drop 4).take 1 ++ b_solve.drop 5) from rfl, wpSs_append]
  refine solve_setup P H (rfl) (rfl) (rfl) ?_
  intro m σ1 m1 m2 m3 m4 m5 m6 m7 hS
  simp only
  rw [wpSs_append]
  refine solve_fill P H m1 m2 m3 m4 m5 m6 m7 hS ?_
  clear m1 m2 m3 m4 m5 m6 m7 hS
  intro m σ2 vals left m1 m2 m3 m4 m5 m6 m7 hS hv hl h1 h2
  simp only
  show wpSs C 0 X [.assign (.name "at") (.cint 0), .while swTest swBody, .ret (.loc "values")] m σ2 _
  refine step fun K hK hR hC => ?_
  refine hK _ _ (step fun K hK hR hC => ?_)
  have hI := SInv.start (side0 := side0Of sd) (lost := lostOf ls) (fun n hn k hk => (H.lo n hn k hk).2) hv hl h1 h2
  refine ⟨N + 1, sw_loop P H (N + 1) [] _ (-1) vals left _ σ2 (by simp) ⟨m1, m4, m5, m6, m7⟩ (rfl) (by simpa using hS) hI ?_⟩
  intro m' σ'' vals left D c hmv hS hI
  refine hK _ _ (step fun K hK hR hC => ?_)
  exact (ob_i hmv (hR _ _ _ ⟨_, vals, left, D, c, rfl, by omega, hS.v, hS.keep, hI⟩))
end
end Mine

end

section
open PySem
set_option linter.unusedVariables false
set_option linter.unusedSimpArgs false
set_option maxRecDepth 100000
set_option tactic.hygienic false
namespace Mine

noncomputable def plW (b : Bd) (k m w : Nat) : List Nat := if b.tch k w = false ∧ w ≠ k ∧ w ≠ m then idx b.s ⟨1, k, m, w⟩ :: (if b.str m w [(k : Int)] then [] else [idx b.s ⟨0, k, m, w⟩]) else []
noncomputable def plM (b : Bd) (k m : Nat) : List Nat := if k ∈ b.zone ∧ m ≠ k then (List.range b.s).flatMap (plW b k m) else []
noncomputable def plK (b : Bd) (k : Nat) : List Nat := (List.range b.s).flatMap (plM b k)
noncomputable def placesOf (b : Bd) : List Nat := (List.range b.s).flatMap (plK b)

theorem mem_plW {b : Bd} {k m w n : Nat} (h : n ∈ plW b k m w) (hk : k ∈ b.zone ∧ m ≠ k) (h1 : k < b.s) (h2 : m < b.s) (h3 : w < b.s) : ∃ p : Pl, p.In b.s ∧ n = idx b.s p ∧ p.king = k ∧ p.man = m ∧ p.bare = w ∧ stands b p = true := by
  unfold plW at h
  split at h
  · rename_i hc
    obtain ⟨c1, c2, c3⟩ := hc
    rcases List.mem_cons.mp h with rfl | h
    · refine ⟨⟨1, k, m, w⟩, ⟨by simp, h1, h2, h3⟩, rfl, rfl, rfl, rfl, ?_⟩
      unfold stands
      simp [hk.1, hk.2, c1]; exact ⟨fun e => c3 e.symm, fun e => c2 e.symm⟩
    · split at h
      · cases h
      · rename_i hs
        rw [List.mem_singleton] at h
        subst h
        refine ⟨⟨0, k, m, w⟩, ⟨by simp, h1, h2, h3⟩, rfl, rfl, rfl, rfl, ?_⟩
        unfold stands
        simp [hk.1, hk.2, c1]; exact ⟨⟨fun e => c3 e.symm, fun e => c2 e.symm⟩, by simpa using hs⟩
  · cases h
theorem mem_plM {b : Bd} {k m n : Nat} (h : n ∈ plM b k m) (h1 : k < b.s) (h2 : m < b.s) : ∃ p : Pl, p.In b.s ∧ n = idx b.s p ∧ p.king = k ∧ p.man = m ∧ stands b p = true := by
  unfold plM at h
  split at h
  · rename_i hk
    rw [List.mem_flatMap] at h
    obtain ⟨w, hw, h⟩ := h
    obtain ⟨p, a1, a2, a3, a4, a5, a6⟩ := mem_plW h hk h1 h2 (List.mem_range.mp hw)
    exact ⟨p, a1, a2, a3, a4, a6⟩
  · cases h
theorem mem_plK {b : Bd} {k n : Nat} (h : n ∈ plK b k) (h1 : k < b.s) : ∃ p : Pl, p.In b.s ∧ n = idx b.s p ∧ p.king = k ∧ stands b p = true := by
  unfold plK at h
  rw [List.mem_flatMap] at h
  obtain ⟨m, hm, h⟩ := h
  obtain ⟨p, a1, a2, a3, a4, a5⟩ := mem_plM h h1 (List.mem_range.mp hm)
  exact ⟨p, a1, a2, a3, a5⟩
theorem mem_placesOf {b : Bd} {n : Nat} : n ∈ placesOf b ↔ ∃ p : Pl, p.In b.s ∧ n = idx b.s p ∧ stands b p = true := by
  constructor
  · intro h
    unfold placesOf at h
    rw [List.mem_flatMap] at h
    obtain ⟨k, hk, h⟩ := h
    obtain ⟨p, a1, a2, a3, a4⟩ := mem_plK h (List.mem_range.mp hk)
    exact ⟨p, a1, a2, a4⟩
  · rintro ⟨⟨side, k, m, w⟩, hp, rfl, hs⟩
    obtain ⟨d1, d2, d3⟩ := stands_ne hs
    simp only at d1 d2 d3
    unfold stands at hs
    simp only [Bool.and_eq_true, Bool.or_eq_true, decide_eq_true_eq, Bool.not_eq_true', decide_eq_false_iff_not] at hs
    obtain ⟨⟨⟨⟨⟨z1, _⟩, _⟩, _⟩, t1⟩, sd⟩ := hs
    unfold placesOf
    refine List.mem_flatMap.mpr ⟨k, List.mem_range.mpr hp.king, List.mem_flatMap.mpr ⟨m, List.mem_range.mpr hp.man, ?_⟩⟩
    unfold plM
    rw [if_pos ⟨z1, d1⟩]
    refine List.mem_flatMap.mpr ⟨w, List.mem_range.mpr hp.bare, ?_⟩
    unfold plW
    rw [if_pos ⟨t1, fun e => d3 e.symm, fun e => d2 e.symm⟩]
    have hsd := hp.side
    simp only at hsd
    rcases sd with rfl | sd
    · exact List.mem_cons_self ..
    · by_cases e : side = 1
      · subst e; exact List.mem_cons_self ..
      · have : side = 0 := by omega
        subst this
        rw [sd]; simp
theorem nodup_flat {α : Type} {f : Nat → List α} {n : Nat} (h1 : ∀ i, i < n → (f i).Nodup) (h2 : ∀ i j a, i < n → j < n → a ∈ f i → a ∈ f j → i = j) : ((List.range n).flatMap f).Nodup := by
  unfold List.Nodup
  rw [List.pairwise_flatMap]
  refine ⟨fun i hi => h1 i (List.mem_range.mp hi), ?_⟩
  refine List.Pairwise.imp_of_mem ?_ (List.pairwise_lt_range (n := n))
  intro i j hi hj hlt x hx y hy e
  subst e
  have := h2 i j x (List.mem_range.mp hi) (List.mem_range.mp hj) hx hy
  omega
theorem places_nodup (b : Bd) : (placesOf b).Nodup := by
  refine nodup_flat (fun k hk => nodup_flat (fun m hm => ?_) ?_) ?_
  · unfold plM
    split
    · rename_i hc
      refine nodup_flat (fun w hw => ?_) ?_
      · unfold plW
        split
        · split
          · simp
          · simp only [List.nodup_cons, List.mem_singleton, List.not_mem_nil, not_false_eq_true, List.nodup_nil, and_true]
            intro e
            have := idx_inj (p := ⟨1, k, m, w⟩) (q := ⟨0, k, m, w⟩) ⟨by simp, hk, hm, hw⟩ ⟨by simp, hk, hm, hw⟩ e
            cases this
        · simp
      · intro i j a hi hj h1 h2
        obtain ⟨p, a1, a2, a3, a4, a5, _⟩ := mem_plW h1 hc hk hm hi
        obtain ⟨q, b1, b2, b3, b4, b5, _⟩ := mem_plW h2 hc hk hm hj
        have := idx_inj a1 b1 (a2.symm.trans b2)
        subst this; omega
    · simp
  · intro i j a hi hj h1 h2
    obtain ⟨p, a1, a2, a3, a4, _⟩ := mem_plM h1 hk hi
    obtain ⟨q, b1, b2, b3, b4, _⟩ := mem_plM h2 hk hj
    have := idx_inj a1 b1 (a2.symm.trans b2)
    subst this; omega
  · intro i j a hi hj h1 h2
    obtain ⟨p, a1, a2, a3, _⟩ := mem_plK h1 hi
    obtain ⟨q, b1, b2, b3, _⟩ := mem_plK h2 hj
    have := idx_inj a1 b1 (a2.symm.trans b2)
    subst this; omega
theorem places_lt {b : Bd} {n : Nat} (h : n ∈ placesOf b) : n < 2 * b.s * b.s * b.s := by
  obtain ⟨p, hp, rfl, _⟩ := mem_placesOf.mp h
  exact idx_lt hp
theorem places_len {b : Bd} : (placesOf b).length ≤ 2 * b.s * b.s * b.s := nodup_le _ (places_nodup b) fun a ha => places_lt ha
end Mine

end

section
open PySem
set_option linter.unusedVariables false
set_option linter.unusedSimpArgs false
set_option maxRecDepth 100000
set_option tactic.hygienic false
namespace Mine

theorem prefix_len {f : Nat → List Nat} {n i : Nat} (hi : i ≤ n) : ((List.range i).flatMap f).length ≤ ((List.range n).flatMap f).length := by
  have e : List.range n = List.range i ++ (List.range (n - i)).map (i + ·) := by
    rw [← List.range_add]; congr 1; omega
  rw [e, List.flatMap_append, List.length_append]; omega
theorem flatN_succ (f : Nat → List Nat) (n : Nat) : (List.range (n + 1)).flatMap f = (List.range n).flatMap f ++ f n := by
  rw [List.range_succ, List.flatMap_append]; simp
theorem nV_append (a b : List Nat) : nV (a ++ b) = nV a ++ nV b := by simp [nV]

section
variable {C : Ctx} (P : Prg C) {X : Store → Prop} {σ : Store}
include P

theorem s_mark {σ0 : Store} {g t : Nat} {b : Bd} (o : b.Ok) (k0 : Keep σ0 σ) (hG : GeoIs σ0 g b.G) (ht : σ0.length ≤ t) (hT : σ[t]? = some (.list ((List.replicate (2 * b.s * b.s * b.s) (-2)).map V.int))) {zm : Int} (hz : ∀ a, a < b.s → bit zm a = if a ∈ b.zone then 1 else 0) :
    SemCall C 13 "mark_places" [.ref g, .int b.kind, .int zm, .ref t] σ (fun v σ' => ∃ a tbl, v = .ref a ∧ Keep σ0 σ' ∧ a ≠ t ∧ σ0.length ≤ a ∧ σ'[a]? = some (.list (nV (placesOf b))) ∧ Tab b σ' t tbl ∧ ∀ n, n < 2 * b.s * b.s * b.s → at_ tbl n = if n ∈ placesOf b then -1 else -2) X := by
  refine P.call P.f_mark_places rfl ?_
  have hs : b.s ≤ 12 := o.s12
  have hsf : b.G.files * b.G.ranks ≤ 12 := o.s12
  have hcube := o.cube
  have hpl := places_len (b := b)
  have htl : t < σ.length := (List.getElem?_eq_some_iff.mp hT).1
  have hk0l := k0.len
  refine step fun K hK hR hC => ((hG.keep k0).i_size (hK _ _ (step fun K hK hR hC => hK _ _ (step fun K hK hR hC => ?_))))
  refine (wpB_range (by omega) ?_)
  have kσ : ∀ xs : List V, Keep σ0 (σ ++ [AObj.list xs]) := fun xs => k0.trans (Keep.snoc _ _)
  refine forW_rng (a := 0) (b := b.s) (Nat.zero_le _) (fun i m σ' => σ' = σ ++ [.list (nV ((List.range i).flatMap (plK b)))] ∧ m "geo" = some (.ref g) ∧ m "kind" = some (.int b.kind) ∧ m "zone" = some (.int zm) ∧ m "table" = some (.ref t) ∧ m "size" = some (.int b.s) ∧ m "places" = some (.ref σ.length))
    ⟨by simp [nV], rfl, rfl, rfl, rfl, rfl, rfl⟩ ?_ ?_
  · rintro i m σ' _ hi ⟨rfl, m1, m2, m3, m4, m5, m6⟩ K k1 k2 k3
    refine step fun K' hK' hR' hC' => ?_
    refine (ob_i m5 (wpB_range (by omega) ?_))
    refine forW_rng (a := 0) (b := b.s) (Nat.zero_le _) (fun j m σ' => σ' = σ ++ [.list (nV ((List.range i).flatMap (plK b) ++ (List.range j).flatMap (plM b i)))] ∧ m "geo" = some (.ref g) ∧ m "kind" = some (.int b.kind) ∧ m "zone" = some (.int zm) ∧ m "table" = some (.ref t) ∧ m "size" = some (.int b.s) ∧ m "places" = some (.ref σ.length) ∧ m "strong" = some (.int i))
      ⟨by simp, m1, m2, m3, m4, m5, m6, rfl⟩ ?_ ?_
    · clear m1 m2 m3 m4 m5 m6
      rintro j m σ' _ hj ⟨rfl, m1, m2, m3, m4, m5, m6, m7⟩ K k1 k2 k3
      have hGk := hG.keep (kσ (nV ((List.range i).flatMap (plK b) ++ (List.range j).flatMap (plM b i))))
      obtain ⟨kk, ak, ik⟩ := hGk.i_king o.geo
      have hfr : Builtin.bitAnd b.G.full (Builtin.bitNot (Builtin.bitOr (Builtin.bitOr ((b.G.king[i]?).getD 0) (1 * 2 ^ (i : Int).toNat)) (1 * 2 ^ (j : Int).toNat))) = b.freeOf i j := by rw [Int.one_mul, Int.one_mul]; rfl
      refine step fun K' hK' hR' hC' => ?_
      suffices key : ∀ x, x = b.freeOf i j → K' .next (upd (upd m "piece" (.int j)) "free" (.int x)) (σ ++ [AObj.list (nV ((List.range i).flatMap (plK b) ++ (List.range j).flatMap (plM b i)))]) from
        (ob_i m1 (hGk.i_full (ob_i m1 (ak (ob_i m7 (ik hi (ob_i m7 ⟨⟨Int.natCast_nonneg _, by omega, by decide⟩, ⟨Int.natCast_nonneg _, by omega, by decide⟩, key _ hfr⟩)))))))
      rintro x rfl
      refine hK' _ _ (step fun K' hK' hR' hC' => ?_)
      have zb := hz i hi
      have hskip : plM b i j = [] → K .next (upd (upd m "piece" (.int j)) "free" (.int (b.freeOf i j))) (σ ++ [.list (nV ((List.range i).flatMap (plK b) ++ (List.range j).flatMap (plM b i)))]) ∧ K .cont (upd (upd m "piece" (.int j)) "free" (.int (b.freeOf i j))) (σ ++ [.list (nV ((List.range i).flatMap (plK b) ++ (List.range j).flatMap (plM b i)))]) := by
        intro he
        have inv : (σ ++ [AObj.list (nV ((List.range i).flatMap (plK b) ++ (List.range j).flatMap (plM b i)))]) = σ ++ [.list (nV ((List.range i).flatMap (plK b) ++ (List.range (j + 1)).flatMap (plM b i)))] := by rw [flatN_succ, he, List.append_nil]
        exact ⟨k1 _ _ ⟨inv, m1, m2, m3, m4, m5, m6, m7⟩, k2 _ _ ⟨inv, m1, m2, m3, m4, m5, m6, m7⟩⟩
      have cond : ∀ (m' : Loc) (σ' : Store) (Q' : Bool → Store → Prop), m' "zone" = some (.int zm) → m' "strong" = some (.int i) → m' "piece" = some (.int j) → m' "free" = some (.int (b.freeOf i j)) → (¬ (i ∈ b.zone ∧ j ≠ i ∧ b.freeOf i j ≠ 0) → Q' true σ') → ((i ∈ b.zone ∧ j ≠ i ∧ b.freeOf i j ≠ 0) → Q' false σ') →
          wpT C 12 X (.any [(.cmp .Eq (.bin .BitAnd (.bin .RShift (.loc "zone") (.loc "strong")) (.cint 1)) (.cint 0)), (.cmp .Eq (.loc "piece") (.loc "strong")), (.cmp .Eq (.loc "free") (.cint 0))]) m' σ' Q' := by
        intro m' σ' Q' n1 n2 n3 n4 yes no
        refine (ob_i n1 (ob_i n2 (ite_i (fun h => yes fun q => ?_) fun h => (ob_i n3 (ob_i n2 (ite_i (fun h2 => yes fun q => q.2.1 (cast_t h2)) fun h2 => (ob_i n4 (ite_i (fun h3 => yes fun q => q.2.2 (of_decide_eq_true h3)) fun h3 => no ⟨?_, cast_f h2, of_decide_eq_false h3⟩))))))))
        · have h0 : bit zm i = 0 := of_decide_eq_true h
          rw [zb, if_pos q.1] at h0; cases h0
        · refine Classical.byContradiction fun hn => of_decide_eq_false h ?_
          rw [if_neg hn] at zb; exact zb
      refine cond _ _ _ m3 m7 rfl rfl (fun hc => ?_) fun hc => ?_
      rotate_left
      · have hplM : plM b i j = (List.range b.s).flatMap (plW b i j) := by unfold plM; rw [if_pos ⟨hc.1, hc.2.1⟩]
        refine hK' _ _ (step fun K' hK' hR' hC' => (ob_i m1 (ob_i m2 (ob_i m7 ⟨⟨Int.natCast_nonneg _, by omega, by decide⟩, ?_⟩))))
        rw [Int.one_mul]
        refine SemCall.mono (s_piece P hGk o.geo 0 b.kind j (2 ^ i) hj o.kind) (fun v σ2 ⟨hv, hσ2⟩ => ?_) fun _ h => h
        subst hv hσ2
        refine hK' _ _ (step fun K' hK' hR' hC' => ?_)
        refine (ob_i m5 (wpB_range (by omega) ?_))
        refine forW_rng (a := 0) (b := b.s) (Nat.zero_le _) (fun w m σ' => σ' = σ ++ [.list (nV ((List.range i).flatMap (plK b) ++ (List.range j).flatMap (plM b i) ++ (List.range w).flatMap (plW b i j)))] ∧ m "geo" = some (.ref g) ∧ m "kind" = some (.int b.kind) ∧ m "zone" = some (.int zm) ∧ m "table" = some (.ref t) ∧ m "size" = some (.int b.s) ∧ m "places" = some (.ref σ.length) ∧ m "strong" = some (.int i) ∧ m "piece" = some (.int j) ∧ m "free" = some (.int (b.freeOf i j)) ∧ m "checked" = some (.int (kindAtt b.G b.kind j (2 ^ i))))
          ⟨by simp, m1, m2, m3, m4, m5, m6, m7, rfl, rfl, rfl⟩ ?_ ?_
        · clear m1 m2 m3 m4 m5 m6 m7
          rintro w m σ' _ hw ⟨rfl, m1, m2, m3, m4, m5, m6, m7, m8, m9, m10⟩ K k1 k2 k3
          have fb := o.free i j w hi hj hw
          have cb := o.chk i j w hi hj hw
          have next : ∀ m' : Loc, (∀ y, y ≠ "weak" → m' y = m y) → K .next m' (σ ++ [.list (nV ((List.range i).flatMap (plK b) ++ (List.range j).flatMap (plM b i) ++ (List.range w).flatMap (plW b i j) ++ plW b i j w))]) := by
            intro m' e
            refine k1 _ _ ⟨by rw [flatN_succ, ← List.append_assoc], ?_⟩
            refine ⟨?_, ?_, ?_, ?_, ?_, ?_, ?_, ?_, ?_, ?_⟩ <;> (rw [e _ (by decide)]; assumption)
          have hlen : ∀ l : List Nat, l.length ≤ 2 → (nV ((List.range i).flatMap (plK b) ++ (List.range j).flatMap (plM b i) ++ (List.range w).flatMap (plW b i j) ++ l)).length < 1000000 := by
            intro l hl
            have a1 : ((List.range i).flatMap (plK b)).length ≤ (placesOf b).length := prefix_len (by omega)
            have a2 : (plK b i).length ≤ (placesOf b).length := by
              have h1 : ((List.range (i + 1)).flatMap (plK b)).length ≤ (placesOf b).length := prefix_len (by omega)
              rw [flatN_succ, List.length_append] at h1; omega
            have a3 : ((List.range j).flatMap (plM b i)).length ≤ (plK b i).length := prefix_len (by omega)
            have a4 : (plM b i j).length ≤ (plK b i).length := by
              have h1 : ((List.range (j + 1)).flatMap (plM b i)).length ≤ (plK b i).length := prefix_len (by omega)
              rw [flatN_succ, List.length_append] at h1; omega
            have a5 : ((List.range w).flatMap (plW b i j)).length ≤ (plM b i j).length := by rw [hplM]; exact prefix_len (by omega)
            simp only [nV, List.length_map, List.length_append]
            omega
          have nx : ∀ l, plW b i j w = l → K .next (upd m "weak" (.int w)) (σ ++ [.list (nV ((List.range i).flatMap (plK b) ++ (List.range j).flatMap (plM b i) ++ (List.range w).flatMap (plW b i j)) ++ nV l)]) := by
            intro l hl
            have := next (upd m "weak" (.int w)) (fun y hy => upd_ne hy)
            rw [hl, nV_append] at this; exact this
          refine step fun K' hK' hR' hC' => (ob_i m9 (ite_i (fun h => ?_) fun h => ?_))
          · have c1 : b.tch i w = false ∧ w ≠ i ∧ w ≠ j := Classical.byContradiction fun hn => by
              rw [if_neg hn] at fb; exact (of_decide_eq_true h) fb
            refine step fun K3 hK3 hR3 hC3 => (ob_i m6 ⟨isListV_here, ob_i m5 (ob_i m7 (ob_i m8 (SemCall.mono ((s_idx P b.s hs 1 i j w).up (b := 11) (by decide)) (fun v σ'' ⟨hv, hσ2⟩ => ?_) fun _ h => h)))⟩)
            subst hv hσ2
            refine (ob_i (appendV_here (by have := hlen [] (by decide); rw [List.append_nil] at this; exact this)) (hK3 _ _ (step fun K3 hK3 hR3 hC3 => (ob_i m10 (ite_i (fun h2 => ?_) fun h2 => ?_)))))
            · have c2 := bit_f cb (of_decide_eq_true h2)
              refine step fun K4 hK4 hR4 hC4 => (ob_i m6 ⟨isListV_here, ob_i m5 (ob_i m7 (ob_i m8 (SemCall.mono ((s_idx P b.s hs 0 i j w).up (b := 11) (by decide)) (fun v σ'' ⟨hv, hσ2⟩ => ?_) fun _ h => h)))⟩)
              subst hv hσ2
              have hl2 := hlen [idx b.s ⟨1, i, j, w⟩] (show 1 ≤ 2 by decide)
              rw [nV_append] at hl2
              refine (ob_i (appendV_here hl2) (hK4 _ _ (hK3 _ _ (hK' _ _ ?_))))
              have := nx [idx b.s ⟨1, i, j, w⟩, idx b.s ⟨0, i, j, w⟩] (by unfold plW; rw [if_pos c1, c2]; rfl)
              rw [show nV [idx b.s ⟨1, i, j, w⟩, idx b.s ⟨0, i, j, w⟩] = nV [idx b.s ⟨1, i, j, w⟩] ++ [V.int (idx b.s ⟨0, i, j, w⟩)] from rfl, ← List.append_assoc] at this
              exact this
            · have c2 := bit_t cb (of_decide_eq_false h2)
              exact hK3 _ _ (hK' _ _ (nx [idx b.s ⟨1, i, j, w⟩] (by unfold plW; rw [if_pos c1, c2]; rfl)))
          · have c1 : ¬ (b.tch i w = false ∧ w ≠ i ∧ w ≠ j) := fun hn => by
              rw [if_pos hn] at fb
              have h0 : bit (b.freeOf i j) w = 0 := Classical.not_not.mp (of_decide_eq_false h)
              rw [h0] at fb; cases fb
            have := nx [] (by unfold plW; rw [if_neg c1])
            rw [show nV [] = [] from rfl, List.append_nil] at this
            exact hK' _ _ this
        · clear m1 m2 m3 m4 m5 m6 m7
          rintro m σ' ⟨rfl, m1, m2, m3, m4, m5, m6, m7, m8, m9, m10⟩
          refine hK' _ _ ((k1 _ _ ⟨?_, m1, m2, m3, m4, m5, m6, m7⟩))
          rw [flatN_succ, hplM, List.append_assoc]
      · have he : plM b i j = [] := by
          unfold plM
          split
          · rename_i hh
            rw [List.flatMap_eq_nil_iff]
            intro w hw
            have hw := List.mem_range.mp hw
            unfold plW
            rw [if_neg]
            intro h3
            have f0 : b.freeOf i j = 0 := Classical.byContradiction fun h => hc ⟨hh.1, hh.2, h⟩
            have fb := o.free i j w hi hj hw
            rw [if_pos h3, f0] at fb
            rw [show bit 0 w = 0 by unfold bit; rw [Int.zero_ediv]; rfl] at fb; cases fb
          · rfl
        exact hC' _ _ (hskip he).2
    · clear m1 m2 m3 m4 m5 m6
      rintro m σ' ⟨rfl, m1, m2, m3, m4, m5, m6, m7⟩
      refine hK' _ _ ((k1 _ _ ⟨?_, m1, m2, m3, m4, m5, m6⟩))
      rw [flatN_succ]; rfl
  · rintro m σ' ⟨rfl, m1, m2, m3, m4, m5, m6⟩
    have hplaces : (List.range b.s).flatMap (plK b) = placesOf b := rfl
    rw [hplaces]
    have hTs : (σ ++ [AObj.list (nV (placesOf b))])[t]? = some (.list ((List.replicate (2 * b.s * b.s * b.s) (-2)).map V.int)) := (Keep.snoc _ _) _ _ hT
    have hPs : (σ ++ [AObj.list (nV (placesOf b))])[σ.length]? = some (.list (nV (placesOf b))) := append_here _ _
    have kk := kσ (nV (placesOf b))
    generalize (σ ++ [AObj.list (nV (placesOf b))]) = σ1 at hTs hPs kk ⊢
    refine hK _ _ (step fun K hK hR hC => ?_)
    refine ob_i m6 (ob_i (listAt_of hPs) ?_)
    refine forW_inv (fun i m σ' => m "table" = some (.ref t) ∧ m "places" = some (.ref σ.length) ∧ Keep σ0 σ' ∧ σ'[σ.length]? = some (.list (nV (placesOf b))) ∧ ∃ tbl, Tab b σ' t tbl ∧ ∀ n, n < 2 * b.s * b.s * b.s → at_ tbl n = if n ∈ (placesOf b).take i then -1 else -2) ?_ ?_ ?_ _ 0 _ _ rfl (Nat.zero_le _)
      ⟨m4, m6, kk, hPs, _, ⟨hTs, by simp⟩, fun n hn => by unfold at_; rw [List.getElem?_replicate, if_pos hn]; simp⟩
    · rintro i m σ' ⟨_, _, _, h, _⟩; exact listAt_of h
    · rintro i v m σ' hv ⟨m4, m6, kk, hPs, tbl, hT, hat⟩ K k1 k2 k3
      obtain ⟨n, hn, rfl⟩ := nV_get' hv
      have hnl := places_lt (List.mem_of_getElem? hn)
      refine (step fun K' hK' hR' hC' => ?_)
      have hl := hT.len
      refine (ob_i m4 (ob_i upd_same (ob_i (setItemV_at hT.here (by simp; omega) (by simp; omega)) (hK' _ _ ((k1 _ _ ⟨m4, m6, kk.set ht _, by rw [set_ne (by omega)]; exact hPs, tbl.set n (-1), ⟨?_, by simp [hl]⟩, ?_⟩))))))
      · rw [set_at hT.here, List.map_set]
      · intro x hx
        rw [at_set (by omega), hat x hx]
        have htk : (placesOf b).take (i + 1) = (placesOf b).take i ++ [n] := by rw [List.take_add_one, hn]; rfl
        rw [htk]
        by_cases e : x = n
        · subst e; simp
        · simp [e]
    · rintro m σ' ⟨m4, m6, kk, hPs, tbl, hT, hat⟩
      refine hK _ _ (step fun K hK hR hC => ?_)
      refine (ob_i m6 (hR _ _ _ ⟨_, tbl, rfl, kk, by omega, by omega, hPs, hT, fun n hn => ?_⟩))
      rw [hat n hn, show (nV (placesOf b)).length = (placesOf b).length by simp [nV], List.take_length]
end
end Mine

end

section
open PySem
set_option linter.unusedVariables false
set_option linter.unusedSimpArgs false
set_option maxRecDepth 100000
set_option tactic.hygienic false
namespace Mine

/-- where a place stands in the list of places -/
noncomputable def whI (b : Bd) : Option Pl → Int
  | none => -1
  | some q => (placesOf b).idxOf (idx b.s q)
noncomputable def rowAt (b : Bd) (x : Nat) : List Int := (moves b (plOf b.s x)).map fun w => whI b w.2.2
noncomputable def afterOf (b : Bd) (n : Nat) : List Int := match (placesOf b)[n]? with
  | some x => rowAt b x
  | none => []
noncomputable def lostAt (b : Bd) (x : Nat) : Bool := decide ((plOf b.s x).side = 1) && (decide (moves b (plOf b.s x) = []) && !stands b ⟨0, (plOf b.s x).king, (plOf b.s x).man, (plOf b.s x).bare⟩)
noncomputable def sidesOf (b : Bd) : List Int := (placesOf b).map fun x => ((plOf b.s x).side : Int)
noncomputable def lostsOf (b : Bd) : List Bool := (placesOf b).map (lostAt b)

theorem IsDue.congr {b : Bd} {p : Pl} {ws ws' : List Int} {d : Int} (h : ∀ a, a ∈ ws ↔ a ∈ ws') (hd : IsDue b p ws d) : IsDue b p ws' d := by
  have hn : ws = [] ↔ ws' = [] := by
    constructor <;> intro e <;> rw [List.eq_nil_iff_forall_not_mem] at e ⊢ <;> intro a ha
    · exact e a ((h a).mpr ha)
    · exact e a ((h a).mp ha)
  unfold IsDue at hd ⊢
  split
  · rename_i c
    rw [if_pos c] at hd
    rcases hd with ⟨h1, h2⟩ | ⟨M, h1, h2, h3, h4⟩
    · exact .inl ⟨fun a ha => h1 a ((h a).mpr ha), h2⟩
    · exact .inr ⟨M, (h M).mp h1, h2, fun a ha => h3 a ((h a).mpr ha), h4⟩
  · rename_i c
    rw [if_neg c] at hd
    split
    · rename_i e
      rw [if_pos (hn.mpr e)] at hd; exact hd
    · rename_i e
      rw [if_neg (fun h => e (hn.mp h))] at hd
      rcases hd with ⟨h1, M, h2, h3, h4⟩ | ⟨⟨a, h1, h2⟩, h3⟩
      · exact .inl ⟨fun a ha => h1 a ((h a).mpr ha), M, (h M).mp h2, fun a ha => h3 a ((h a).mpr ha), h4⟩
      · exact .inr ⟨⟨a, (h a).mp h1, h2⟩, h3⟩

theorem place_pos {b : Bd} {p : Pl} (hp : p.In b.s) (hs : stands b p = true) : (placesOf b).idxOf (idx b.s p) < (placesOf b).length ∧ (placesOf b)[(placesOf b).idxOf (idx b.s p)]? = some (idx b.s p) := by
  have hm : idx b.s p ∈ placesOf b := mem_placesOf.mpr ⟨p, hp, rfl, hs⟩
  have h1 := List.idxOf_lt_length_of_mem hm
  refine ⟨h1, ?_⟩
  rw [List.getElem?_eq_getElem h1, List.getElem_idxOf]
theorem place_at {b : Bd} {n x : Nat} (h : (placesOf b)[n]? = some x) : ∃ p : Pl, p.In b.s ∧ x = idx b.s p ∧ plOf b.s x = p ∧ stands b p = true ∧ (placesOf b).idxOf x = n := by
  obtain ⟨p, hp, rfl, hs⟩ := mem_placesOf.mp (List.mem_of_getElem? h)
  refine ⟨p, hp, rfl, plOf_idx hp, hs, ?_⟩
  obtain ⟨h1, h2⟩ := List.getElem?_eq_some_iff.mp h
  rw [← h2]
  exact (places_nodup b).idxOf_getElem n h1

theorem tbl_ok {b : Bd} {tbl vals left : List Int} {D : List Nat} {c : Int} (hl : tbl.length = 2 * b.s * b.s * b.s) (I : SInv (placesOf b).length (afterOf b) (side0Of (sidesOf b)) (lostOf (lostsOf b)) vals left D [] [] c)
    (h : ∀ n, n < 2 * b.s * b.s * b.s → at_ tbl n = if n ∈ placesOf b then at_ vals ((placesOf b).idxOf n) else -2) : TblOk b tbl := by
  have hst : ∀ p : Pl, p.In b.s → stands b p = true → at_ tbl (idx b.s p) = at_ vals ((placesOf b).idxOf (idx b.s p)) := by
    intro p hp hs
    rw [h _ (idx_lt hp), if_pos (mem_placesOf.mpr ⟨p, hp, rfl, hs⟩)]
  have hns : ∀ p : Pl, p.In b.s → stands b p = false → at_ tbl (idx b.s p) = -2 := by
    intro p hp hs
    rw [h _ (idx_lt hp), if_neg]
    intro hm
    obtain ⟨q, hq, e, hsq⟩ := mem_placesOf.mp hm
    rw [idx_inj hp hq e, hsq] at hs; cases hs
  refine ⟨fun p hp => ?_, fun p hp hs => ?_, fun p hp hs => ?_, fun p hp => ?_⟩
  · constructor
    · intro e
      cases hs : stands b p
      · rfl
      · rw [hst p hp hs] at e
        obtain ⟨h1, _⟩ := place_pos hp hs
        have := (I.fin _ h1).1; omega
    · exact hns p hp
  · obtain ⟨h1, h2⟩ := place_pos hp hs
    obtain ⟨f1, f2, f3, f4, f5⟩ := I.fin _ h1
    rw [hst p hp hs]
    generalize hk : (placesOf b).idxOf (idx b.s p) = k at h1 h2 f1 f2 f3 f4 f5 ⊢
    have hpl : plOf b.s (idx b.s p) = p := plOf_idx hp
    have haft : afterOf b k = (moves b p).map fun w => whI b w.2.2 := by unfold afterOf; rw [h2]; simp only [rowAt, hpl]
    have hwords : (afterOf b k).map (wv vals) = (moves b p).map fun w => wordOf b.s tbl w.2.2 := by
      rw [haft, List.map_map]
      refine List.map_congr_left fun w hw => ?_
      have hwi := ways_is (moves_ways.mp hw)
      cases hq : w.2.2 with
      | none => simp only [Function.comp, hq, whI, wordOf]; rfl
      | some q =>
        obtain ⟨q1, q2, _⟩ := hwi.in_ hp hq
        simp only [Function.comp, hq, whI, wordOf]
        rw [wv_nat, hst q q1 q2]
    have hside : side0Of (sidesOf b) k = decide (p.side = 0) := by
      unfold side0Of sidesOf at_
      rw [List.getElem?_map, h2]
      simp only [Option.map_some, Option.getD_some, hpl]
      apply decide_eq_decide.mpr; omega
    have hlost : lostOf (lostsOf b) k = lostAt b (idx b.s p) := by
      unfold lostOf lostsOf
      rw [List.getElem?_map, h2]; rfl
    rw [hwords] at f4 f5
    rw [hside] at f4 f5
    rw [hlost] at f3 f4 f5
    have hnil : afterOf b k = [] ↔ moves b p = [] := by rw [haft]; simp
    refine IsDue.congr (ws := (moves b p).map fun w => wordOf b.s tbl w.2.2) (fun a => by simp only [List.mem_map, moves_ways]) ?_
    unfold IsDue
    have hlat : lostAt b (idx b.s p) = (decide (p.side = 1) && (decide (moves b p = []) && !stands b ⟨0, p.king, p.man, p.bare⟩)) := by unfold lostAt; rw [hpl]
    by_cases h0 : p.side = 0
    · rw [if_pos h0]
      have hl0 : lostAt b (idx b.s p) = false := by rw [hlat]; simp [h0]
      exact f4 hl0 (by simp [h0])
    · rw [if_neg h0]
      have hs1 : p.side = 1 := by have := hp.side; omega
      by_cases hm : moves b p = []
      · rw [if_pos (by rw [hm]; rfl)]
        have hstr : stands b ⟨0, p.king, p.man, p.bare⟩ = !b.str p.man p.bare [(p.king : Int)] := by
          unfold stands at hs ⊢
          simp only [Bool.and_eq_true] at hs
          rw [hs.1.1.1.1.1, hs.1.1.1.1.2, hs.1.1.1.2, hs.1.1.2, hs.1.2]; simp
        have hl1 : lostAt b (idx b.s p) = b.str p.man p.bare [(p.king : Int)] := by
          rw [hlat, hstr]; simp [hs1, hm]
        cases hb : b.str p.man p.bare [(p.king : Int)]
        · rw [hb] at hl1
          have := f5 hl1 (by simp [h0])
          rw [if_pos (hnil.mpr hm)] at this
          simpa using this
        · rw [hb] at hl1
          simpa using f3 hl1
      · have hl1 : lostAt b (idx b.s p) = false := by rw [hlat]; simp [hm]
        rw [if_neg (by simpa using hm)]
        have := f5 hl1 (by simp [h0])
        rw [if_neg (fun e => hm (hnil.mp e))] at this
        exact this
  · rw [hst p hp hs]
    obtain ⟨h1, _⟩ := place_pos hp hs
    exact (I.fin _ h1).1
  · cases hs : stands b p
    · rw [hns p hp hs]; omega
    · rw [hst p hp hs]
      obtain ⟨h1, _⟩ := place_pos hp hs
      have := (I.fin _ h1).2.1
      have := places_len (b := b)
      omega
end Mine

end

section
open PySem
set_option linter.unusedVariables false
set_option linter.unusedSimpArgs false
set_option maxRecDepth 100000
set_option tactic.hygienic false
namespace Mine

structure BZ (b : Bd) (σ0 σ' : Store) (t pa d A : Nat) (tbl : List Int) (f : Int → Option V) (sl : List Int) (rr : List Nat) (ll : List Bool) : Prop where
  k : Keep σ0 σ'
  tab : Tab b σ' t tbl
  pl : σ'[pa]? = some (.list (nV (placesOf b)))
  dict : ∃ n, σ'[d]? = some (.dict f n)
  s : σ'[A]? = some (.list (sl.map V.int))
  a : σ'[A + 1]? = some (.list (rr.map V.ref))
  l : σ'[A + 2]? = some (.list (ll.map V.bool))
  rows : ∀ n r, rr[n]? = some r → A + 2 < r ∧ σ'[r]? = some (.list ((afterOf b n).map V.int))
  ne : t < A ∧ pa < A ∧ d < A ∧ σ0.length ≤ A

section
variable {b : Bd} {σ0 σ' σ'' : Store} {t pa d A : Nat} {tbl : List Int} {f : Int → Option V} {sl : List Int} {rr : List Nat} {ll : List Bool}
theorem BZ.keep (h : BZ b σ0 σ' t pa d A tbl f sl rr ll) (k : Keep σ' σ'') : BZ b σ0 σ'' t pa d A tbl f sl rr ll :=
  ⟨h.k.trans k, h.tab.keep k, k _ _ h.pl, h.dict.imp fun n e => k _ _ e, k _ _ h.s, k _ _ h.a, k _ _ h.l, fun n r e => ⟨(h.rows n r e).1, k _ _ (h.rows n r e).2⟩, h.ne⟩
theorem BZ.setS (h : BZ b σ0 σ' t pa d A tbl f sl rr ll) (sl' : List Int) : BZ b σ0 (σ'.set A (.list (sl'.map V.int))) t pa d A tbl f sl' rr ll :=
  have n := h.ne
  ⟨h.k.set (by omega) _, ⟨by rw [set_ne (by omega)]; exact h.tab.here, h.tab.len⟩, by rw [set_ne (by omega)]; exact h.pl, h.dict.imp fun n e => by rw [set_ne (by omega)]; exact e, set_at h.s, by rw [set_ne (by omega)]; exact h.a, by rw [set_ne (by omega)]; exact h.l,
    fun n r e => ⟨(h.rows n r e).1, by have := (h.rows n r e).1; rw [set_ne (by omega)]; exact (h.rows n r e).2⟩, h.ne⟩
theorem BZ.setA (h : BZ b σ0 σ' t pa d A tbl f sl rr ll) (r : Nat) (hr : A + 2 < r) (hr2 : σ'[r]? = some (.list ((afterOf b rr.length).map V.int))) : BZ b σ0 (σ'.set (A + 1) (.list ((rr ++ [r]).map V.ref))) t pa d A tbl f sl (rr ++ [r]) ll :=
  have n := h.ne
  ⟨h.k.set (by omega) _, ⟨by rw [set_ne (by omega)]; exact h.tab.here, h.tab.len⟩, by rw [set_ne (by omega)]; exact h.pl, h.dict.imp fun n e => by rw [set_ne (by omega)]; exact e, by rw [set_ne (by omega)]; exact h.s, set_at h.a, by rw [set_ne (by omega)]; exact h.l,
    fun n r' e => by
      by_cases hn : n < rr.length
      · rw [List.getElem?_append_left hn] at e
        have := (h.rows n r' e).1
        exact ⟨this, by rw [set_ne (by omega)]; exact (h.rows n r' e).2⟩
      · have hn' : n = rr.length := by have := (List.getElem?_eq_some_iff.mp e).1; simp at this; omega
        subst hn'
        simp at e; subst e
        exact ⟨hr, by rw [set_ne (by omega)]; exact hr2⟩, h.ne⟩
theorem BZ.setL (h : BZ b σ0 σ' t pa d A tbl f sl rr ll) (ll' : List Bool) : BZ b σ0 (σ'.set (A + 2) (.list (ll'.map V.bool))) t pa d A tbl f sl rr ll' :=
  have n := h.ne
  ⟨h.k.set (by omega) _, ⟨by rw [set_ne (by omega)]; exact h.tab.here, h.tab.len⟩, by rw [set_ne (by omega)]; exact h.pl, h.dict.imp fun n e => by rw [set_ne (by omega)]; exact e, by rw [set_ne (by omega)]; exact h.s, by rw [set_ne (by omega)]; exact h.a, set_at h.l,
    fun n r e => ⟨(h.rows n r e).1, by have := (h.rows n r e).1; rw [set_ne (by omega)]; exact (h.rows n r e).2⟩, h.ne⟩
end

structure BLoc (g t pa d A : Nat) (b : Bd) (m : Loc) : Prop where
  geo : m "geo" = some (.ref g)
  kind : m "kind" = some (.int b.kind)
  half : m "half" = some (.int (b.s * b.s * b.s : Nat))
  table : m "table" = some (.ref t)
  places : m "places" = some (.ref pa)
  where_ : m "where" = some (.ref d)
  sides : m "sides" = some (.ref A)
  after : m "after" = some (.ref (A + 1))
  lost : m "lost" = some (.ref (A + 2))

noncomputable def bzRow : List S := [
    .assign (.tup ["side", "strong", "piece", "weak"]) (.call (.glob "parts_of") [(.attr "geo" "size"), (.loc "n")]),
    .assign (.name "row") (.lst []),
    .for (.tup ["origin", "goal", "place"]) (.call (.glob "moves_at") [(.loc "geo"), (.loc "table"), (.loc "kind"), (.loc "side"), (.loc "strong"), (.loc "piece"), (.loc "weak")]) [
      .append (.loc "row") (.sub (.loc "where") (.loc "place"))],
    .append (.loc "sides") (.loc "side"),
    .append (.loc "after") (.loc "row"),
    .append (.loc "lost") (.all [(.cmp .Eq (.loc "side") (.glob "WEAK_MOVES")), (.cmp .Eq (.loc "row") (.lst [])), (.cmp .Eq (.sub (.loc "table") (.bin .Sub (.loc "n") (.loc "half"))) (.glob "NOT_A_PLACE"))])]

noncomputable def bzNames : List String := ["n", "side", "strong", "piece", "weak", "row", "origin", "goal", "place"]
theorem BLoc.of {g t pa d A : Nat} {b : Bd} {m m' : Loc} (h : BLoc g t pa d A b m) (e : ∀ y, y ∉ bzNames → m' y = m y) : BLoc g t pa d A b m' :=
  ⟨by rw [e _ (by decide)]; exact h.geo, by rw [e _ (by decide)]; exact h.kind, by rw [e _ (by decide)]; exact h.half, by rw [e _ (by decide)]; exact h.table, by rw [e _ (by decide)]; exact h.places, by rw [e _ (by decide)]; exact h.where_, by rw [e _ (by decide)]; exact h.sides, by rw [e _ (by decide)]; exact h.after, by rw [e _ (by decide)]; exact h.lost⟩

/-- the dictionary knows each place -/
noncomputable def WhOk (b : Bd) (f : Int → Option V) : Prop := f (-1) = some (.int (-1)) ∧ ∀ k x : Nat, (placesOf b)[k]? = some x → f (x : Int) = some (.int (k : Int))
theorem WhOk.get {b : Bd} {f : Int → Option V} (h : WhOk b f) {q : Option Pl} (hq : ∀ p, q = some p → p.In b.s ∧ stands b p = true) : f (ixOf b.s q) = some (.int (whI b q)) := by
  cases q with
  | none => exact h.1
  | some p =>
    obtain ⟨h1, h2⟩ := hq p rfl
    exact h.2 _ _ (place_pos h1 h2).2

section
variable {C : Ctx} (P : Prg C) {X : Store → Prop} {σ : Store}
include P

theorem bz_row {σ0 : Store} {g t pa d A : Nat} {b : Bd} (o : b.Ok) (hG : GeoIs σ0 g b.G) {tbl : List Int} (mk : Marks b tbl) {f : Int → Option V} (hf : WhOk b f) {i x : Nat} (hx : (placesOf b)[i]? = some x) {σ' : Store} {rr : List Nat} (hrr : rr.length = i)
    (Z : BZ b σ0 σ' t pa d A tbl f ((sidesOf b).take i) rr ((lostsOf b).take i)) {m : Loc} (L : BLoc g t pa d A b m) (hn : m "n" = some (.int x)) {Q : Fl → Loc → Store → Prop}
    (hQ : ∀ m' σ'' rr', BLoc g t pa d A b m' → rr'.length = i + 1 → BZ b σ0 σ'' t pa d A tbl f ((sidesOf b).take (i + 1)) rr' ((lostsOf b).take (i + 1)) → Q .next m' σ'') : wpSs C 16 X bzRow m σ' Q := by
  have hs : b.s ≤ 12 := o.s12
  have hcube := o.cube
  have hpl := places_len (b := b)
  have hil : i < (placesOf b).length := (List.getElem?_eq_some_iff.mp hx).1
  obtain ⟨p, hp, hxp, hplo, hst, hidx⟩ := place_at hx
  have hne := Z.ne
  have hAl : A + 2 < σ'.length := (List.getElem?_eq_some_iff.mp Z.l).1
  unfold bzRow
  refine step fun K hK hR hC => (ob_i L.geo ((hG.keep Z.k).i_size (ob_i hn (SemCall.mono ((s_parts P b.s ⟨o.spos, hs⟩ x).up (b := 15) (by decide)) (fun v σ2 ⟨hv, hσ2⟩ => ?_) fun _ h => h))))
  subst hv hσ2
  rw [hplo]
  refine (hK _ _ (step fun K hK hR hC => ?_))
  refine hK _ _ (step fun K hK hR hC => ?_)
  have ra := append_here σ2 []
  have kr : Keep σ2 (σ2 ++ [AObj.list []]) := Keep.snoc _ _
  have Lm : BLoc g t pa d A b (upd (upd (upd (upd (upd m "side" (.int p.side)) "strong" (.int p.king)) "piece" (.int p.man)) "weak" (.int p.bare)) "row" (.ref σ2.length)) := L.of fun y hy => by
    simp only [bzNames, List.mem_cons, List.not_mem_nil, or_false, not_or] at hy
    simp [upd, hy]
  have u1 : upd (upd (upd (upd (upd m "side" (.int p.side)) "strong" (.int p.king)) "piece" (.int p.man)) "weak" (.int p.bare)) "row" (.ref σ2.length) "side" = some (.int p.side) := rfl
  have u2 : upd (upd (upd (upd (upd m "side" (.int p.side)) "strong" (.int p.king)) "piece" (.int p.man)) "weak" (.int p.bare)) "row" (.ref σ2.length) "strong" = some (.int p.king) := rfl
  have u3 : upd (upd (upd (upd (upd m "side" (.int p.side)) "strong" (.int p.king)) "piece" (.int p.man)) "weak" (.int p.bare)) "row" (.ref σ2.length) "piece" = some (.int p.man) := rfl
  have u4 : upd (upd (upd (upd (upd m "side" (.int p.side)) "strong" (.int p.king)) "piece" (.int p.man)) "weak" (.int p.bare)) "row" (.ref σ2.length) "weak" = some (.int p.bare) := rfl
  have u5 : upd (upd (upd (upd (upd m "side" (.int p.side)) "strong" (.int p.king)) "piece" (.int p.man)) "weak" (.int p.bare)) "row" (.ref σ2.length) "row" = some (.ref σ2.length) := rfl
  have u6 : upd (upd (upd (upd (upd m "side" (.int p.side)) "strong" (.int p.king)) "piece" (.int p.man)) "weak" (.int p.bare)) "row" (.ref σ2.length) "n" = some (.int x) := hn
  generalize upd (upd (upd (upd (upd m "side" (.int p.side)) "strong" (.int p.king)) "piece" (.int p.man)) "weak" (.int p.bare)) "row" (.ref σ2.length) = m1 at Lm u1 u2 u3 u4 u5 u6 ⊢
  have Zr := Z.keep kr
  generalize hσ3 : σ2 ++ [AObj.list []] = σ3 at ra kr Zr ⊢
  have hl3 : σ3.length = σ2.length + 1 := by rw [← hσ3]; simp
  refine (ob_i Lm.geo (ob_i Lm.table (ob_i Lm.kind (ob_i u1 (ob_i u2 (ob_i u3 (ob_i u4 ?_)))))))
  refine SemCall.mono (s_moves P o (hG.keep Zr.k) Zr.tab mk p hp) (fun v σ4 ⟨hv, hσ4⟩ => ?_) fun _ h => h
  subst hv
  have k4 : Keep σ3 σ4 := by rw [hσ4]; exact Keep.snoc _ _
  have mv4 : σ4[σ3.length]? = some (.list ((moves b p).map (mvV b.s))) := by rw [hσ4]; exact append_here _ _
  have hml := moves_len b p
  refine ob_i (listAt_of mv4) ?_
  refine forW_inv (fun j m σ'' => (∀ y, y ∉ bzNames → m y = m1 y) ∧ m "side" = some (.int p.side) ∧ m "row" = some (.ref σ2.length) ∧ m "n" = some (.int x) ∧ Keep σ2 σ'' ∧ σ''[σ2.length]? = some (.list ((((moves b p).take j).map fun w => whI b w.2.2).map V.int)) ∧ σ''[σ3.length]? = some (.list ((moves b p).map (mvV b.s)))) ?_ ?_ ?_ _ 0 _ _ rfl (Nat.zero_le _)
    ⟨fun _ _ => rfl, u1, u5, u6, kr.trans k4, by simpa using k4 _ _ ra, mv4⟩
  · rintro j m σ'' ⟨_, _, _, _, _, _, h⟩; exact listAt_of h
  · rintro j v m2 σ'' hv ⟨e0, e1, e2, e3, kk, hrow, hmv⟩ K k1 k2 k3
    obtain ⟨w, hw, rfl, htk⟩ := map_getElem hv
    have hj : j < (moves b p).length := (List.getElem?_eq_some_iff.mp hw).1
    have hwm : w ∈ moves b p := List.mem_of_getElem? hw
    have Z2 := Z.keep kk
    obtain ⟨dn, hd⟩ := Z2.dict
    refine (step fun K' hK' hR' hC' => ?_)
    refine (ob_i e2 ⟨isListV_at hrow, ob_i ((e0 "where" (by decide)).trans Lm.where_) (ob_i rfl (ob_i rfl (ob_i hd ?_)))⟩)
    refine (ob_i (hf.get fun q hq => by have := (ways_is (moves_ways.mp hwm)).in_ hp hq; exact ⟨this.1, this.2.1⟩) ?_)
    refine (ob_i (appendV_at hrow (by simp; omega)) (hK' _ _ ((k1 _ _ ⟨fun y hy => ?_, e1, e2, e3, kk.set (Nat.le_refl _) _, ?_, ?_⟩))))
    · have hy' := hy
      simp only [bzNames, List.mem_cons, List.not_mem_nil, or_false, not_or] at hy'
      simp [upd, hy']; exact e0 y hy
    · rw [set_at hrow, htk]; simp
    · rw [set_ne (by omega)]; exact hmv
  · rintro m2 σ'' ⟨e0, e1, e2, e3, kk, hrow, hmv⟩
    rw [List.length_map, List.take_length] at hrow
    have L2 : BLoc g t pa d A b m2 := Lm.of e0
    have Z2 := Z.keep kk
    have haft : afterOf b i = (moves b p).map fun w => whI b w.2.2 := by unfold afterOf; rw [hx]; simp only [rowAt, hplo]
    have hsl : ((sidesOf b).take i).length = i := by simp [sidesOf]; omega
    have hll : ((lostsOf b).take i).length = i := by simp [lostsOf]; omega
    have hsk : (sidesOf b).take (i + 1) = (sidesOf b).take i ++ [(p.side : Int)] := by
      rw [List.take_add_one]; unfold sidesOf; rw [List.getElem?_map, hx]; simp [hplo]
    have hlk : (lostsOf b).take (i + 1) = (lostsOf b).take i ++ [lostAt b x] := by
      rw [List.take_add_one]; unfold lostsOf; rw [List.getElem?_map, hx]; simp
    refine hK _ _ (step fun K hK hR hC => ?_)
    refine (ob_i L2.sides ⟨isListV_at Z2.s, ob_i e1 (ob_i (appendV_at Z2.s (by rw [List.length_map, hsl]; omega)) (hK _ _ (step fun K hK hR hC => ?_)))⟩)
    have Z3 := Z2.setS ((sidesOf b).take (i + 1))
    rw [show ((sidesOf b).take (i + 1)).map V.int = ((sidesOf b).take i).map V.int ++ [V.int p.side] by rw [hsk]; simp] at Z3
    have hrow3 : (σ''.set A (AObj.list (((sidesOf b).take i).map V.int ++ [V.int p.side])))[σ2.length]? = some (.list (((moves b p).map fun w => whI b w.2.2).map V.int)) := by rw [set_ne (by omega)]; exact hrow
    generalize σ''.set A (AObj.list (((sidesOf b).take i).map V.int ++ [V.int p.side])) = σ5 at Z3 hrow3 ⊢
    refine (ob_i L2.after ⟨isListV_at Z3.a, ob_i e2 (ob_i (appendV_at Z3.a (by rw [List.length_map, hrr]; omega)) (hK _ _ (step fun K hK hR hC => ?_)))⟩)
    have Z4 := Z3.setA σ2.length (by omega) (by rw [hrr, haft]; exact hrow3)
    rw [show (rr ++ [σ2.length]).map V.ref = rr.map V.ref ++ [V.ref σ2.length] by simp] at Z4
    have hrow4 : (σ5.set (A + 1) (AObj.list (rr.map V.ref ++ [V.ref σ2.length])))[σ2.length]? = some (.list (((moves b p).map fun w => whI b w.2.2).map V.int)) := by rw [set_ne (by omega)]; exact hrow3
    generalize σ5.set (A + 1) (AObj.list (rr.map V.ref ++ [V.ref σ2.length])) = σ6 at Z4 hrow4 ⊢
    have fin : ∀ σ7 r, Keep σ6 σ7 → r = lostAt b x → ob (appendV σ7 (.ref (A + 2)) (.bool r)) fun σ8 => K .next m2 σ8 := by
      rintro σ7 r k7 rfl
      have Z7 := Z4.keep k7
      refine (ob_i (appendV_at Z7.l (by rw [List.length_map, hll]; omega)) (hK _ _ ?_))
      have Z8 := Z7.setL ((lostsOf b).take (i + 1))
      rw [show ((lostsOf b).take (i + 1)).map V.bool = ((lostsOf b).take i).map V.bool ++ [V.bool (lostAt b x)] by rw [hlk]; simp] at Z8
      exact hQ _ _ _ L2 (by simp [hrr]) Z8
    have hlat : lostAt b x = (decide (p.side = 1) && (decide (moves b p = []) && !stands b ⟨0, p.king, p.man, p.bare⟩)) := by unfold lostAt; rw [hplo]
    have k7 : Keep σ6 (σ6 ++ [AObj.list []]) := Keep.snoc _ _
    have hrow7 := k7 _ _ hrow4
    have h07 : (σ6 ++ [AObj.list []])[σ6.length]? = some (.list []) := append_here _ _
    have Z7 := Z4.keep k7
    have hem : ∀ l : List Way, ((l.map fun w => whI b w.2.2).map V.int).isEmpty = decide (l = []) := fun l => by cases l <;> rfl
    refine (ob_i L2.lost ⟨isListV_at Z4.l, ob_i e1 (ite_i (fun h => ?_) fun h => ?_)⟩)
    · have h1 : p.side = 1 := cast_t (b := 1) h
      refine (ob_i e2 (ob_i (eq_nilv hrow7 h07) (ite_i (fun h2 => ?_) fun h2 => ?_)))
      · rw [hem] at h2
        have hin : (⟨0, p.king, p.man, p.bare⟩ : Pl).In b.s := ⟨(show 0 < 2 by decide), hp.king, hp.man, hp.bare⟩
        have hx0 : x = b.s * b.s * b.s + idx b.s ⟨0, p.king, p.man, p.bare⟩ := by
          rw [hxp]; unfold idx; rw [h1]
          simp only [Nat.zero_mul, Nat.one_mul, Nat.zero_add, Nat.add_mul]; omega
        have hx1 : ((x : Int) - (b.s * b.s * b.s : Nat)) = (idx b.s ⟨0, p.king, p.man, p.bare⟩ : Nat) := by omega
        have hit : ∀ {Q : V → Prop}, Q (.int (at_ tbl (idx b.s ⟨0, p.king, p.man, p.bare⟩))) → wpItem (.ref t) (.int ((x : Int) - (b.s * b.s * b.s : Nat))) (σ6 ++ [AObj.list []]) Q := fun hq => by rw [hx1]; exact Z7.tab.item o hin hq
        exact (ob_i L2.table (ob_i e3 (ob_i L2.half (hit (fin _ _ k7 (by rw [mk.st hin, hlat, decide_eq_true h1, h2]; rfl))))))
      · have h2' := h2
        rw [hem] at h2
        exact fin _ _ k7 (by rw [h2', hlat, h2, Bool.false_and, Bool.and_false])
    · exact fin _ _ (Keep.refl _) (by rw [h, hlat, decide_eq_false (cast_f (b := 1) h), Bool.false_and])
end
end Mine

end

section
open PySem
set_option linter.unusedVariables false
set_option linter.unusedSimpArgs false
set_option maxRecDepth 100000
set_option tactic.hygienic false
namespace Mine

theorem setItemV_dict {σ : Store} {a n : Nat} {f : Int → Option V} {k : Int} {v : V} (h : σ[a]? = some (.dict f n)) (hn : n < 1000000) : setItemV σ (.ref a) (.int k) v = some (σ.set a (.dict (fun j => if j = k then some v else f j) (n + 1))) := by
  show (obd σ[a]? fun o => obd (setO k v o) fun o' => some (σ.set a o')) = _
  rw [h]; simp [obd, grd, setO, hn]
theorem solve_in {b : Bd} (o : b.Ok) {σ0 σ' : Store} {t pa d A : Nat} {tbl : List Int} {f : Int → Option V} {rr : List Nat} (hrr : rr.length = (placesOf b).length)
    (Z : BZ b σ0 σ' t pa d A tbl f ((sidesOf b).take (placesOf b).length) rr ((lostsOf b).take (placesOf b).length)) : SolveIn σ' A (A + 1) (A + 2) (placesOf b).length (afterOf b) (sidesOf b) (lostsOf b) := by
  have hcube := o.cube
  have hpl := places_len (b := b)
  have hs : b.s ≤ 12 := o.s12
  have l1 : (sidesOf b).length = (placesOf b).length := by simp [sidesOf]
  have l2 : (lostsOf b).length = (placesOf b).length := by simp [lostsOf]
  refine ⟨by omega, l1, l2, ?_, ?_, ⟨rr, hrr, Z.a, fun n hn => ?_⟩, fun n hn => ?_, fun n hn k hk => ?_⟩
  · have := Z.s; rwa [← l1, List.take_length] at this
  · have := Z.l; rwa [← l2, List.take_length] at this
  · have hn' : n < rr.length := by omega
    exact ⟨rr[n], List.getElem?_eq_getElem hn', (Z.rows n _ (List.getElem?_eq_getElem hn')).2⟩
  · unfold afterOf
    rw [List.getElem?_eq_getElem hn]
    simp only [rowAt, List.length_map]
    have := moves_len b (plOf b.s (placesOf b)[n]); omega
  · have hx := List.getElem?_eq_getElem hn
    obtain ⟨p, hp, hxp, hplo, hst, hidx⟩ := place_at hx
    unfold afterOf at hk
    rw [hx] at hk
    simp only [rowAt, hplo] at hk
    obtain ⟨w, hw, rfl⟩ := List.mem_map.mp hk
    have hwi := ways_is (moves_ways.mp hw)
    cases hq : w.2.2 with
    | none => simp only [whI]; omega
    | some q =>
      obtain ⟨q1, q2, _⟩ := hwi.in_ hp hq
      have := (place_pos q1 q2).1
      simp only [whI]; omega

section
variable {C : Ctx} (P : Prg C) {X : Store → Prop} {σ : Store}
include P

theorem s_build {g : Nat} {b : Bd} (o : b.Ok) (hG : GeoIs σ g b.G) {zm : Int} (hz : ∀ a, a < b.s → bit zm a = if a ∈ b.zone then 1 else 0) :
    SemCall C 17 "build_zone" [.ref g, .int b.kind, .int zm] σ (fun v σ' => ∃ t tbl, v = .ref t ∧ Keep σ σ' ∧ Tab b σ' t tbl ∧ TblOk b tbl) X := by
  refine P.call P.f_build_zone rfl ?_
  have hs : b.s ≤ 12 := o.s12
  have hcube := o.cube
  have hpl := places_len (b := b)
  have hkd := o.kind
  refine step fun K hK hR hC => (ite_i (fun h => by have := of_decide_eq_true h; omega) fun _ => (ite_i (fun h => by have := of_decide_eq_true h; omega) fun _ => hK _ _ (step fun K hK hR hC => ?_)))
  have hsn : ((b.G.files * b.G.ranks : Nat) : Int).natAbs < 2 ^ 64 := by have : b.G.files * b.G.ranks ≤ 12 := hs; omega
  suffices key : ∀ x, x = ((b.s * b.s * b.s : Nat) : Int) → K .next (upd (upd (upd (upd (fun _ => none) "geo" (.ref g)) "kind" (.int b.kind)) "zone" (.int zm)) "half" (.int x)) σ from
    (hG.i_size (hG.i_size ⟨.inr hsn, hG.i_size ⟨.inr hsn, key _ (by push_cast; rfl)⟩⟩))
  rintro x rfl
  refine hK _ _ (step fun K hK hR hC => ?_)
  have h2s : 2 * (b.s * b.s * b.s) = 2 * b.s * b.s * b.s := by simp [Nat.mul_assoc]
  suffices key : ∀ n, n = 2 * b.s * b.s * b.s → K .next (upd (upd (upd (upd (upd (fun _ => none) "geo" (.ref g)) "kind" (.int b.kind)) "zone" (.int zm)) "half" (.int (b.s * b.s * b.s : Nat))) "table" (.ref (σ ++ [AObj.list [.int (-2)]]).length)) ((σ ++ [AObj.list [.int (-2)]]) ++ [AObj.list (List.replicate n (V.int (-2)))]) from
    ⟨.inl (by decide), ob_i (a := .int (-2)) (by rw [listAt_of (append_here _ _)]; rfl) ⟨⟨by omega, by omega⟩, key _ (by omega)⟩⟩
  rintro n rfl
  have hts : ((σ ++ [AObj.list [.int (-2)]]) ++ [AObj.list (List.replicate (2 * b.s * b.s * b.s) (V.int (-2)))])[(σ ++ [AObj.list [.int (-2)]]).length]? = some (.list ((List.replicate (2 * b.s * b.s * b.s) (-2)).map V.int)) := by rw [append_here]; simp
  have kts : Keep σ ((σ ++ [AObj.list [.int (-2)]]) ++ [AObj.list (List.replicate (2 * b.s * b.s * b.s) (V.int (-2)))]) := (Keep.snoc _ _).trans (Keep.snoc _ _)
  have ht : σ.length ≤ (σ ++ [AObj.list [.int (-2)]]).length := by simp
  generalize ((σ ++ [AObj.list [.int (-2)]]) ++ [AObj.list (List.replicate (2 * b.s * b.s * b.s) (V.int (-2)))]) = σ1 at hts kts ⊢
  generalize (σ ++ [AObj.list [.int (-2)]]).length = t at hts ht ⊢
  refine hK _ _ (step fun K hK hR hC => ?_)
  refine SemCall.mono ((s_mark P o kts hG ht hts hz).up (b := 15) (by decide)) (fun v σ2 ⟨pa, tbl, hv, k2, hpat, hpal, hpls, hTab, hat⟩ => ?_) fun _ h => h
  subst hv
  have mk : Marks b tbl := by
    intro p hp
    rw [hat _ (idx_lt hp)]
    cases hst : stands b p
    · rw [if_neg]
      · simp
      · intro hm
        obtain ⟨q, hq, e, hsq⟩ := mem_placesOf.mp hm
        rw [idx_inj hp hq e, hsq] at hst; cases hst
    · rw [if_pos (mem_placesOf.mpr ⟨p, hp, rfl, hst⟩)]; simp
  refine hK _ _ (step fun K hK hR hC => ?_)
  have ht2 : t < σ2.length := (List.getElem?_eq_some_iff.mp hTab.here).1
  have hp2 : pa < σ2.length := (List.getElem?_eq_some_iff.mp hpls).1
  have k3 : Keep σ2 (σ2 ++ [AObj.dict (fun j => if j = -1 then some (V.int (-1)) else none) 1]) := Keep.snoc _ _
  have hd3 : (σ2 ++ [AObj.dict (fun j => if j = -1 then some (V.int (-1)) else none) 1])[σ2.length]? = some (AObj.dict (fun j => if j = -1 then some (V.int (-1)) else none) 1) := snoc_at _ _
  refine hK _ _ (step fun K hK hR hC => ?_)
  have hTab3 := hTab.keep k3
  have hpls3 := k3 _ _ hpls
  have k03 := k2.trans k3
  generalize (σ2 ++ [AObj.dict (fun j => if j = -1 then some (V.int (-1)) else none) 1]) = σ3 at hd3 hTab3 hpls3 k03 ⊢
  generalize hdl : σ2.length = d at hd3 ht2 hp2 ⊢
  have hσl : σ.length ≤ d := by have := k2.len; omega
  refine (wpB_len hpls3 (by simp [nV]; omega) (wpB_range (by simp [nV]; omega) ?_))
  rw [show (nV (placesOf b)).length = (placesOf b).length by simp [nV]]
  refine forW_rng (a := 0) (b := (placesOf b).length) (Nat.zero_le _) (fun i m σ' => (∀ y, y ≠ "k" → m y = upd (upd (upd (upd (upd (upd (upd (fun _ => none) "geo" (.ref g)) "kind" (.int b.kind)) "zone" (.int zm)) "half" (.int (b.s * b.s * b.s : Nat))) "table" (.ref t)) "places" (.ref pa)) "where" (.ref d) y) ∧
      Keep σ σ' ∧ Tab b σ' t tbl ∧ σ'[pa]? = some (.list (nV (placesOf b))) ∧ ∃ f n, σ'[d]? = some (.dict f n) ∧ n = i + 1 ∧ f (-1) = some (.int (-1)) ∧ ∀ k x : Nat, k < i → (placesOf b)[k]? = some x → f (x : Int) = some (.int (k : Int)))
    ⟨fun _ _ => rfl, k03, hTab3, hpls3, _, _, hd3, rfl, by simp, fun k x hk => by omega⟩ ?_ ?_
  · clear hTab3 hpls3 k03 hd3
    rintro i m σ' _ hi ⟨hm, kk, hT, hp, f, n, hd, rfl, hf1, hf2⟩ K k1 k2 k3
    obtain ⟨x, hx⟩ : ∃ x, (placesOf b)[i]? = some x := ⟨_, List.getElem?_eq_getElem hi⟩
    have r1 : m "places" = some (.ref pa) := hm _ (by decide)
    have r2 : m "where" = some (.ref d) := hm _ (by decide)
    refine step fun K' hK' hR' hC' => (ob_i r2 (ob_i r1 (item_get (x := .int x) hp (nV_get hx) (by omega) (ob_i (setItemV_dict hd (by omega)) (hK' _ _ (k1 _ _ ⟨fun y hy => (upd_ne hy).trans (hm y hy), kk.set hσl _, ⟨by rw [set_ne (by omega)]; exact hT.here, hT.len⟩, by rw [set_ne (by omega)]; exact hp, _, _, set_at hd, rfl, ?_, ?_⟩))))))
    · rw [if_neg (by omega)]; exact hf1
    · intro k y hk hy
      by_cases e : k = i
      · subst e
        rw [hx] at hy; cases hy
        simp
      · have hxy : y ≠ x := by
          intro e'; subst e'
          have h1 := (place_at hx).choose_spec.2.2.2.2
          have h2 := (place_at hy).choose_spec.2.2.2.2
          omega
        rw [if_neg (by omega)]
        exact hf2 k y (by omega) hy
  clear hTab3 hpls3 k03 hd3
  rintro m σ4 ⟨hm, kk, hT, hp, f, n, hd, rfl, hf1, hf2⟩
  have hwh : WhOk b f := ⟨hf1, fun k x hx => hf2 k x (List.getElem?_eq_some_iff.mp hx).1 hx⟩
  refine hK _ _ (step fun K hK hR hC => ?_)
  refine hK _ _ (step fun K hK hR hC => ?_)
  refine hK _ _ (step fun K hK hR hC => ?_)
  refine hK _ _ (step fun K hK hR hC => ?_)
  have hdl4 : d < σ4.length := (List.getElem?_eq_some_iff.mp hd).1
  have lA : (σ4 ++ [AObj.list []]).length = σ4.length + 1 := by simp
  have lB : ((σ4 ++ [AObj.list []]) ++ [AObj.list []]).length = σ4.length + 2 := by simp
  rw [lA, lB]
  have kA : Keep σ4 (((σ4 ++ [AObj.list []]) ++ [AObj.list []]) ++ [AObj.list []]) := ((Keep.snoc _ _).trans (Keep.snoc _ _)).trans (Keep.snoc _ _)
  have Z : BZ b σ (((σ4 ++ [AObj.list []]) ++ [AObj.list []]) ++ [AObj.list []]) t pa d σ4.length tbl f ((sidesOf b).take 0) [] ((lostsOf b).take 0) :=
    ⟨kk.trans kA, hT.keep kA, kA _ _ hp, ⟨_, kA _ _ hd⟩, by simp, by simp, by simp, fun n r e => by simp at e, ⟨by omega, by omega, by omega, by have := kk.len; omega⟩⟩
  generalize (((σ4 ++ [AObj.list []]) ++ [AObj.list []]) ++ [AObj.list []]) = σ5 at Z ⊢
  generalize σ4.length = A at Z ⊢
  have L : BLoc g t pa d A b (upd (upd (upd m "sides" (.ref A)) "after" (.ref (A + 1))) "lost" (.ref (A + 2))) := by
    refine ⟨?_, ?_, ?_, ?_, ?_, ?_, rfl, rfl, rfl⟩ <;> simp only [upd] <;> (rw [if_neg (by decide), if_neg (by decide), if_neg (by decide), hm _ (by decide)]; simp [upd])
  generalize (upd (upd (upd m "sides" (.ref A)) "after" (.ref (A + 1))) "lost" (.ref (A + 2))) = m5 at L ⊢
  refine ob_i L.places (ob_i (listAt_of Z.pl) ?_)
  refine forW_inv (fun i m σ' => BLoc g t pa d A b m ∧ ∃ rr, rr.length = i ∧ BZ b σ σ' t pa d A tbl f ((sidesOf b).take i) rr ((lostsOf b).take i)) ?_ ?_ ?_ _ 0 _ _ rfl (Nat.zero_le _) ⟨L, [], rfl, Z⟩
  · rintro i m σ' ⟨_, rr, _, Z⟩; exact listAt_of Z.pl
  · rintro i v m σ' hv ⟨L, rr, hrr, Z⟩ K k1 k2 k3
    obtain ⟨x, hx, rfl⟩ := nV_get' hv
    refine bz_row P o hG mk hwh hx hrr Z (L.of fun y hy => by
      have : y ≠ "n" := fun e => by subst e; exact hy (by decide)
      simp [upd, this]) upd_same fun m' σ'' rr' L' hrr' Z' => ?_
    exact k1 _ _ ⟨L', rr', hrr', Z'⟩
  clear Z L
  rintro m6 σ6 ⟨L, rr, hrr, Z⟩
  rw [show (nV (placesOf b)).length = (placesOf b).length by simp [nV]] at hrr Z
  have hSI := solve_in o hrr Z
  refine hK _ _ (step fun K hK hR hC => ?_)
  refine (ob_i L.sides (ob_i L.after (ob_i L.lost ?_)))
  refine SemCall.mono ((s_solve P hSI).up (b := 15) (by decide)) (fun v σ7 ⟨va, vals, left, D, c, hv, hval, hva, k7, I⟩ => ?_) fun _ h => h
  subst hv
  have Z7 := Z.keep k7
  have hvl := I.lenv
  refine hK _ _ (step fun K hK hR hC => ?_)
  have L7 : BLoc g t pa d A b (upd m6 "values" (.ref va)) := by
    refine ⟨?_, ?_, ?_, ?_, ?_, ?_, ?_, ?_, ?_⟩ <;> simp only [upd] <;> rw [if_neg (by decide)]
    · exact L.geo
    · exact L.kind
    · exact L.half
    · exact L.table
    · exact L.places
    · exact L.where_
    · exact L.sides
    · exact L.after
    · exact L.lost
  have hv7 : upd m6 "values" (.ref va) "values" = some (.ref va) := upd_same
  generalize upd m6 "values" (.ref va) = m7 at L7 hv7 ⊢
  have htva : t ≠ va := by
    have := (List.getElem?_eq_some_iff.mp Z.tab.here).1
    omega
  refine (ob_i L7.places (wpB_len Z7.pl (by simp [nV]; omega) (wpB_range (by simp [nV]; omega) ?_)))
  rw [show (nV (placesOf b)).length = (placesOf b).length by simp [nV]]
  have htA := Z7.ne
  refine forW_rng (a := 0) (b := (placesOf b).length) (Nat.zero_le _) (fun i m σ' => m "table" = some (.ref t) ∧ m "places" = some (.ref pa) ∧ m "values" = some (.ref va) ∧
      Keep σ σ' ∧ σ'[pa]? = some (.list (nV (placesOf b))) ∧ σ'[va]? = some (.list (vals.map V.int)) ∧ ∃ tbl', Tab b σ' t tbl' ∧ ∀ n, n < 2 * b.s * b.s * b.s → at_ tbl' n = if n ∈ (placesOf b).take i then at_ vals ((placesOf b).idxOf n) else at_ tbl n)
    ⟨L7.table, L7.places, hv7, Z7.k, Z7.pl, hva, tbl, Z7.tab, fun n hn => by simp⟩ ?_ ?_
  · rintro i m σ' _ hi ⟨m1, m2, m3, kk, hp, hva, tbl', hT, hat'⟩ K k1 k2 k3
    obtain ⟨x, hx⟩ : ∃ x, (placesOf b)[i]? = some x := ⟨_, List.getElem?_eq_getElem hi⟩
    have hxl := places_lt (List.mem_of_getElem? hx)
    have hl := hT.len
    refine step fun K' hK' hR' hC' => ?_
    refine (ob_i m3 (ob_i upd_same (item_get (x := .int (at_ vals i)) hva (at_get (by omega)) (by omega) ?_)))
    refine (ob_i m1 (ob_i m2 (ob_i upd_same (item_get (x := .int x) hp (nV_get hx) (by omega) ?_))))
    refine (ob_i (setItemV_at hT.here (by simp; omega) (by simp; omega)) (hK' _ _ ((k1 _ _ ⟨m1, m2, m3, kk.set ht _, by rw [set_ne (by omega)]; exact hp, by rw [set_ne htva]; exact hva, tbl'.set x (at_ vals i), ⟨?_, by simp [hl]⟩, ?_⟩))))
    · rw [set_at hT.here, List.map_set]
    · intro n hn
      rw [at_set (by omega), hat' n hn]
      have htk : (placesOf b).take (i + 1) = (placesOf b).take i ++ [x] := by rw [List.take_add_one, hx]; rfl
      rw [htk]
      by_cases e : n = x
      · subst e
        have := (place_at hx).choose_spec.2.2.2.2
        simp [this]
      · simp [e]
  · rintro m σ' ⟨m1, m2, m3, kk, hp, hva, tbl', hT, hat'⟩
    refine hK _ _ (step fun K hK hR hC => ?_)
    refine (ob_i m1 (hR _ _ _ ⟨t, tbl', rfl, kk, hT, tbl_ok hT.len I fun n hn => ?_⟩))
    rw [hat' n hn, List.take_length, hat n hn]
    split <;> simp_all
end
end Mine

end

section
open PySem PyProof.Rows
set_option linter.unusedVariables false
set_option maxRecDepth 100000
set_option tactic.hygienic false
namespace Mine

noncomputable def mskN (f : Nat → Bool) : Nat → Nat
  | 0 => 0
  | n + 1 => if f n then 2 ^ n + mskN f n else mskN f n
theorem mskN_lt (f : Nat → Bool) : ∀ n, mskN f n < 2 ^ n
  | 0 => by simp [mskN]
  | n + 1 => by
    have := mskN_lt f n
    rw [mskN, Nat.pow_succ]
    split <;> omega
theorem mskN_bit (f : Nat → Bool) : ∀ n k, k < n → (mskN f n).testBit k = f k
  | 0, k, h => by omega
  | n + 1, k, h => by
    have hl := mskN_lt f n
    rw [mskN]
    by_cases e : k = n
    · subst e
      split
      · rename_i hf
        have := Nat.testBit_two_pow_mul_add 1 hl k
        rw [Nat.mul_one] at this
        rw [this]; simp [hf]
      · rename_i hf
        rw [Nat.testBit_lt_two_pow hl]; simpa using hf
    · have hk : k < n := by omega
      split
      · have := Nat.testBit_two_pow_mul_add 1 hl k
        rw [Nat.mul_one] at this
        rw [this, if_pos hk]; exact mskN_bit f n k hk
      · exact mskN_bit f n k hk
theorem bit_nat (n k : Nat) : bit (n : Int) k = if n.testBit k then 1 else 0 := by
  unfold bit
  have h1 : ((n : Int) / 2 ^ k) = ((n / 2 ^ k : Nat) : Int) := by push_cast; rfl
  rw [h1, bitAnd_pp (Int.natCast_nonneg _) (by decide)]
  simp only [Int.toNat_natCast]
  rw [show (1 : Int).toNat = 1 from rfl, Nat.and_one_is_mod, Nat.testBit_eq_decide_div_mod_eq]
  have := Nat.mod_lt (n / 2 ^ k) (show 0 < 2 by decide)
  by_cases h : n / 2 ^ k % 2 = 1
  · simp [h]
  · have : n / 2 ^ k % 2 = 0 := by omega
    simp [this]
theorem bit_msk (f : Nat → Bool) {n k : Nat} (h : k < n) : bit (mskN f n : Nat) k = if f k = true then 1 else 0 := by
  rw [bit_nat, mskN_bit f n k h]

theorem strikes_two (f kind o g a c : Int) : strikes f kind o g [a, c] = (strikes f kind o g [a] && strikes f kind o g [c]) := by
  unfold strikes strikesC
  split
  · simp
  · split
    · rw [Bool.eq_iff_iff]
      simp only [Bool.and_eq_true, List.all_eq_true, Bool.not_eq_true', decide_eq_false_iff_not, List.mem_cons, List.not_mem_nil, or_false, not_or]
      constructor
      · intro h; exact ⟨fun x hx => (h x hx).1, fun x hx => (h x hx).2⟩
      · rintro ⟨h1, h2⟩ x hx; exact ⟨h1 x hx, h2 x hx⟩
    · rfl

noncomputable def allB (n : Nat) (p : Nat → Bool) : Bool := (List.range n).all p
theorem allB_ok {n : Nat} {p : Nat → Bool} (h : allB n p = true) (i : Nat) (hi : i < n) : p i = true := List.all_eq_true.mp h i (List.mem_range.mpr hi)
noncomputable def cKing (b : Bd) : Bool := allB b.s fun a => b.kingOf a == (mskN (fun c => b.tch a c) b.s : Nat)
noncomputable def cFree (b : Bd) : Bool := allB b.s fun a => allB b.s fun m => b.freeOf a m == (mskN (fun c => !b.tch a c && !decide (c = a) && !decide (c = m)) b.s : Nat)
noncomputable def sh (k b : Nat) : Nat := b ||| (b / k)
noncomputable def rayN (up : Bool) (ray occ : Nat) : Nat :=
  if ray &&& occ = 0 then ray
  else if up then ray &&& (((ray &&& occ) ||| ((ray &&& occ) - 1)) - ((ray &&& occ) &&& ((ray &&& occ) - 1)))
  else ray - (ray &&& sh 4294967296 (sh 65536 (sh 256 (sh 16 (sh 4 (sh 2 ((ray &&& occ) / 2)))))))
theorem or_nat (m n : Nat) : Builtin.bitOr (m : Int) n = (m ||| n : Nat) := by
  rw [bitOr_and, bitAnd_pp (Int.natCast_nonneg _) (Int.natCast_nonneg _)]
  have := nat_or_add_and m n
  simp only [Int.toNat_natCast]
  omega
theorem and_nat (m n : Nat) : Builtin.bitAnd (m : Int) n = (m &&& n : Nat) := by
  rw [bitAnd_pp (Int.natCast_nonneg _) (Int.natCast_nonneg _)]; simp
theorem sh_nat (k b : Nat) : Builtin.bitOr (b : Int) ((b : Int) / (k : Nat)) = (sh k b : Nat) := by
  rw [show (b : Int) / (k : Nat) = ((b / k : Nat) : Int) by push_cast; rfl, or_nat]; rfl
theorem rayAtt_nat (d ray occ : Nat) : rayAtt d (ray : Int) (occ : Int) = (rayN (growing d) ray occ : Nat) := by
  unfold rayAtt rayN
  simp only [and_nat]
  generalize ray &&& occ = s
  by_cases h0 : s = 0
  · simp [h0]
  · have h0' : ¬ (s : Int) = 0 := by omega
    rw [if_neg h0', if_neg h0]
    split
    · have h1 : (s : Int) - 1 = ((s - 1 : Nat) : Int) := by omega
      rw [h1]
      unfold Builtin.bitXor
      rw [or_nat, and_nat]
      have hle : s &&& (s - 1) ≤ s ||| (s - 1) := Nat.le_trans Nat.and_le_left Nat.left_le_or
      rw [show ((s ||| (s - 1) : Nat) : Int) - ((s &&& (s - 1) : Nat) : Int) = (((s ||| (s - 1)) - (s &&& (s - 1)) : Nat) : Int) by omega, and_nat]
    · have e0 : (s : Int) / 2 = ((s / 2 : Nat) : Int) := by omega
      rw [e0]
      have e1 : ∀ b : Nat, Builtin.bitOr (b : Int) ((b : Int) / 2) = (sh 2 b : Nat) := fun b => sh_nat 2 b
      have e2 : ∀ b : Nat, Builtin.bitOr (b : Int) ((b : Int) / 4) = (sh 4 b : Nat) := fun b => sh_nat 4 b
      have e3 : ∀ b : Nat, Builtin.bitOr (b : Int) ((b : Int) / 16) = (sh 16 b : Nat) := fun b => sh_nat 16 b
      have e4 : ∀ b : Nat, Builtin.bitOr (b : Int) ((b : Int) / 256) = (sh 256 b : Nat) := fun b => sh_nat 256 b
      have e5 : ∀ b : Nat, Builtin.bitOr (b : Int) ((b : Int) / 65536) = (sh 65536 b : Nat) := fun b => sh_nat 65536 b
      have e6 : ∀ b : Nat, Builtin.bitOr (b : Int) ((b : Int) / 4294967296) = (sh 4294967296 b : Nat) := fun b => sh_nat 4294967296 b
      rw [e1, e2, e3, e4, e5, e6, bitAnd_not, and_nat]
      have : ray &&& sh 4294967296 (sh 65536 (sh 256 (sh 16 (sh 4 (sh 2 (s / 2)))))) ≤ ray := Nat.and_le_left
      omega
noncomputable def rayOfN (G : GeoD) (d sq : Nat) : Nat := (rayOf G d sq).toNat
noncomputable def slideN (G : GeoD) (a n sq occ : Nat) : Nat := (List.range n).foldl (fun acc i => acc ||| rayN (growing (a + i)) (rayOfN G (a + i) sq) occ) 0
noncomputable def kindN (G : GeoD) (kind sq occ : Nat) : Nat :=
  if kind = 2 then ((G.knight[sq]?).getD 0).toNat
  else if kind = 3 then slideN G 4 4 sq occ
  else if kind = 4 then slideN G 0 4 sq occ
  else if kind = 5 then slideN G 0 4 sq occ ||| slideN G 4 4 sq occ
  else 0
noncomputable def nonnegG (G : GeoD) : Bool := G.rays.all (fun l => l.all fun x => decide (0 ≤ x)) && G.knight.all fun x => decide (0 ≤ x)
theorem getD_nonneg {l : List Int} (h : l.all (fun x => decide (0 ≤ x)) = true) (i : Nat) : 0 ≤ (l[i]?).getD 0 := by
  cases e : l[i]? with
  | none => simp
  | some x => simpa using List.all_eq_true.mp h x (List.mem_of_getElem? e)
theorem rayOf_nat {G : GeoD} (h : nonnegG G = true) (d sq : Nat) : rayOf G d sq = (rayOfN G d sq : Nat) := by
  unfold nonnegG at h
  rw [Bool.and_eq_true] at h
  have : 0 ≤ rayOf G d sq := by
    unfold rayOf
    refine getD_nonneg ?_ sq
    cases e : G.rays[d]? with
    | none => simp
    | some l => exact List.all_eq_true.mp h.1 l (List.mem_of_getElem? e)
  unfold rayOfN; omega
theorem slide_nat {G : GeoD} (h : nonnegG G = true) (a sq occ : Nat) : ∀ n, slideTo G a n sq (occ : Int) = (slideN G a n sq occ : Nat)
  | 0 => rfl
  | n + 1 => by
    rw [slideTo_succ, slide_nat h a sq occ n, rayOf_nat h, rayAtt_nat, or_nat]
    unfold slideN
    rw [List.range_succ, List.foldl_append]; rfl
theorem kind_nat {G : GeoD} (h : nonnegG G = true) (kind sq occ : Nat) : kindAtt G kind sq (occ : Int) = (kindN G kind sq occ : Nat) := by
  have hk : 0 ≤ (G.knight[sq]?).getD 0 := by
    unfold nonnegG at h
    rw [Bool.and_eq_true] at h
    exact getD_nonneg h.2 sq
  unfold kindAtt kindN
  simp only [slide_nat h, or_nat]
  repeat' split
  all_goals first | rfl | omega

noncomputable def cChk (b : Bd) : Bool := allB b.s fun a => allB b.s fun m => kindN b.G b.kind m (2 ^ a) == mskN (fun c => b.str m c [(a : Int)]) b.s
noncomputable def cSlide (b : Bd) : Bool := allB b.s fun a => allB b.s fun m => allB b.s fun c => kindN b.G b.kind m (2 ^ a ||| 2 ^ c) == (kindN b.G b.kind m (2 ^ a) &&& kindN b.G b.kind m (2 ^ c))
theorem two_pow (a : Nat) : (2 : Int) ^ a = ((2 ^ a : Nat) : Int) := by push_cast; rfl
theorem bit_and (f h : Nat → Bool) {n k : Nat} (hk : k < n) : bit ((mskN f n &&& mskN h n : Nat) : Int) k = if (f k && h k) = true then 1 else 0 := by
  rw [bit_nat, Nat.testBit_and, mskN_bit f n k hk, mskN_bit h n k hk]

theorem bd_ok {G : GeoD} {kind : Nat} (ok : G.Ok) (h0 : nonnegG G = true) (hk : 2 ≤ kind ∧ kind ≤ 5) (h1 : cKing ⟨G, 0, []⟩ = true) (h2 : cFree ⟨G, 0, []⟩ = true) (h3 : cChk ⟨G, kind, []⟩ = true) (h4 : cSlide ⟨G, kind, []⟩ = true) {zone : List Nat} (hz : zone.length ≤ 12) : (⟨G, kind, zone⟩ : Bd).Ok where
  geo := ok
  kind := hk
  zone := hz
  king := fun a c ha hc => by
    have := allB_ok h1 a ha
    rw [beq_iff_eq] at this
    show bit ((⟨G, 0, []⟩ : Bd).kingOf a) c = _
    rw [this]; exact bit_msk _ hc
  free := fun a m c ha hm hc => by
    have := allB_ok (allB_ok h2 a ha) m hm
    rw [beq_iff_eq] at this
    show bit ((⟨G, 0, []⟩ : Bd).freeOf a m) c = _
    rw [this, bit_msk _ hc]
    simp only [Bool.and_eq_true, Bool.not_eq_true', decide_eq_false_iff_not, and_assoc]
  chk := fun a m c ha hm hc => by
    have := allB_ok (allB_ok h3 a ha) m hm
    rw [beq_iff_eq] at this
    show bit (kindAtt (⟨G, kind, []⟩ : Bd).G (⟨G, kind, []⟩ : Bd).kind m (2 ^ a)) c = _
    rw [two_pow, kind_nat h0, this, bit_msk _ hc]
  slide := fun a m c g ha hm hc hg => by
    have := allB_ok (allB_ok (allB_ok h4 a ha) m hm) c hc
    rw [beq_iff_eq] at this
    have ea := allB_ok (allB_ok h3 a ha) m hm
    have ec := allB_ok (allB_ok h3 c hc) m hm
    rw [beq_iff_eq] at ea ec
    show bit (kindAtt (⟨G, kind, []⟩ : Bd).G (⟨G, kind, []⟩ : Bd).kind m (Builtin.bitOr (2 ^ a) (2 ^ c))) g = _
    rw [two_pow, two_pow, or_nat, kind_nat h0, this, ea, ec, bit_and _ _ hg]
    show _ = if strikes _ _ _ _ _ = true then _ else _
    rw [strikes_two]
set_option maxHeartbeats 4000000
theorem nn23 : nonnegG g23 = true := by decide +kernel
theorem ck23 : cKing ⟨g23, 0, []⟩ = true := by decide +kernel
theorem cf23 : cFree ⟨g23, 0, []⟩ = true := by decide +kernel
theorem cc23_2 : cChk ⟨g23, 2, []⟩ = true := by decide +kernel
theorem cs23_2 : cSlide ⟨g23, 2, []⟩ = true := by decide +kernel
theorem cc23_3 : cChk ⟨g23, 3, []⟩ = true := by decide +kernel
theorem cs23_3 : cSlide ⟨g23, 3, []⟩ = true := by decide +kernel
theorem cc23_4 : cChk ⟨g23, 4, []⟩ = true := by decide +kernel
theorem cs23_4 : cSlide ⟨g23, 4, []⟩ = true := by decide +kernel
theorem cc23_5 : cChk ⟨g23, 5, []⟩ = true := by decide +kernel
theorem cs23_5 : cSlide ⟨g23, 5, []⟩ = true := by decide +kernel
theorem bd23 (kind : Nat) (hk : 2 ≤ kind ∧ kind ≤ 5) (zone : List Nat) (hz : zone.length ≤ 12) : (⟨g23, kind, zone⟩ : Bd).Ok := by
  have h : kind = 2 ∨ kind = 3 ∨ kind = 4 ∨ kind = 5 := by omega
  rcases h with rfl | rfl | rfl | rfl
  · exact bd_ok ok23 nn23 (by decide) ck23 cf23 cc23_2 cs23_2 hz
  · exact bd_ok ok23 nn23 (by decide) ck23 cf23 cc23_3 cs23_3 hz
  · exact bd_ok ok23 nn23 (by decide) ck23 cf23 cc23_4 cs23_4 hz
  · exact bd_ok ok23 nn23 (by decide) ck23 cf23 cc23_5 cs23_5 hz
theorem nn33 : nonnegG g33 = true := by decide +kernel
theorem ck33 : cKing ⟨g33, 0, []⟩ = true := by decide +kernel
theorem cf33 : cFree ⟨g33, 0, []⟩ = true := by decide +kernel
theorem cc33_2 : cChk ⟨g33, 2, []⟩ = true := by decide +kernel
theorem cs33_2 : cSlide ⟨g33, 2, []⟩ = true := by decide +kernel
theorem cc33_3 : cChk ⟨g33, 3, []⟩ = true := by decide +kernel
theorem cs33_3 : cSlide ⟨g33, 3, []⟩ = true := by decide +kernel
theorem cc33_4 : cChk ⟨g33, 4, []⟩ = true := by decide +kernel
theorem cs33_4 : cSlide ⟨g33, 4, []⟩ = true := by decide +kernel
theorem cc33_5 : cChk ⟨g33, 5, []⟩ = true := by decide +kernel
theorem cs33_5 : cSlide ⟨g33, 5, []⟩ = true := by decide +kernel
theorem bd33 (kind : Nat) (hk : 2 ≤ kind ∧ kind ≤ 5) (zone : List Nat) (hz : zone.length ≤ 12) : (⟨g33, kind, zone⟩ : Bd).Ok := by
  have h : kind = 2 ∨ kind = 3 ∨ kind = 4 ∨ kind = 5 := by omega
  rcases h with rfl | rfl | rfl | rfl
  · exact bd_ok ok33 nn33 (by decide) ck33 cf33 cc33_2 cs33_2 hz
  · exact bd_ok ok33 nn33 (by decide) ck33 cf33 cc33_3 cs33_3 hz
  · exact bd_ok ok33 nn33 (by decide) ck33 cf33 cc33_4 cs33_4 hz
  · exact bd_ok ok33 nn33 (by decide) ck33 cf33 cc33_5 cs33_5 hz
theorem nn24 : nonnegG g24 = true := by decide +kernel
theorem ck24 : cKing ⟨g24, 0, []⟩ = true := by decide +kernel
theorem cf24 : cFree ⟨g24, 0, []⟩ = true := by decide +kernel
theorem cc24_2 : cChk ⟨g24, 2, []⟩ = true := by decide +kernel
theorem cs24_2 : cSlide ⟨g24, 2, []⟩ = true := by decide +kernel
theorem cc24_3 : cChk ⟨g24, 3, []⟩ = true := by decide +kernel
theorem cs24_3 : cSlide ⟨g24, 3, []⟩ = true := by decide +kernel
theorem cc24_4 : cChk ⟨g24, 4, []⟩ = true := by decide +kernel
theorem cs24_4 : cSlide ⟨g24, 4, []⟩ = true := by decide +kernel
theorem cc24_5 : cChk ⟨g24, 5, []⟩ = true := by decide +kernel
theorem cs24_5 : cSlide ⟨g24, 5, []⟩ = true := by decide +kernel
theorem bd24 (kind : Nat) (hk : 2 ≤ kind ∧ kind ≤ 5) (zone : List Nat) (hz : zone.length ≤ 12) : (⟨g24, kind, zone⟩ : Bd).Ok := by
  have h : kind = 2 ∨ kind = 3 ∨ kind = 4 ∨ kind = 5 := by omega
  rcases h with rfl | rfl | rfl | rfl
  · exact bd_ok ok24 nn24 (by decide) ck24 cf24 cc24_2 cs24_2 hz
  · exact bd_ok ok24 nn24 (by decide) ck24 cf24 cc24_3 cs24_3 hz
  · exact bd_ok ok24 nn24 (by decide) ck24 cf24 cc24_4 cs24_4 hz
  · exact bd_ok ok24 nn24 (by decide) ck24 cf24 cc24_5 cs24_5 hz
theorem nn34 : nonnegG g34 = true := by decide +kernel
theorem ck34 : cKing ⟨g34, 0, []⟩ = true := by decide +kernel
theorem cf34 : cFree ⟨g34, 0, []⟩ = true := by decide +kernel
theorem cc34_2 : cChk ⟨g34, 2, []⟩ = true := by decide +kernel
theorem cs34_2 : cSlide ⟨g34, 2, []⟩ = true := by decide +kernel
theorem cc34_3 : cChk ⟨g34, 3, []⟩ = true := by decide +kernel
theorem cs34_3 : cSlide ⟨g34, 3, []⟩ = true := by decide +kernel
theorem cc34_4 : cChk ⟨g34, 4, []⟩ = true := by decide +kernel
theorem cs34_4 : cSlide ⟨g34, 4, []⟩ = true := by decide +kernel
theorem cc34_5 : cChk ⟨g34, 5, []⟩ = true := by decide +kernel
theorem cs34_5 : cSlide ⟨g34, 5, []⟩ = true := by decide +kernel
theorem bd34 (kind : Nat) (hk : 2 ≤ kind ∧ kind ≤ 5) (zone : List Nat) (hz : zone.length ≤ 12) : (⟨g34, kind, zone⟩ : Bd).Ok := by
  have h : kind = 2 ∨ kind = 3 ∨ kind = 4 ∨ kind = 5 := by omega
  rcases h with rfl | rfl | rfl | rfl
  · exact bd_ok ok34 nn34 (by decide) ck34 cf34 cc34_2 cs34_2 hz
  · exact bd_ok ok34 nn34 (by decide) ck34 cf34 cc34_3 cs34_3 hz
  · exact bd_ok ok34 nn34 (by decide) ck34 cf34 cc34_4 cs34_4 hz
  · exact bd_ok ok34 nn34 (by decide) ck34 cf34 cc34_5 cs34_5 hz
end Mine

end

section
open PySem
set_option linter.unusedVariables false
set_option linter.unusedSimpArgs false
set_option maxRecDepth 100000
set_option tactic.hygienic false
namespace Mine

noncomputable def plp (s n : Nat) : Pl := ⟨n / s ^ 3 % 2, n / s ^ 2 % s, n / s % s, n % s⟩
theorem plp_in {s : Nat} (hs : 0 < s) (n : Nat) : (plp s n).In s := ⟨Nat.mod_lt _ (by decide), Nat.mod_lt _ hs, Nat.mod_lt _ hs, Nat.mod_lt _ hs⟩
noncomputable def natsI (l : List Nat) : List Int := l.map fun (n : Nat) => (n : Int)
theorem nV_ints (l : List Nat) : nV l = (natsI l).map V.int := by simp [nV, natsI]

theorem sum_msk (p : Nat → Bool) : ∀ s, ((List.range s).filter p |>.map fun (n : Nat) => (2 : Int) ^ n).sum = (mskN p s : Nat)
  | 0 => by simp [mskN]
  | s + 1 => by
    rw [List.range_succ, List.filter_append, List.map_append, List.sum_append, sum_msk p s, mskN]
    cases h : p s
    · simp [h]
    · simp [h]; omega

theorem wpE_bc1 {C : Ctx} {n : Nat} {X : Store → Prop} {f : String} {e : E} {m : Loc} {σ : Store} {Q : V → Store → Prop} (h : wpE C n X e m σ fun v σ₁ => wpB f [v] σ₁ Q) : wpE C n X (.bcall f [e]) m σ Q := h

theorem ne_nilv {σ : Store} {i j : Nat} {l : List Int} (h1 : σ[i]? = some (.list (l.map V.int))) (h2 : σ[j]? = some (.list [])) : cmpV σ .NotEq (.ref i) (.ref j) = some (!decide (l = [])) := by
  show (obd (listAt σ i) fun xs => obd (listAt σ j) fun ys => obd (intsOf xs) _) = _
  rw [listAt_of h1, listAt_of h2]
  show obd (intsOf (l.map V.int)) _ = _
  rw [intsOf_map]; rfl

section
variable {C : Ctx} (P : Prg C) {X : Store → Prop} {σ : Store}
include P

theorem s_plp (s : Nat) (hs : 0 < s ∧ s ≤ 12) (n : Nat) : SemCall C 1 "_law_place" [.int s, .int n] σ (fun v σ' => v = (plp s n).v ∧ σ' = σ) X := by
  refine SemCall.mono (s_place P s n (by omega)) (fun v σ' ⟨h1, h2⟩ => ⟨?_, h2⟩) fun _ h => h
  subst h1; simp [plp, Pl.v, placeOf]

noncomputable def lawAsk : E := .any [(.not (.call (.glob "_law_right") [(.loc "geo"), (.loc "board"), (.loc "table"), (.loc "place")])), (.not (.call (.glob "_law_line_right") [(.loc "geo"), (.loc "board"), (.loc "table"), (.loc "place")]))]

theorem law_ask {g t z : Nat} {b : Bd} (o : b.Ok) (hG : GeoIs σ g b.G) {tbl : List Int} (hT : Tab b σ t tbl) (T : TblOk b tbl) (hB : BrdIs σ z b) (p : Pl) (hp : p.In b.s) {m : Loc} (m1 : m "geo" = some (.ref g)) (m2 : m "board" = some (brdV b z)) (m3 : m "table" = some (.ref t)) (m4 : m "place" = some p.v) {Q : Bool → Store → Prop}
    (hQ : ∀ σ', Keep σ σ' → Q false σ') : wpT C 39 X lawAsk m σ Q := by
  unfold lawAsk
  refine (ob_i m1 (ob_i m2 (ob_i m3 (ob_i m4 ?_))))
  refine SemCall.mono ((s_right P o hG hT T hB p hp).up (b := 38) (by decide)) (fun v σ1 ⟨hv, k1⟩ => ?_) fun _ h => h
  subst hv
  refine ob_i (a := true) rfl ?_
  refine (ob_i m1 (ob_i m2 (ob_i m3 (ob_i m4 ?_))))
  refine SemCall.mono ((s_line_right P o (hG.keep k1) (hT.keep k1) T (hB.keep k1) p hp).up (b := 38) (by decide)) (fun v σ2 ⟨hv, k2⟩ => ?_) fun _ h => h
  subst hv
  exact ob_i (a := true) rfl (hQ _ (k1.trans k2))

structure LLoc (g t z : Nat) (b : Bd) (ns : List Int) (m : Loc) : Prop where
  script : m "script" = some (.script ns)
  geo : m "geo" = some (.ref g)
  table : m "table" = some (.ref t)
  board : m "board" = some (brdV b z)
  size : m "size" = some (.int b.s)
omit P in
theorem LLoc.of {g t z : Nat} {b : Bd} {ns : List Int} {m m' : Loc} (h : LLoc g t z b ns m) (e : ∀ y, y ≠ "i" → y ≠ "place" → y ≠ "won" → m' y = m y) : LLoc g t z b ns m' :=
  ⟨by rw [e _ (by decide) (by decide) (by decide)]; exact h.script, by rw [e _ (by decide) (by decide) (by decide)]; exact h.geo, by rw [e _ (by decide) (by decide) (by decide)]; exact h.table, by rw [e _ (by decide) (by decide) (by decide)]; exact h.board, by rw [e _ (by decide) (by decide) (by decide)]; exact h.size⟩

theorem law_end_part {g t z : Nat} {b : Bd} (o : b.Ok) (hG : GeoIs σ g b.G) {tbl : List Int} (hT : Tab b σ t tbl) (T : TblOk b tbl) (hB : BrdIs σ z b) {ns : List Int} (hl : ns.length ≤ 63) {m : Loc} (L : LLoc g t z b ns m) {Q : Fl → Loc → Store → Prop}
    (hQ : ∀ m σ', Q (.ret (.bool true)) m σ') : wpSs C 39 X (b_law.drop 8) m σ Q := by
  have hs : b.s ≤ 12 := o.s12
  have hcube := o.cube
  have hsp := o.spos
  have htl := hT.len
  have htp : 0 < 2 * b.s * b.s * b.s := by have := Nat.mul_pos (Nat.mul_pos (Nat.mul_pos (show 0 < 2 by decide) hsp) hsp) hsp; exact this
  simp only [b_law, List.drop]
  refine step fun K hK hR hC => ?_
  refine forW_inv (fun i m σ' => LLoc g t z b ns m ∧ Keep σ σ') ?_ ?_ ?_ _ 0 _ _ rfl (Nat.zero_le _) ⟨L, Keep.refl _⟩
  · rintro i m σ' _; rfl
  · clear L
    rintro i v m σ' hv ⟨L, ks⟩ K k1 k2 k3
    obtain ⟨j, rfl, hj⟩ : ∃ j : Nat, v = .int j ∧ j < 100 := by
      have hv' := List.mem_of_getElem? hv
      simp only [List.mem_cons, List.not_mem_nil, or_false] at hv'
      rcases hv' with rfl | rfl | rfl
      · exact ⟨5, rfl, by decide⟩
      · exact ⟨6, rfl, by decide⟩
      · exact ⟨7, rfl, by decide⟩
    refine (step fun K' hK' hR' hC' => ?_)
    have L1 : LLoc g t z b ns (upd m "i" (.int j)) := L.of fun y h1 h2 h3 => upd_ne h1
    refine (ob_i L1.size (ob_i L1.script ?_))
    refine SemCall.mono ((s_number P ns hl j hj).up (b := 38) (by decide)) (fun v σ1 ⟨hv, hσ1⟩ => ?_) fun _ h => h
    subst hv hσ1
    refine (ob_i L1.table (wpB_len (ks _ _ hT.here) (by simp; omega) ?_))
    rw [List.length_map, htl]
    refine ⟨⟨by omega, by omega⟩, ?_⟩
    have hn0 : 0 ≤ numAt ns j % ((2 * b.s * b.s * b.s : Nat) : Int) := Int.emod_nonneg _ (by omega)
    obtain ⟨nn, hnn⟩ := Int.eq_ofNat_of_zero_le hn0
    rw [hnn]
    refine SemCall.mono ((s_plp P b.s ⟨hsp, hs⟩ nn).up (b := 38) (by decide)) (fun v σ2 ⟨hv, hσ2⟩ => ?_) fun _ h => h
    subst hv hσ2
    refine hK' _ _ (step fun K' hK' hR' hC' => ?_)
    have L2 : LLoc g t z b ns (upd (upd m "i" (.int j)) "place" (plp b.s nn).v) := L1.of fun y h1 h2 h3 => upd_ne h2
    refine law_ask P o (hG.keep ks) (hT.keep ks) T (hB.keep ks) (plp b.s nn) (plp_in hsp nn) L2.geo L2.board L2.table upd_same fun σ3 k3 => ?_
    exact (hK' _ _ ((k1 _ _ ⟨L2, ks.trans k3⟩)))
  clear L
  rintro m σ' ⟨L, ks⟩
  refine hK _ _ (step fun K hK hR hC => ?_)
  have hT' := hT.keep ks
  refine wpS_asg ?_
  refine wpE_comp (fun i acc σ'' => σ'' = σ' ∧ acc = nV ((List.range i).filter fun n => decide (0 < at_ tbl n))) (.rng 0 (2 * b.s * b.s * b.s : Nat) 1) ((rngList 0 (2 * b.s * b.s * b.s : Nat) 1).map V.int)
    (fun Q' h => by
      refine (ob_i L.table (wpB_len hT'.here (by simp; omega) ?_))
      rw [List.length_map, htl]
      exact wpB_range (by omega) h) rfl (by rw [rng_len]; omega) ⟨rfl, by simp [nV]⟩ ?_ ?_ ?_
  · rintro i acc σ'' ⟨rfl, _⟩; rfl
  · rintro i v acc m' σ'' hv ⟨rfl, rfl⟩ hm hx K' hK'
    obtain ⟨rfl, hi⟩ := rng_items hv
    refine (ob_i (by rw [hm _ (by decide) (by decide)]; exact L.table) (ob_i hx (item_get (x := .int (at_ tbl i)) hT'.here (at_get (by omega)) (by omega) ?_)))
    refine ite_e (fun hc => ?_) fun hc => ?_
    · exact hK' _ _ ⟨rfl, by rw [List.range_succ, List.filter_append]; simp [hc]⟩
    · refine (ob_i hx (hK' _ _ ⟨rfl, by rw [List.range_succ, List.filter_append, nV_append]; simp [hc, nV]⟩))
  rintro acc σ'' ⟨rfl, rfl⟩
  rw [rng_len]
  have hwlt : ∀ n ∈ (List.range (2 * b.s * b.s * b.s)).filter (fun n => decide (0 < at_ tbl n)), n < 2 * b.s * b.s * b.s := by
    intro n hn; simp at hn; exact hn.1
  have hwl : ((List.range (2 * b.s * b.s * b.s)).filter (fun n => decide (0 < at_ tbl n))).length ≤ 3456 := by
    have := List.length_filter_le (fun n => decide (0 < at_ tbl n)) (List.range (2 * b.s * b.s * b.s))
    rw [List.length_range] at this; omega
  generalize hwon : (List.range (2 * b.s * b.s * b.s)).filter (fun n => decide (0 < at_ tbl n)) = won at hwlt hwl ⊢
  have kw := ks.trans (Keep.snoc σ'' (AObj.list (nV won)))
  have hw1 : (σ'' ++ [AObj.list (nV won)])[σ''.length]? = some (.list (nV won)) := append_here _ _
  generalize (σ'' ++ [AObj.list (nV won)]) = σ1 at kw hw1 ⊢
  generalize σ''.length = wa at hw1 ⊢
  refine hK _ _ (step fun K hK hR hC => ?_)
  have L1 : LLoc g t z b ns (upd m "won" (.ref wa)) := L.of fun y h1 h2 h3 => upd_ne h3
  have mw : upd m "won" (.ref wa) "won" = some (.ref wa) := upd_same
  generalize upd m "won" (.ref wa) = m1 at L1 mw ⊢
  have last : ∀ (m2 : Loc) (σ2 : Store), LLoc g t z b ns m2 → Keep σ σ2 → K .next m2 σ2 := by
    intro m2 σ2 L2 k2
    refine hK _ _ (step fun K hK hR hC => ?_)
    refine (ob_i L2.geo (ob_i L2.board (ob_i L2.table (ob_i L2.script ?_))))
    refine SemCall.mono ((s_number P ns hl 9 (by decide)).up (b := 38) (by decide)) (fun v σ3 ⟨hv, hσ3⟩ => ?_) fun _ h => h
    subst hv hσ3
    refine SemCall.mono ((s_refused P o (hG.keep k2) (hT.keep k2) (z := z) (numAt ns 9)).up (b := 38) (by decide)) (fun v σ4 ⟨hv, _⟩ => ?_) fun _ h => h
    subst hv
    exact hR _ _ _ (hQ _ _)
  have k2 := kw.trans (Keep.snoc σ1 (AObj.list []))
  have hw2 := (Keep.snoc σ1 (AObj.list [])) _ _ hw1
  have h02 : (σ1 ++ [AObj.list []])[σ1.length]? = some (.list []) := append_here _ _
  refine (ob_i mw ?_)
  refine ob_i (ne_nilv (l := natsI won) (by rw [← nV_ints]; exact hw2) h02) ?_
  generalize hσ2 : (σ1 ++ [AObj.list []]) = σ2 at k2 hw2 h02 ⊢
  refine (ite_n (fun hw0 => ?_) fun hw0 => last _ _ L1 k2)
  · have hwpos : 0 < won.length := by
      cases won with
      | nil => cases hw0
      | cons _ _ => simp
    refine step fun K' hK' hR' hC' => ?_
    refine (ob_i L1.size (ob_i mw (ob_i L1.script ?_)))
    refine SemCall.mono ((s_number P ns hl 8 (by decide)).up (b := 38) (by decide)) (fun v σ3 ⟨hv, hσ3⟩ => ?_) fun _ h => h
    subst hv hσ3
    refine (ob_i mw (wpB_len hw2 (by simp [nV]; omega) ?_))
    rw [show (nV won).length = won.length by simp [nV]]
    refine ⟨⟨by omega, by omega⟩, ?_⟩
    have hn0 : 0 ≤ numAt ns 8 % (won.length : Int) := Int.emod_nonneg _ (by omega)
    have hn1 : numAt ns 8 % (won.length : Int) < won.length := Int.emod_lt_of_pos _ (by omega)
    obtain ⟨nn, hnn⟩ := Int.eq_ofNat_of_zero_le hn0
    rw [hnn] at hn1 ⊢
    have hnl : nn < won.length := by omega
    refine item_get (x := .int (won[nn])) hw2 (nV_get (List.getElem?_eq_getElem hnl)) (by omega) ?_
    refine SemCall.mono ((s_plp P b.s ⟨hsp, hs⟩ won[nn]).up (b := 38) (by decide)) (fun v σ4 ⟨hv, hσ4⟩ => ?_) fun _ h => h
    subst hv hσ4
    refine hK' _ _ (step fun K' hK' hR' hC' => ?_)
    have L2 : LLoc g t z b ns (upd m1 "place" (plp b.s won[nn]).v) := L1.of fun y h1 h2 h3 => upd_ne h2
    refine law_ask P o (hG.keep k2) (hT.keep k2) T (hB.keep k2) (plp b.s won[nn]) (plp_in hsp _) L2.geo L2.board L2.table upd_same fun σ5 k5 => ?_
    exact (hK' _ _ ((last _ _ L2 (k2.trans k5))))

theorem law_table_part {g z : Nat} {b : Bd} (o : b.Ok) (hG : GeoIs σ g b.G) (hB : BrdIs σ z b) {ns : List Int} (hl : ns.length ≤ 63) {m : Loc} (m1 : m "script" = some (.script ns)) (m2 : m "geo" = some (.ref g)) (m3 : m "files" = some (.int b.G.files)) (m4 : m "size" = some (.int b.s)) (m5 : m "kind" = some (.int b.kind)) (m6 : m "zone" = some (.ref z)) {Q : Fl → Loc → Store → Prop}
    (hQ : ∀ m σ', Q (.ret (.bool true)) m σ') : wpSs C 39 X (b_law.drop 6) m σ Q := by
  have hs : b.s ≤ 12 := o.s12
  simp only [b_law, List.drop]
  refine step fun K hK hR hC => ?_
  have iz := intsOf_map (b.zone.map fun (n : Nat) => (n : Int))
  have zm : ∀ k : Nat, ((k : Int) ∈ b.zone.map fun (n : Nat) => (n : Int)) = (k ∈ b.zone) := by
    intro k; simp only [List.mem_map, eq_iff_iff]
    exact ⟨fun ⟨a, h, e⟩ => by have : a = k := by omega
                               subst this; exact h, fun h => ⟨k, h, rfl⟩⟩
  have hcall : ∀ Q' : V → Store → Prop, (∀ σ', Keep σ σ' → Q' (.int (mskN (fun n => decide (n ∈ b.zone)) b.s : Nat)) σ') → wpE C 39 X (.bcall "sum" [(.comp (.bin .Pow (.cint 2) (.loc "square")) "square" (.bcall "range" [(.loc "size")]) [(.cmp .In (.loc "square") (.loc "zone"))])]) m σ Q' := by
    intro Q' hq
    refine wpE_bc1 ?_
    refine wpE_comp (fun i acc σ'' => σ'' = σ ∧ acc = (((List.range i).filter fun n => decide (n ∈ b.zone)).map fun (n : Nat) => (2 : Int) ^ n).map V.int) (.rng 0 b.s 1) ((rngList 0 b.s 1).map V.int)
      (fun Q' h => by
        exact (ob_i m4 (wpB_range (by omega) h))) rfl (by rw [rng_len]; omega) ⟨rfl, by simp⟩ ?_ ?_ ?_
    · rintro i acc σ'' ⟨rfl, _⟩; rfl
    · rintro i v acc m' σ'' hv ⟨rfl, rfl⟩ hm hx K' hK'
      obtain ⟨rfl, hi⟩ := rng_items hv
      refine (ob_i hx ?_)
      refine (ob_i (by rw [hm _ (by decide) (by decide)]; exact m6) (ob_i (a := decide (i ∈ b.zone)) (by rw [← decide_eq_decide.mpr (iff_of_eq (zm i))]; exact mem_ints hB.zone) ?_))
      refine ite_e (fun hc => ?_) fun hc => ?_
      · exact hK' _ _ ⟨rfl, by rw [List.range_succ, List.filter_append]; simp [hc]⟩
      · refine (ob_i hx ⟨⟨by omega, by omega, by decide⟩, hK' _ _ ⟨rfl, ?_⟩⟩)
        rw [List.range_succ, List.filter_append, List.map_append, List.map_append]; simp [hc]
    rintro acc σ'' ⟨rfl, rfl⟩
    rw [rng_len]
    refine wpB_sum (append_here _ _) ?_
    rw [sum_msk]; exact hq _ (Keep.snoc _ _)
  refine (ob_i m2 ?_)
  refine (ob_i m5 ?_)
  refine hcall _ fun σ1 k1 => ?_
  refine SemCall.mono ((s_build P o (hG.keep k1) (zm := (mskN (fun n => decide (n ∈ b.zone)) b.s : Nat)) (fun a ha => by rw [bit_msk _ ha]; simp)).up (b := 38) (by decide)) (fun v σ2 ⟨t, tbl, hv, k2, hT, T⟩ => ?_) fun _ h => h
  subst hv
  refine hK _ _ (step fun K hK hR hC => ?_)
  refine (ob_i m3 (ob_i m4 (ob_i m5 (ob_i m6 ?_))))
  refine hK _ _ ?_
  have kk := k1.trans k2
  exact law_end_part P o (hG.keep kk) hT T (hB.keep kk) hl (show LLoc g t z b ns (upd (upd m "table" (.ref t)) "board" (brdV b z)) from ⟨m1, m2, rfl, rfl, m4⟩) hQ
end
end Mine

end

section
open PySem
set_option linter.unusedVariables false
set_option linter.unusedSimpArgs false
set_option maxRecDepth 100000
set_option tactic.hygienic false
namespace Mine

noncomputable def BoardCase (F R : Nat) : Prop := (F = 2 ∧ R = 3) ∨ (F = 3 ∧ R = 3) ∨ (F = 2 ∧ R = 4) ∨ (F = 3 ∧ R = 4)

section
variable {C : Ctx} (P : Prg C) {X : Store → Prop} {σ : Store}
include P

theorem num_mod (ns : List Int) (hl : ns.length ≤ 63) (i : Nat) (hi : i < 100) (k : Nat) (hk : 0 < k ∧ k < 100) {m : Loc} (m1 : m "script" = some (.script ns)) {Q : V → Store → Prop} (hQ : ∀ j : Nat, j < k → Q (.int j) σ) :
    wpE C 39 X (.bin .Mod (.call (.glob "_law_number") [(.loc "script"), (.cint (i : Int))]) (.cint (k : Int))) m σ Q := by
  refine (ob_i m1 ?_)
  refine SemCall.mono ((s_number P ns hl i hi).up (b := 38) (by decide)) (fun v σ1 ⟨hv, hσ1⟩ => ?_) fun _ h => h
  subst hv hσ1
  refine ⟨⟨by omega, by omega⟩, ?_⟩
  have hn0 : 0 ≤ numAt ns i % (k : Int) := Int.emod_nonneg _ (by omega)
  have hn1 : numAt ns i % (k : Int) < k := Int.emod_lt_of_pos _ (by omega)
  obtain ⟨j, hj⟩ := Int.eq_ofNat_of_zero_le hn0
  rw [hj] at hn1 ⊢
  exact hQ j (by omega)

theorem law_head (ns : List Int) (hl : ns.length ≤ 63) {m : Loc} (m1 : m "script" = some (.script ns)) {Q : Fl → Loc → Store → Prop}
    (hQ : ∀ (m : Loc) (σ : Store) (F R kd : Nat) (zl : List Nat), BoardCase F R → 2 ≤ kd ∧ kd ≤ 5 → zl.length = 3 → σ.length = 3 → σ[2]? = some (.list (nV zl)) → m "script" = some (.script ns) → m "files" = some (.int F) → m "ranks" = some (.int R) → m "size" = some (.int (F * R : Nat)) → m "kind" = some (.int kd) → m "zone" = some (.ref 2) → Q .next m σ) :
    wpSs C 39 X (b_law.take 3) m [] Q := by
  simp only [b_law, List.take]
  refine step fun K hK hR hC => ?_
  have e1 := num_mod P (X := X) (σ := [AObj.list [.tup [.int 2, .int 3], .tup [.int 3, .int 3], .tup [.int 2, .int 4], .tup [.int 3, .int 4]]]) ns hl 0 (by decide) 4 (by decide) m1 (Q := fun vi σ₂ => wpItem (.ref 0) vi σ₂ fun y => wpAssign C 39 X (.tup ["files", "ranks"]) y m σ₂ fun m' σ₃ => K .next m' σ₃)
  refine e1 fun j hj => ?_
  clear e1
  have hit : ∃ F R : Nat, BoardCase F R ∧ ([V.tup [.int 2, .int 3], .tup [.int 3, .int 3], .tup [.int 2, .int 4], .tup [.int 3, .int 4]] : List V)[j]? = some (.tup [.int F, .int R]) := by
    have : j = 0 ∨ j = 1 ∨ j = 2 ∨ j = 3 := by omega
    rcases this with rfl | rfl | rfl | rfl
    · exact ⟨2, 3, .inl ⟨rfl, rfl⟩, rfl⟩
    · exact ⟨3, 3, .inr (.inl ⟨rfl, rfl⟩), rfl⟩
    · exact ⟨2, 4, .inr (.inr (.inl ⟨rfl, rfl⟩)), rfl⟩
    · exact ⟨3, 4, .inr (.inr (.inr ⟨rfl, rfl⟩)), rfl⟩
  obtain ⟨F, R, hFR, hg⟩ := hit
  refine item_get (x := .tup [.int F, .int R]) rfl hg (by omega) ?_
  have hFb : (0 < F ∧ F ≤ 3) ∧ (0 < R ∧ R ≤ 4) := by rcases hFR with ⟨rfl, rfl⟩ | ⟨rfl, rfl⟩ | ⟨rfl, rfl⟩ | ⟨rfl, rfl⟩ <;> decide
  have hS : 0 < F * R ∧ F * R < 100 := by rcases hFR with ⟨rfl, rfl⟩ | ⟨rfl, rfl⟩ | ⟨rfl, rfl⟩ | ⟨rfl, rfl⟩ <;> decide
  refine (hK _ _ (step fun K hK hR hC => ?_))
  refine ⟨.inr (by omega), ?_⟩
  have m1' : upd (upd m "files" (.int F)) "ranks" (.int R) "script" = some (.script ns) := m1
  have mf : upd (upd m "files" (.int F)) "ranks" (.int R) "files" = some (.int F) := rfl
  have mr : upd (upd m "files" (.int F)) "ranks" (.int R) "ranks" = some (.int R) := rfl
  generalize upd (upd m "files" (.int F)) "ranks" (.int R) = m2 at m1' mf mr ⊢
  rw [show ((F : Int) * (R : Int)) = ((F * R : Nat) : Int) by push_cast; rfl]
  generalize hs1 : ([AObj.list [.tup [.int 2, .int 3], .tup [.int 3, .int 3], .tup [.int 2, .int 4], .tup [.int 3, .int 4]]] : Store) = σ1
  have l1 : σ1.length = 1 := by rw [← hs1]; rfl
  have e1 := num_mod P (X := X) (σ := σ1 ++ [AObj.list [.int 5, .int 4, .int 2, .int 3]]) ns hl 1 (by decide) 4 (by decide) m1' (Q := fun vi σ₂ => wpItem (.ref σ1.length) vi σ₂ fun y => wpAssign C 39 X (.tup ["size", "kind"]) (.tup [.int (F * R : Nat), y]) m2 σ₂ fun m' σ₃ => K .next m' σ₃)
  refine e1 fun j2 hj2 => ?_
  clear e1
  have hit : ∃ kd : Nat, (2 ≤ kd ∧ kd ≤ 5) ∧ ([V.int 5, .int 4, .int 2, .int 3] : List V)[j2]? = some (.int kd) := by
    have : j2 = 0 ∨ j2 = 1 ∨ j2 = 2 ∨ j2 = 3 := by omega
    rcases this with rfl | rfl | rfl | rfl
    · exact ⟨5, by decide, rfl⟩
    · exact ⟨4, by decide, rfl⟩
    · exact ⟨2, by decide, rfl⟩
    · exact ⟨3, by decide, rfl⟩
  obtain ⟨kd, hkd, hg2⟩ := hit
  refine item_get (x := .int kd) (append_here _ _) hg2 (by omega) ?_
  refine (hK _ _ (step fun K hK hR hC => ?_))
  have l2 : (σ1 ++ [AObj.list [.int 5, .int 4, .int 2, .int 3]]).length = 2 := by simp [l1]
  generalize (σ1 ++ [AObj.list [.int 5, .int 4, .int 2, .int 3]]) = σ2 at l2 ⊢
  have hm3 : ∀ y, y ≠ "size" → y ≠ "kind" → upd (upd m2 "size" (.int (F * R : Nat))) "kind" (.int kd) y = m2 y := fun y h1 h2 => by simp [upd, h1, h2]
  have hms : upd (upd m2 "size" (.int (F * R : Nat))) "kind" (.int kd) "size" = some (.int (F * R : Nat)) := rfl
  have hmk : upd (upd m2 "size" (.int (F * R : Nat))) "kind" (.int kd) "kind" = some (.int kd) := rfl
  generalize upd (upd m2 "size" (.int (F * R : Nat))) "kind" (.int kd) = m3 at hm3 hms hmk ⊢
  refine wpS_asg ?_
  refine wpE_comp (fun i acc σ' => σ' = σ2 ∧ ∃ zl : List Nat, zl.length = i ∧ acc = nV zl) (.tup [.int 2, .int 3, .int 4]) [.int 2, .int 3, .int 4] (fun Q' h => h) rfl (by decide) ⟨rfl, [], rfl, rfl⟩ ?_ ?_ ?_
  · rintro i acc σ' _; rfl
  · rintro i v acc m' σ' hv ⟨rfl, zl, hzl, rfl⟩ hm hx K' hK'
    obtain ⟨j, rfl, hj⟩ : ∃ j : Nat, v = .int j ∧ j < 100 := by
      have hv' := List.mem_of_getElem? hv
      simp only [List.mem_cons, List.not_mem_nil, or_false] at hv'
      rcases hv' with rfl | rfl | rfl
      · exact ⟨2, rfl, by decide⟩
      · exact ⟨3, rfl, by decide⟩
      · exact ⟨4, rfl, by decide⟩
    refine (ob_i (by rw [hm _ (by decide) (by decide), hm3 _ (by decide) (by decide)]; exact m1') (ob_i hx ?_))
    refine SemCall.mono ((s_number P ns hl j hj).up (b := 38) (by decide)) (fun v σ4 ⟨hv, hσ4⟩ => ?_) fun _ h => h
    subst hv hσ4
    refine (ob_i (by rw [hm _ (by decide) (by decide)]; exact hms) ?_)
    refine ⟨⟨by omega, by omega⟩, ?_⟩
    have hn0 : 0 ≤ numAt ns j % ((F * R : Nat) : Int) := Int.emod_nonneg _ (by omega)
    obtain ⟨q, hq⟩ := Int.eq_ofNat_of_zero_le hn0
    rw [hq]
    exact hK' _ _ ⟨rfl, zl ++ [q], by simp [hzl], by rw [nV_append]; rfl⟩
  rintro acc σ' ⟨rfl, zl, hzl, rfl⟩
  refine hK _ _ (done ?_)
  rw [l2]
  refine hQ _ _ F R kd zl hFR hkd hzl (by simp [l2]) ?_ (by simp [upd]; rw [hm3 _ (by decide) (by decide)]; exact m1') (by simp [upd]; rw [hm3 _ (by decide) (by decide)]; exact mf) (by simp [upd]; rw [hm3 _ (by decide) (by decide)]; exact mr) (hms) (hmk) (rfl)
  rw [← l2]; exact append_here _ _

theorem law_geo {p : Nat} (hp : σ.length = p) {G : GeoD} (hc : chkMk p G = true) {kd : Nat} {zone : List Nat} (o : (⟨G, kd, zone⟩ : Bd).Ok) {z : Nat} (hz : σ[z]? = some (.list (nV zone))) {ns : List Int} (hl : ns.length ≤ 63) {m : Loc} (m1 : m "script" = some (.script ns)) (m2 : m "ranks" = some (.int G.ranks)) (m3 : m "files" = some (.int G.files)) (m4 : m "size" = some (.int (G.files * G.ranks : Nat))) (m5 : m "kind" = some (.int kd)) (m6 : m "zone" = some (.ref z)) {Q : Fl → Loc → Store → Prop}
    (hQ : ∀ m σ', Q (.ret (.bool true)) m σ') : wpSs C 39 X (b_law.drop 5) m σ Q := by
  simp only [b_law, List.drop]
  refine step fun K hK hR hC => ?_
  refine (ob_i m3 (ob_i m2 ?_))
  refine SemCall.mono (s_make P hp hc) (fun v σ1 ⟨g, hv, hG, k1⟩ => ?_) fun _ h => h
  subst hv
  refine hK _ _ ?_
  have hB : BrdIs σ1 z ⟨G, kd, zone⟩ := ⟨by
    have := k1 _ _ hz
    rw [nV_ints] at this; exact this⟩
  exact law_table_part P o hG hB hl (m := upd m "geo" (.ref g)) (m1) (rfl) (m3) (m4) (m5) (m6) hQ

theorem law_sem' (ns : List Int) (hl : ns.length ≤ 63) : SemCall C 40 "law" [.script ns] [] (fun v _ => v = .bool true) X := by
  refine P.call P.f_law rfl ?_
  rw [show b_law = b_law.take 3 ++ b_law.drop 3 from rfl, wpSs_append]
  refine law_head P ns hl (rfl) ?_
  intro m σ F R kd zl hFR hkd hzl hσ hz m1 m2 m3 m4 m5 m6
  simp only
  show wpSs C 39 X (.ite (.cmp .Eq (.loc "size") (.cint 6)) [.assign (.name "zone") (.bcall "list" [(.bcall "range" [(.loc "size")])])] [] :: .ite (.cmp .Eq (.loc "size") (.cint 12)) [.assign (.name "zone") (.upto (.loc "zone") 1)] [] :: b_law.drop 5) m σ _
  have hS : F * R < 100 := by rcases hFR with ⟨rfl, rfl⟩ | ⟨rfl, rfl⟩ | ⟨rfl, rfl⟩ | ⟨rfl, rfl⟩ <;> decide
  refine step fun K hK hR hC => ?_
  refine (ob_i m4 ?_)
  refine ite_i (fun h6 => ?_) fun h6 => ?_
  · have h6 : F * R = 6 := by have := of_decide_eq_true h6; omega
    have hc : F = 2 ∧ R = 3 := by rcases hFR with ⟨rfl, rfl⟩ | ⟨rfl, rfl⟩ | ⟨rfl, rfl⟩ | ⟨rfl, rfl⟩ <;> simp at h6 ⊢
    obtain ⟨rfl, rfl⟩ := hc
    refine step fun K' hK' hR' hC' => ?_
    refine (ob_i m4 (wpB_range (by decide) ?_))
    refine WB.listR (by omega) ?_
    refine hK' _ _ ((hK _ _ (step fun K hK hR hC => ?_)))
    refine (ob_i m4 ?_)
    refine (hK _ _ ?_)
    have hzz : (rngList 0 ((2 * 3 : Nat) : Int) 1).map V.int = nV (List.range 6) := by
      have := rngList_up 0 6
      rw [show ((0 : Nat) : Int) = 0 from rfl] at this
      rw [show ((2 * 3 : Nat) : Int) = ((6 : Nat) : Int) from rfl, this]
      simp [nV]
    rw [hzz]
    refine law_geo P (m := upd m "zone" (.ref σ.length)) (p := 4) (G := g23) (kd := kd) (zone := List.range 6) (z := σ.length) (by simp [hσ]) chk23 (bd23 kd hkd _ (by decide)) (append_here _ _) hl (m1) (m3) (m2) (m4) (m5) (rfl) fun m σ' => rfl
  · have h6 : ¬ F * R = 6 := by have := of_decide_eq_false h6; omega
    refine (hK _ _ (step fun K hK hR hC => ?_))
    refine (ob_i m4 ?_)
    refine ite_i (fun h12 => ?_) fun h12 => ?_
    · have h12 : F * R = 12 := by have := of_decide_eq_true h12; omega
      have hc : F = 3 ∧ R = 4 := by rcases hFR with ⟨rfl, rfl⟩ | ⟨rfl, rfl⟩ | ⟨rfl, rfl⟩ | ⟨rfl, rfl⟩ <;> simp at h12 ⊢
      obtain ⟨rfl, rfl⟩ := hc
      refine step fun K' hK' hR' hC' => ?_
      refine (ob_i m6 ?_)
      refine ob_i (listAt_of hz) ⟨by decide, by simp [nV, hzl], ?_⟩
      refine hK' _ _ ((hK _ _ ?_))
      have hzz : (nV zl).take (1 : Int).toNat = nV (zl.take 1) := by simp [nV, List.map_take]
      rw [hzz]
      refine law_geo P (m := upd m "zone" (.ref σ.length)) (p := 4) (G := g34) (kd := kd) (zone := zl.take 1) (z := σ.length) (by simp [hσ]) chk34 (bd34 kd hkd _ (by simp; omega)) (append_here _ _) hl (m1) (m3) (m2) (m4) (m5) (rfl) fun m σ' => rfl
    · have h12 : ¬ F * R = 12 := by have := of_decide_eq_false h12; omega
      refine (hK _ _ ?_)
      rcases hFR with ⟨rfl, rfl⟩ | ⟨rfl, rfl⟩ | ⟨rfl, rfl⟩ | ⟨rfl, rfl⟩
      · exact absurd rfl h6
      · exact law_geo P (p := 3) (G := g33) (kd := kd) (zone := zl) (z := 2) hσ chk33 (bd33 kd hkd _ (by omega)) hz hl m1 m3 m2 m4 m5 m6 fun m σ' => rfl
      · exact law_geo P (p := 3) (G := g24) (kd := kd) (zone := zl) (z := 2) hσ chk24 (bd24 kd hkd _ (by omega)) hz hl m1 m3 m2 m4 m5 m6 fun m σ' => rfl
      · exact absurd rfl h12
end
end Mine

end

section
open PySem PySem.W PyProof.Rows
set_option linter.unusedVariables false
set_option maxRecDepth 1000000
set_option maxHeartbeats 0
set_option tactic.hygienic false
namespace Mine

theorem law_sem {C : Ctx} (P : Prg C) {c : Value} (hlaw : C.fnv "law" = some c) (ns : List Int) (hl : ns.length ≤ 63) : SemCall C 40 "law" [.script ns] [] (fun v _ => v = .bool true) (fun _ => False) := law_sem' P ns hl

theorem mk_gr {w : World} {B : Heap} {K : Frag} {p : Program} {loose : List Str} {mean : ExcName → Option Value} {mg mb : Str → Option Value} (T : Top p loose mean mg mb B) (F : Kf K) (X : K.In B) : Gr w B K :=
  ⟨F, X, ⟨mg, mb, T.g, T.b, T.builtins⟩, T.nolimit⟩

theorem law_end {prog : Program} {w : World} {s : Shared} {K : Frag} (G : Gr w s.heap K) {fa : Addr} (hfa : fa = 325) {a : Addr} {vs : List Value} {ns : List Int} (hl : s.heap.IsList a vs.toArray) (hi : IntsAre vs ns) (hlen : ns.length ≤ 63)
    {Q E : Value → Shared → Prop} (h : ∀ s', (∀ b o, s.heap.get? b = some o → s'.heap.get? b = some o) → s'.gens = s.gens → s'.os = s.os → Q (.bool true) s') : wpAny (model prog w) callerA (call (.ref fa) [.ref a]) Q E s := by
  subst hfa
  have P := mk_prg prog G
  have hs := law_sem (C := mkC prog w s.heap K) P (c := .ref 325) rfl ns hlen
  have sr : SR (mkC prog w s.heap K) [] [] s.heap := ⟨rfl, fun i o a e => by simp at e, fun i j a e => by simp at e, fun a h => by simp at h, fun b o e => e⟩
  refine wpAny_mono (hs callerA [] [] s (.ref 325) [.ref a] ⟨rfl, by decide +kernel, by decide +kernel⟩ rfl (fun e he => by simp at he) sr ⟨_, _, rfl, ⟨_, _, rfl, hl, hi⟩, rfl⟩ rfl) (fun r s' hpc => ?_) fun e s' x => ?_
  · obtain ⟨v, σ', ρ', hv, hr, hsr, hp⟩ := hpc
    subst hv
    obtain rfl : r = .bool true := hr
    exact h s' (fun b o e => hsr.base b o e) hp.gens hp.os
  · obtain ⟨_, _, _, _, _, _, hX⟩ := x
    exact hX.elim

end Mine

end

section
open PySem PySem.W PyProof.Rows
set_option linter.unusedVariables false
set_option maxRecDepth 1000000
set_option maxHeartbeats 0
namespace Mine
theorem X : PySem.Challenge.rw_pb0076_01.Holds := by
  refine rHead ?hw ?hc
  case hw => w_witness2
  intro w s₀ s₁ mg mb G Y fa o pm cd doc dV kV ho hd hcd hD hmg hg args vals as hpre hlay hrd hwl hlo
  obtain ⟨K, KF, KX⟩ := says_kf Y
  have GR : Gr w s₁.heap K := mk_gr G.T KF KX
  have hfa : fa = 325 := by
    have h1 := ns_of_nsIn GR.X G.T.g (nsIn_fn GR (x := "law") (a := 325) (mem_of_lookup' rfl))
    have h2 : mg (Str.ofString "law") = some (.ref fa) := hmg
    rw [h1] at h2; cases h2; rfl
  clear hd hcd hD hmg ho
  wrow_args hpre hlay hrd hwl hlo
  rename_i ns _ _ _ _ _ _ _ a vs _ hL _ _ _ hI _ hlen _
  refine law_end GR hfa hL hI (by omega) fun s' hk hg' hos => ?_
  refine GoodW.toG ⟨.inl ⟨.bool true, .bool true, [], rfl, fun cls => ?_, .bool true, ?_, unshared_nil⟩, hk, hos, hg'.trans hg⟩
  · rfl
  · wrow_post
end Mine

end

theorem PySem.Challenge.cw_pb0076_01_holds : PySem.Challenge.rw_pb0076_01.Holds :=
  Mine.X
