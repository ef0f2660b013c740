import PyProof.Rows.All
import Wide.All
import OpenK.AllK
import KE.KTryMore
import Wide.FinOn
import Lean
import PySem.Challenge.RW_on0027_01
set_option Elab.async false
set_option maxRecDepth 100000
set_option autoImplicit false
set_option linter.all false
set_option backward.eqns.nonrecursive false
set_option bootstrap.genMatcherCode false
set_option genSizeOf false
set_option genSizeOfSpec false
namespace Mine.Internal
open PySem PySem.W PyProof.Rows
theorem cps {G : Prop} (h : ∀ Q : Prop, (G → Q) → Q) : G := h G id
section
theorem XmY {y : Int} (h : 0 < y) : ¬ y.natAbs = 0 := fun e => by rw [Int.natAbs_eq_zero.mp e] at h; cases h
theorem Xj4 {y b : Int} (h : 0 ≤ y) (h2 : y < b) : y.natAbs < b.natAbs := Int.natAbs_lt_natAbs_of_nonneg_of_lt h h2
theorem Xgn {a : Int} {top : Nat} (h : 0 < top) (h2 : a < top) : a.toNat < top := (Int.toNat_lt' h).mpr h2
theorem Xmb {u a b c : Nat} (h : u + 8 * 0 + 16 < c) (ha : a ≤ 8) : u + 1 + min a b < c :=
  Nat.lt_of_le_of_lt (Nat.le_trans (Nat.add_le_add_left (Nat.le_trans (Nat.min_le_left a b) ha) (u + 1)) (show u + 9 ≤ u + 16 from Nat.add_le_add_left (by decide) u)) h
theorem Xh9 {u a b c : Nat} (h : u + 8 * 0 + 16 < c) (ha : a ≤ 8) : u + min a b < c :=
  Nat.lt_of_le_of_lt (Nat.add_le_add_left (Nat.le_trans (Nat.min_le_left a b) (Nat.le_trans ha (by decide))) u) h
theorem XoJ {a k c : Nat} (h : a + 8 * (k + 1) + 16 < c) : a + 3 + 8 * k + 16 < c :=
  Nat.lt_of_le_of_lt (Nat.add_le_add_right (by rw [Nat.add_right_comm]; exact Nat.add_le_add_left (show 3 ≤ 8 by decide) (a + 8 * k)) 16) h
theorem Xpf {a k c : Nat} (h : a + 8 * (k + 1) + 16 < c) : a + 1 + 8 * k + 16 < c :=
  Nat.lt_of_le_of_lt (Nat.add_le_add_right (by rw [Nat.add_right_comm]; exact Nat.add_le_add_left (show 1 ≤ 8 by decide) (a + 8 * k)) 16) h
theorem XmE {a k c : Nat} (h : a + (k + 1) < c) : a + 1 + k < c := by rw [Nat.add_right_comm]; exact h
theorem Xnz {a j k c : Nat} (e : j ≤ k) (h : a + k < c) : a + j < c := Nat.lt_of_le_of_lt (Nat.add_le_add_left e a) h
theorem XnC {a j k c : Nat} (e : j ≤ k) (h : a + 8 * k + 16 < c) : a + 8 * j + 16 < c := Nat.lt_of_le_of_lt (Nat.add_le_add_right (Nat.add_le_add_left (Nat.mul_le_mul_left 8 e) a) 16) h
theorem XcT {a b f : Nat} (h : a < b) (h' : b < f + 1) : a < f := Nat.lt_of_lt_of_le h (Nat.le_of_lt_succ h')
theorem XoZ {a : Nat} {r : Int} (h : (a : Int) ≤ r) (h2 : r ≤ 1) : a < 100 := Int.ofNat_lt.mp (Int.lt_of_le_of_lt (Int.le_trans h h2) (by decide))
theorem Xnc {a b c d : Nat} (h1 : a ≤ b) (h2 : b ≤ c) (h3 : c < d) : a < d := Nat.lt_of_le_of_lt (Nat.le_trans h1 h2) h3
noncomputable abbrev Sy := _root_.Fin 82
noncomputable def Sy.names : List String := ["", "blocked", "close", "closed", "count", "deadlock", "deed", "done", "ended", "kept", "lock", "none", "over", "owner", "panic", "ready", "received", "rooms", "send", "send on closed channel", "close of closed channel", "sent", "take", "unlock", "values", "wait", "waits", "woken", "all", "answer", "buffer", "choices", "frames", "here", "number", "receivers", "room", "row", "senders", "state", "taken", "waiting", "waits_for", "self", "big", "cell", "channel", "channels", "digits", "drawn", "due", "first", "found", "goal", "group", "k", "locker", "many", "met", "mixed", "one", "others", "own", "place", "program", "programs", "rows", "scheduler", "script", "sender", "some", "source", "taker", "told", "top", "turn", "value", "waiter", "way", "what", "word", "world"]
noncomputable def Sy.s (a : Sy) : Str := Str.ofString (Sy.names.get a)
noncomputable def Sy.list : List Sy := List.finRange 82
theorem Sy.mem_list (a : Sy) : a ∈ Sy.list := List.mem_finRange a
theorem Sy.inj_all : ∀ a b : Sy, a.s = b.s → a = b := by decide +kernel
theorem Sy.inj {a b : Sy} (e : a.s = b.s) : a = b := Sy.inj_all a b e
noncomputable def Sy.eqb (a b : Sy) : Bool := a == b
theorem Sy.eqb_eq {a b : Sy} : a.eqb b = decide (a = b) := rfl
inductive Cl where
  | goroutine | scheduler | channel | choices | mutex | waitgroup
  deriving DecidableEq
noncomputable def Cl.addr : Cl → Addr
  | .goroutine => 105 | .scheduler => 191 | .channel => 280 | .choices => 308 | .mutex => 352 | .waitgroup => 394
inductive MV where
  | none
  | bool (b : Bool)
  | int (i : Int)
  | str (x : Sy)
  | tup (l : List MV)
  | ref (i : Nat)
  | arg (l : List Int)
inductive MO where
  | list (l : List MV)
  | dict (l : List (Sy × MV))
  | inst (c : Cl) (l : List (Sy × MV))
noncomputable abbrev Sg := List MO
inductive R (α : Type) where
  | stuck
  | ok (a : α) (σ : Sg)
  | exc (σ : Sg)
namespace R
noncomputable def bind {α β : Type} : R α → (α → Sg → R β) → R β
  | .stuck, _ => .stuck
  | .ok a σ, f => f a σ
  | .exc σ, _ => .exc σ
noncomputable def Ok {α : Type} (P : α → Sg → Prop) (X : Sg → Prop) (r : R α) : Prop := match r with
  | .stuck => False
  | .ok a σ => P a σ
  | .exc σ => X σ
theorem Ok_bind {α β : Type} {r : R α} {f : α → Sg → R β} {P : β → Sg → Prop} {X : Sg → Prop} : (r.bind f).Ok P X = r.Ok (fun a σ => (f a σ).Ok P X) X := by
  cases r <;> rfl
theorem Ok.mono {α : Type} {r : R α} {P P' : α → Sg → Prop} {X X' : Sg → Prop} (h : r.Ok P X) (hp : ∀ a σ, P a σ → P' a σ) (hx : ∀ σ, X σ → X' σ) : r.Ok P' X' := by
  cases r with
  | stuck => exact h
  | ok a σ => exact hp _ _ h
  | exc σ => exact hx _ h
end R
noncomputable abbrev Loc := Addr × Addr
noncomputable def Loc.has (p : Loc) (a : Addr) : Prop := a = p.1 ∨ a = p.2
noncomputable def In (ρ : List Loc) (a : Addr) : Prop := ∃ (i : Nat) (p : Loc), ρ[i]? = some p ∧ p.has a
noncomputable abbrev ListAt (h : Heap) (a : Addr) (vs : Array Value) : Prop := ∃ n, h.get? a = some { cls := .type "list", dict := none, data := .seq vs n, slots := #[] }
mutual
noncomputable def VRel (ρ : List Loc) (h : Heap) : MV → Value → Prop
  | .none, v => v = .none
  | .bool b, v => v = .bool b
  | .int i, v => ∃ t, v = .int i t
  | .str x, v => ∃ t, v = .str x.s t
  | .tup l, v => ∃ a vs, v = .ref a ∧ IsTup h a vs ∧ VRels ρ h l vs.toList
  | .ref i, v => ∃ p, ρ[i]? = some p ∧ v = .ref p.1
  | .arg l, v => ∃ a vs, v = .ref a ∧ ¬ In ρ a ∧ h.IsList a vs ∧ IntsAre vs.toList l
noncomputable def VRels (ρ : List Loc) (h : Heap) : List MV → List Value → Prop
  | [], vs => vs = []
  | m :: ms, vs => ∃ v vs', vs = v :: vs' ∧ VRel ρ h m v ∧ VRels ρ h ms vs'
end
structure Kept (ρ : List Loc) (h : Heap) (ρ' : List Loc) (h' : Heap) : Prop where
  loc : ∀ (i : Nat) (p : Loc), ρ[i]? = some p → ρ'[i]? = some p
  tup : ∀ a vs, IsTup h a vs → IsTup h' a vs
  lst : ∀ a vs, ¬ In ρ a → h.IsList a vs → ¬ In ρ' a ∧ h'.IsList a vs
mutual
theorem VRel.mono {ρ ρ' : List Loc} {h h' : Heap} (k : Kept ρ h ρ' h') : ∀ {m : MV} {v : Value}, VRel ρ h m v → VRel ρ' h' m v
  | .none, _, e => by simpa [VRel] using e
  | .bool _, _, e => by simpa [VRel] using e
  | .int _, _, e => by simpa [VRel] using e
  | .str _, _, e => by simpa [VRel] using e
  | .tup _, _, e => by
    simp only [VRel] at e ⊢
    refine @cps _ fun Γ γ => ?_
    obtain ⟨a, vs, rfl, t, r⟩ := e
    refine γ ?_; clear γ Γ
    exact ⟨a, vs, rfl, k.tup _ _ t, VRels.mono k r⟩
  | .ref _, _, e => by
    simp only [VRel] at e ⊢
    obtain ⟨p, q, rfl⟩ := e
    exact ⟨p, k.loc _ _ q, rfl⟩
  | .arg _, _, e => by
    simp only [VRel] at e ⊢
    refine @cps _ fun Γ γ => ?_
    obtain ⟨a, vs, rfl, n, t, r⟩ := e
    refine γ ?_; clear γ Γ
    exact ⟨a, vs, rfl, (k.lst _ _ n t).1, (k.lst _ _ n t).2, r⟩
theorem VRels.mono {ρ ρ' : List Loc} {h h' : Heap} (k : Kept ρ h ρ' h') : ∀ {m : List MV} {v : List Value}, VRels ρ h m v → VRels ρ' h' m v
  | [], _, e => by simpa [VRels] using e
  | _ :: _, _, e => by
    simp only [VRels] at e ⊢
    refine @cps _ fun Γ γ => ?_
    obtain ⟨v, vs, rfl, a, b⟩ := e
    refine γ ?_; clear γ Γ
    exact ⟨v, vs, rfl, VRel.mono k a, VRels.mono k b⟩
end
theorem VRels.length {ρ : List Loc} {h : Heap} : ∀ {l : List MV} {vs : List Value}, VRels ρ h l vs → vs.length = l.length
  | [], _, e => by simp only [VRels] at e; subst e; rfl
  | _ :: _, _, e => by
    simp only [VRels] at e
    refine @cps _ fun Γ γ => ?_
    obtain ⟨v, vs, rfl, _, b⟩ := e
    refine γ ?_; clear γ Γ
    simp [VRels.length b]
theorem VRels.get {ρ : List Loc} {h : Heap} : ∀ {l : List MV} {vs : List Value} {i : Nat} {m : MV}, VRels ρ h l vs → l[i]? = some m → ∃ v, vs[i]? = some v ∧ VRel ρ h m v
  | [], _, i, _, e, q => by simp at q
  | _ :: _, _, 0, _, e, q => by
    simp only [VRels] at e
    refine @cps _ fun Γ γ => ?_
    obtain ⟨v, vs, rfl, a, b⟩ := e
    refine γ ?_; clear γ Γ
    simp at q; subst q
    exact ⟨v, rfl, a⟩
  | _ :: _, _, i + 1, _, e, q => by
    simp only [VRels] at e
    refine @cps _ fun Γ γ => ?_
    obtain ⟨v, vs, rfl, a, b⟩ := e
    refine γ ?_; clear γ Γ
    simp at q
    obtain ⟨w, c, d⟩ := b.get q
    exact ⟨w, by simpa using c, d⟩
theorem VRels.append {ρ : List Loc} {h : Heap} : ∀ {l l' : List MV} {vs vs' : List Value}, VRels ρ h l vs → VRels ρ h l' vs' → VRels ρ h (l ++ l') (vs ++ vs')
  | [], _, _, _, e, q => by simp only [VRels] at e; subst e; simpa using q
  | _ :: _, _, _, _, e, q => by
    simp only [VRels, List.cons_append] at e ⊢
    refine @cps _ fun Γ γ => ?_
    obtain ⟨v, vs, rfl, a, b⟩ := e
    refine γ ?_; clear γ Γ
    exact ⟨v, _, rfl, a, b.append q⟩
theorem VRels.one {ρ : List Loc} {h : Heap} {m : MV} {v : Value} (e : VRel ρ h m v) : VRels ρ h [m] [v] := by
  simp only [VRels]; exact ⟨v, [], rfl, e, rfl⟩
theorem VRels.set {ρ : List Loc} {h : Heap} : ∀ {l : List MV} {vs : List Value} {i : Nat} {m : MV} {v : Value}, VRels ρ h l vs → VRel ρ h m v → VRels ρ h (l.set i m) (vs.set i v)
  | [], _, i, _, _, e, q => by simp only [VRels] at e; subst e; simp [VRels]
  | _ :: _, _, 0, _, _, e, q => by
    simp only [VRels] at e
    refine @cps _ fun Γ γ => ?_
    obtain ⟨v, vs, rfl, a, b⟩ := e
    refine γ ?_; clear γ Γ
    simp only [List.set_cons_zero, VRels]; exact ⟨_, _, rfl, q, b⟩
  | _ :: _, _, i + 1, _, _, e, q => by
    simp only [VRels] at e
    refine @cps _ fun Γ γ => ?_
    obtain ⟨v, vs, rfl, a, b⟩ := e
    refine γ ?_; clear γ Γ
    simp only [List.set_cons_succ, VRels]; exact ⟨_, _, rfl, a, b.set q⟩
theorem VRels.drop {ρ : List Loc} {h : Heap} : ∀ {l : List MV} {vs : List Value} (i : Nat), VRels ρ h l vs → VRels ρ h (l.drop i) (vs.drop i)
  | [], _, i, e => by simp only [VRels] at e; subst e; simp [VRels]
  | _ :: _, _, 0, e => by simpa using e
  | _ :: _, _, i + 1, e => by
    simp only [VRels] at e
    refine @cps _ fun Γ γ => ?_
    obtain ⟨v, vs, rfl, a, b⟩ := e
    refine γ ?_; clear γ Γ
    simpa using b.drop i
theorem VRels.take {ρ : List Loc} {h : Heap} : ∀ {l : List MV} {vs : List Value} (i : Nat), VRels ρ h l vs → VRels ρ h (l.take i) (vs.take i)
  | [], _, i, e => by simp only [VRels] at e; subst e; simp [VRels]
  | _ :: _, _, 0, e => by simp [VRels]
  | _ :: _, _, i + 1, e => by
    simp only [VRels] at e
    refine @cps _ fun Γ γ => ?_
    obtain ⟨v, vs, rfl, a, b⟩ := e
    refine γ ?_; clear γ Γ
    simp only [List.take_succ_cons, VRels]; exact ⟨_, _, rfl, a, b.take i⟩
theorem ListAt.isList {h : Heap} {a : Addr} {vs : Array Value} (l : ListAt h a vs) : h.IsList a vs := let ⟨n, g⟩ := l; ⟨_, g, rfl, n, rfl⟩
set_option genInjectivity false in
structure Wd where
  prog : Program
  w : World
  K : Frag
  h₀ : Heap
  mg : Str → Option Value
  mb : Str → Option Value
  os : OsState
  X : K.In h₀
  g : h₀.Ns mainGlobals mg
  b : h₀.Ns builtinsNs mb
  nolimit : h₀.NoLimit
  bi : ∀ x : Str, x ≠ "__name__" → mb x = bootBuiltins x
noncomputable def FieldsAre (ρ : List Loc) (h : Heap) (fs : List (Sy × MV)) (m : Str → Option Value) : Prop :=
  (∀ x v, fs.lookup x = some v → ∃ w, m x.s = some w ∧ VRel ρ h v w) ∧ ∀ x : Str, (∀ y v, fs.lookup y = some v → y.s ≠ x) → m x = none
noncomputable def ORel (C : Wd) (ρ : List Loc) (h : Heap) (p : Loc) : MO → Prop
  | .list l => p.2 = p.1 ∧ ∃ vs, ListAt h p.1 vs ∧ VRels ρ h l vs.toList
  | .dict l => p.2 = p.1 ∧ ∃ kvs, h.DictOf (strKind C.prog C.w) p.1 kvs ∧ kvs.map (·.1) = l.map (·.1.s) ∧ VRels ρ h (l.map (·.2)) (kvs.map (·.2))
  | .inst c fs => p.2 ≠ p.1 ∧ ∃ m sl od es ep, h.get? p.1 = some ⟨.ref c.addr, some p.2, .plain, sl⟩ ∧ h.get? p.2 = some od ∧ od.cls = .type "dict" ∧ od.data = .dict es ep ∧ StrKeys es ∧ (∀ x, nsFind es x = m x) ∧ es.size ≤ fs.length ∧ FieldsAre ρ h fs m
structure RelH (C : Wd) (ρ : List Loc) (σ : Sg) (h : Heap) : Prop where
  stays : C.h₀.StaysIn h
  len : ρ.length = σ.length
  objs : ∀ (i : Nat) (p : Loc) (o : MO), ρ[i]? = some p → σ[i]? = some o → ORel C ρ h p o
  own : ∀ (i j : Nat) (p q : Loc) (a : Addr), ρ[i]? = some p → ρ[j]? = some q → p.has a → q.has a → i = j
  above : ∀ (i : Nat) (p : Loc) (a : Addr), ρ[i]? = some p → p.has a → C.h₀.get? a = none
structure Rel (C : Wd) (ρ : List Loc) (σ : Sg) (s : Shared) : Prop where
  h : RelH C ρ σ s.heap
  gens : s.gens = #[]
  os : s.os = C.os
theorem RelH.kind {C : Wd} {ρ : List Loc} {σ : Sg} {h : Heap} (r : RelH C ρ σ h) {a : Addr} (ha : In ρ a) :
    ∃ o, h.get? a = some o ∧ o.cls ≠ .type "tuple" ∧ (∀ v, o.data ≠ .cell v) ∧ (∀ vs, o.data ≠ .fields vs) := by
  refine @cps _ fun Γ γ => ?_
  obtain ⟨i, p, hp, hpa⟩ := ha
  refine γ ?_; clear γ Γ
  have hi : i < σ.length := by rw [← r.len]; exact (List.getElem?_eq_some_iff.mp hp).1
  have ho := List.getElem?_eq_getElem hi
  have O := r.objs i p _ hp ho
  cases hm : σ[i] with
  | list l =>
    rw [hm] at O
    refine @cps _ fun Γ γ => ?_
    obtain ⟨e, vs, ⟨n, g⟩, _⟩ := O
    refine γ ?_; clear γ Γ
    have : a = p.1 := by rcases hpa with q | q; exact q; exact q.trans e
    subst this
    exact ⟨_, g, by simp, by simp, by simp⟩
  | dict l =>
    rw [hm] at O
    refine @cps _ fun Γ γ => ?_
    obtain ⟨e, kvs, ⟨o, es, ep, g, c, d, _⟩, _⟩ := O
    refine γ ?_; clear γ Γ
    have : a = p.1 := by rcases hpa with q | q; exact q; exact q.trans e
    subst this
    exact ⟨o, g, by rw [c.1]; simp, by rw [d]; simp, by rw [d]; simp⟩
  | inst c l =>
    rw [hm] at O
    refine @cps _ fun Γ γ => ?_
    obtain ⟨_, m, sl, od, es, ep, g, g2, c2, d2, _⟩ := O
    refine γ ?_; clear γ Γ
    rcases hpa with rfl | rfl
    · exact ⟨_, g, by simp, by simp, by simp⟩
    · exact ⟨_, g2, by rw [c2]; simp, by rw [d2]; simp, by rw [d2]; simp⟩
end
section
noncomputable def Evo (xs : List Addr) (ρ : List Loc) (h h' : Heap) : Prop :=
  ∀ a o, h.get? a = some o → ∃ o', h'.get? a = some o' ∧ ((∀ vs, o.data ≠ .fields vs) → ∀ vs, o'.data ≠ .fields vs) ∧
    (¬ In ρ a → a ∉ xs → ∃ sl, o' = { o with slots := sl } ∧ ((∃ vs, o.data = .fields vs) → sl = o.slots))
structure Step (xs : List Addr) (ρ : List Loc) (h : Heap) (ρ' : List Loc) (h' : Heap) : Prop where
  grow : ∃ ext : List Loc, ρ' = ρ ++ ext ∧ ∀ p, p ∈ ext → ∀ a, p.has a → h.get? a = none
  evo : Evo xs ρ h h'
theorem Evo.refl (xs : List Addr) (ρ : List Loc) (h : Heap) : Evo xs ρ h h := fun _ o e => ⟨o, e, id, fun _ _ => ⟨o.slots, rfl, fun _ => rfl⟩⟩
theorem Step.refl (xs : List Addr) (ρ : List Loc) (h : Heap) : Step xs ρ h ρ h := ⟨⟨[], by simp, by simp⟩, Evo.refl xs ρ h⟩
theorem in_append {ρ ext : List Loc} {a : Addr} : In (ρ ++ ext) a ↔ In ρ a ∨ ∃ p, p ∈ ext ∧ p.has a := by
  constructor
  · rintro ⟨i, p, hp, ha⟩
    rw [List.getElem?_append] at hp
    split at hp
    · exact .inl ⟨i, p, hp, ha⟩
    · exact .inr ⟨p, List.mem_of_getElem? hp, ha⟩
  · rintro (⟨i, p, hp, ha⟩ | ⟨p, hp, ha⟩)
    · exact ⟨i, p, by rw [List.getElem?_append_left (List.getElem?_eq_some_iff.mp hp).1]; exact hp, ha⟩
    · obtain ⟨i, hi, rfl⟩ := List.getElem_of_mem hp
      exact ⟨ρ.length + i, ext[i], by rw [List.getElem?_append_right (by lia)]; simp [hi], ha⟩
theorem Step.incl {xs : List Addr} {ρ ρ' : List Loc} {h h' : Heap} (st : Step xs ρ h ρ' h') (i : Nat) (p : Loc) (e : ρ[i]? = some p) : ρ'[i]? = some p := by
  obtain ⟨ext, rfl, _⟩ := st.grow
  rw [List.getElem?_append_left (List.getElem?_eq_some_iff.mp e).1]; exact e
theorem Step.notIn {xs : List Addr} {ρ ρ' : List Loc} {h h' : Heap} (st : Step xs ρ h ρ' h') {a : Addr} {o : Obj} (e : h.get? a = some o) (n : ¬ In ρ a) : ¬ In ρ' a := by
  obtain ⟨ext, rfl, hn⟩ := st.grow
  intro q
  rcases in_append.mp q with q | ⟨p, hp, ha⟩
  · exact n q
  · rw [hn p hp a ha] at e; cases e
theorem Evo.none {xs : List Addr} {ρ : List Loc} {h h' : Heap} (ev : Evo xs ρ h h') {a : Addr} (e : h'.get? a = none) : h.get? a = none := by
  cases q : h.get? a with
  | none => rfl
  | some o => obtain ⟨o', g, _⟩ := ev a o q; rw [g] at e; cases e
theorem Step.trans {xs : List Addr} {ρ ρ₁ ρ₂ : List Loc} {h h₁ h₂ : Heap} (x : Step xs ρ h ρ₁ h₁) (y : Step xs ρ₁ h₁ ρ₂ h₂) : Step xs ρ h ρ₂ h₂ := by
  refine @cps _ fun Γ γ => ?_
  obtain ⟨e1, q1, n1⟩ := x.grow
  obtain ⟨e2, q2, n2⟩ := y.grow
  refine γ ?_; clear γ Γ
  subst q1 q2
  refine ⟨⟨e1 ++ e2, by rw [List.append_assoc], fun p hp a ha => ?_⟩, fun a o e => ?_⟩
  · rcases List.mem_append.mp hp with hp | hp
    · exact n1 p hp a ha
    · exact x.evo.none (n2 p hp a ha)
  · obtain ⟨o1, g1, d1, s1⟩ := x.evo a o e
    refine @cps _ fun Γ γ => ?_
    obtain ⟨o2, g2, d2, s2⟩ := y.evo a o1 g1
    refine γ ?_; clear γ Γ
    refine ⟨o2, g2, fun z => d2 (d1 z), fun ni nx => ?_⟩
    refine @cps _ fun Γ γ => ?_
    obtain ⟨sl1, rfl, f1⟩ := s1 ni nx
    obtain ⟨sl2, rfl, f2⟩ := s2 (x.notIn e ni) nx
    refine γ ?_; clear γ Γ
    exact ⟨sl2, rfl, fun z => (f2 z).trans (f1 z)⟩
theorem Step.weaken {xs ys : List Addr} {ρ ρ' : List Loc} {h h' : Heap} (x : Step xs ρ h ρ' h') (s : ∀ a, a ∈ xs → a ∈ ys) : Step ys ρ h ρ' h' :=
  ⟨x.grow, fun a o e => let ⟨o', g, d, q⟩ := x.evo a o e; ⟨o', g, d, fun ni nx => q ni fun z => nx (s a z)⟩⟩
theorem Step.w0 {ys : List Addr} {ρ ρ' : List Loc} {h h' : Heap} (x : Step [] ρ h ρ' h') : Step ys ρ h ρ' h' := x.weaken (by simp)
theorem Step.drop {xs ys : List Addr} {ρ ρ' : List Loc} {h h' : Heap} (x : Step xs ρ h ρ' h') (s : ∀ a, a ∈ xs → a ∈ ys ∨ h.get? a = none) : Step ys ρ h ρ' h' :=
  ⟨x.grow, fun a o e => let ⟨o', g, d, q⟩ := x.evo a o e; ⟨o', g, d, fun ni nx => q ni fun z => by
    rcases s a z with z | z
    · exact nx z
    · rw [z] at e; cases e⟩⟩
theorem Step.keeps {xs : List Addr} {ρ : List Loc} {h h' : Heap} (k : ∀ b o, h.get? b = some o → h'.get? b = some o) : Step xs ρ h ρ h' :=
  ⟨⟨[], by simp, by simp⟩, fun a o e => ⟨o, k a o e, id, fun _ _ => ⟨o.slots, rfl, fun _ => rfl⟩⟩⟩
theorem VZ (h : Heap) (o : Obj) : ∀ b o', h.get? b = some o' → (h.push o).get? b = some o' := fun _ _ e => Heap.get?_push_of_some o e
theorem Step.push {xs : List Addr} {ρ : List Loc} (h : Heap) (o : Obj) : Step xs ρ h ρ (h.push o) := .keeps (VZ h o)
noncomputable def Odd (o : Obj) : Prop := ∀ vs n, o.data ≠ .seq vs n
theorem XbT {C : Wd} {σ : Sg} {ρ ρ' : List Loc} {xs : List Addr} {h h' : Heap} (r : RelH C ρ σ h) (st : Step xs ρ h ρ' h') (hx : ∀ a ∈ xs, ∀ o, h.get? a = some o → Odd o) : Kept ρ h ρ' h' := by
  refine ⟨st.incl, fun a vs t => ?_, fun a vs ni t => ?_⟩
  · obtain ⟨o, g, c, n, d⟩ := t
    refine @cps _ fun Γ γ => ?_
    obtain ⟨o', g', _, s'⟩ := st.evo a o g
    refine γ ?_; clear γ Γ
    have ni : ¬ In ρ a := fun q => by
      refine @cps _ fun Γ γ => ?_
      obtain ⟨o2, g2, c2, _⟩ := r.kind q
      refine γ ?_; clear γ Γ
      rw [g] at g2; cases g2; exact c2 c
    obtain ⟨sl, rfl, _⟩ := s' ni fun z => hx a z o g _ _ d
    exact ⟨_, g', c, n, d⟩
  · obtain ⟨o, g, c, n, d⟩ := t
    refine @cps _ fun Γ γ => ?_
    obtain ⟨o', g', _, s'⟩ := st.evo a o g
    obtain ⟨sl, rfl, _⟩ := s' ni fun z => hx a z o g _ _ d
    refine γ ?_; clear γ Γ
    exact ⟨st.notIn g ni, _, g', c, n, d⟩
theorem Xix {ρ : List Loc} {h h' : Heap} (k : ∀ b o, h.get? b = some o → h'.get? b = some o) : Kept ρ h ρ h' :=
  ⟨fun _ _ e => e, fun _ _ t => t.keeps k, fun a vs n t => ⟨n, let ⟨o, g, r⟩ := t; ⟨o, k _ _ g, r⟩⟩⟩
theorem VRel.step {C : Wd} {σ : Sg} {ρ ρ' : List Loc} {h h' : Heap} {v : MV} {w : Value} (e : VRel ρ h v w) (r : RelH C ρ σ h) (st : Step [] ρ h ρ' h') : VRel ρ' h' v w :=
  e.mono (XbT r st (by simp))
theorem VRels.step {C : Wd} {σ : Sg} {ρ ρ' : List Loc} {h h' : Heap} {v : List MV} {w : List Value} (e : VRels ρ h v w) (r : RelH C ρ σ h) (st : Step [] ρ h ρ' h') : VRels ρ' h' v w :=
  e.mono (XbT r st (by simp))
theorem FieldsAre.mono {ρ ρ' : List Loc} {h h' : Heap} {fs : List (Sy × MV)} {m : Str → Option Value} (e : FieldsAre ρ h fs m) (k : Kept ρ h ρ' h') : FieldsAre ρ' h' fs m :=
  ⟨fun x v q => let ⟨w, a, b⟩ := e.1 x v q; ⟨w, a, b.mono k⟩, e.2⟩
theorem ORel.mono {C : Wd} {ρ ρ' : List Loc} {h h' : Heap} {p : Loc} {o : MO} (e : ORel C ρ h p o) (k : Kept ρ h ρ' h') (hk : ∀ a o, p.has a → h.get? a = some o → h'.get? a = some o) : ORel C ρ' h' p o := by
  cases o with
  | list l =>
    refine @cps _ fun Γ γ => ?_
    obtain ⟨e0, vs, ⟨n, g⟩, v⟩ := e
    refine γ ?_; clear γ Γ
    exact ⟨e0, vs, ⟨n, hk _ _ (.inl rfl) g⟩, v.mono k⟩
  | dict l =>
    refine @cps _ fun Γ γ => ?_
    obtain ⟨e0, kvs, ⟨o, es, ep, g, c⟩, q, v⟩ := e
    refine γ ?_; clear γ Γ
    exact ⟨e0, kvs, ⟨o, es, ep, hk _ _ (.inl rfl) g, c⟩, q, v.mono k⟩
  | inst c l =>
    refine @cps _ fun Γ γ => ?_
    obtain ⟨e0, m, sl, od, es, ep, g, g2, c2, d1, d2, d3, d4, f⟩ := e
    refine γ ?_; clear γ Γ
    exact ⟨e0, m, sl, od, es, ep, hk _ _ (.inl rfl) g, hk _ _ (.inr rfl) g2, c2, d1, d2, d3, d4, f.mono k⟩
theorem RelH.keeps {C : Wd} {ρ : List Loc} {σ : Sg} {h h' : Heap} (r : RelH C ρ σ h) (k : ∀ b o, h.get? b = some o → h'.get? b = some o) : RelH C ρ σ h' :=
  ⟨fun b o e => k b o (r.stays b o e), r.len, fun i p o a b => (r.objs i p o a b).mono (Xix k) (fun a o _ e => k a o e), r.own, r.above⟩
theorem RelH.push {C : Wd} {ρ : List Loc} {σ : Sg} {h : Heap} (r : RelH C ρ σ h) (o : Obj) : RelH C ρ σ (h.push o) := r.keeps (VZ h o)
theorem Rel.push {C : Wd} {ρ : List Loc} {σ : Sg} {s : Shared} (r : Rel C ρ σ s) (o : Obj) : Rel C ρ σ { s with heap := s.heap.push o } := ⟨r.h.push o, r.gens, r.os⟩
theorem Rel.keeps {C : Wd} {ρ : List Loc} {σ : Sg} {s s' : Shared} (r : Rel C ρ σ s) (k : ∀ b o, s.heap.get? b = some o → s'.heap.get? b = some o) (hg : s'.gens = s.gens) (ho : s'.os = s.os) : Rel C ρ σ s' :=
  ⟨r.h.keeps k, hg.trans r.gens, ho.trans r.os⟩
theorem Rel.toks {C : Wd} {ρ : List Loc} {σ : Sg} {s : Shared} (r : Rel C ρ σ s) (t : Nat) : Rel C ρ σ { s with toks := t } := ⟨r.h, r.gens, r.os⟩
theorem RelH.inAlive {C : Wd} {ρ : List Loc} {σ : Sg} {h : Heap} (r : RelH C ρ σ h) {a : Addr} (e : h.get? a = none) : ¬ In ρ a := fun q => by
  obtain ⟨o, g, _⟩ := r.kind q; rw [g] at e; cases e
theorem RelH.grow {C : Wd} {ρ : List Loc} {σ : Sg} {h h' : Heap} {p : Loc} {o : MO} (r : RelH C ρ σ h) (k : ∀ b o, h.get? b = some o → h'.get? b = some o)
    (hp : ∀ a, p.has a → h.get? a = none) (ho : ORel C (ρ ++ [p]) h' p o) : RelH C (ρ ++ [p]) (σ ++ [o]) h' := by
  have hr : ∀ (i : Nat) (q : Loc), ρ[i]? = some q → (ρ ++ [p])[i]? = some q := fun i q e => by rw [List.getElem?_append_left (List.getElem?_eq_some_iff.mp e).1]; exact e
  have old : ∀ (i : Nat) (q : Loc), (ρ ++ [p])[i]? = some q → (i < ρ.length ∧ ρ[i]? = some q) ∨ (i = ρ.length ∧ q = p) := fun i q e => by
    by_cases hi : i < ρ.length
    · exact .inl ⟨hi, by rwa [List.getElem?_append_left hi] at e⟩
    · have hl := (List.getElem?_eq_some_iff.mp e).1
      simp at hl
      have : i = ρ.length := by lia
      subst this
      simp at e
      exact .inr ⟨rfl, e.symm⟩
  have kp : Kept ρ h (ρ ++ [p]) h' := by
    refine ⟨hr, fun _ _ t => t.keeps k, fun a vs n t => ⟨fun z => ?_, let ⟨o, g, r⟩ := t; ⟨o, k _ _ g, r⟩⟩⟩
    obtain ⟨o, g, _⟩ := t
    rcases in_append.mp z with z | ⟨q, hq, ha⟩
    · exact n z
    · simp at hq; subst hq; rw [hp a ha] at g; cases g
  refine ⟨fun b o e => k b o (r.stays b o e), by simp [r.len], fun i q o' e1 e2 => ?_, fun i j q q' a e1 e2 h1 h2 => ?_, fun i q a e1 h1 => ?_⟩
  · rcases old i q e1 with ⟨hi, e⟩ | ⟨rfl, rfl⟩
    · rw [List.getElem?_append_left (by rw [← r.len]; exact hi)] at e2
      exact (r.objs i q o' e e2).mono kp (fun a o _ e => k a o e)
    · rw [r.len] at e2
      simp at e2
      subst e2
      exact ho
  · rcases old i q e1 with ⟨hi, e⟩ | ⟨rfl, rfl⟩ <;> rcases old j q' e2 with ⟨hj, e'⟩ | ⟨rfl, rfl⟩
    · exact r.own i j q q' a e e' h1 h2
    · exact absurd ⟨i, q, e, h1⟩ (r.inAlive (hp a h2))
    · exact absurd ⟨j, q', e', h2⟩ (r.inAlive (hp a h1))
    · rfl
  · rcases old i q e1 with ⟨_, e⟩ | ⟨rfl, rfl⟩
    · exact r.above i q a e h1
    · cases z : C.h₀.get? a with
      | none => rfl
      | some o' => have := r.stays a o' z; rw [hp a h1] at this; cases this
theorem Step.grow1 {xs : List Addr} {ρ : List Loc} {h h' : Heap} {p : Loc} (k : ∀ b o, h.get? b = some o → h'.get? b = some o) (hp : ∀ a, p.has a → h.get? a = none) : Step xs ρ h (ρ ++ [p]) h' :=
  ⟨⟨[p], rfl, fun q hq a ha => by simp at hq; subst hq; exact hp a ha⟩, fun a o e => ⟨o, k a o e, id, fun _ _ => ⟨o.slots, rfl, fun _ => rfl⟩⟩⟩
theorem Heap.size_none (h : Heap) : h.get? h.objs.size = none := by
  cases e : h.get? h.objs.size with
  | none => rfl
  | some o => exact absurd (Heap.lt_size e) (Nat.lt_irrefl _)
theorem RelH.set {C : Wd} {ρ : List Loc} {σ : Sg} {h h' : Heap} {i : Nat} {p : Loc} {o' : MO} {a : Addr} (r : RelH C ρ σ h) (hi : ρ[i]? = some p) (ha : p.has a) (hs : Heap.SameBut a h h') (ho : ORel C ρ h' p o') :
    RelH C ρ (σ.set i o') h' := by
  have ni : In ρ a := ⟨i, p, hi, ha⟩
  have nt : ∀ b vs, IsTup h b vs → IsTup h' b vs := fun b vs t => by
    refine @cps _ fun Γ γ => ?_
    obtain ⟨o, g, c, n, d⟩ := t
    refine γ ?_; clear γ Γ
    have : b ≠ a := fun q => by
      refine @cps _ fun Γ γ => ?_
      obtain ⟨o2, g2, c2, _⟩ := r.kind ni
      refine γ ?_; clear γ Γ
      rw [← q, g] at g2; cases g2; exact c2 c
    exact ⟨o, (hs.2 b this).trans g, c, n, d⟩
  have kp : Kept ρ h ρ h' := ⟨fun _ _ e => e, nt, fun b vs nb t => ⟨nb, let ⟨o, g, r⟩ := t; ⟨o, (hs.2 b fun q => nb (q ▸ ni)).trans g, r⟩⟩⟩
  refine ⟨fun b o e => (hs.2 b fun q => by rw [q, r.above i p a hi ha] at e; cases e).trans (r.stays b o e), by simp [r.len], fun j q o e1 e2 => ?_, r.own, r.above⟩
  by_cases hj : i = j
  · subst hj
    rw [hi] at e1; cases e1
    have hl : i < σ.length := by rw [← r.len]; exact (List.getElem?_eq_some_iff.mp hi).1
    rw [List.getElem?_set_self hl] at e2
    cases e2
    exact ho
  · rw [List.getElem?_set_ne hj] at e2
    exact (r.objs j q o e1 e2).mono kp fun b o hb e => (hs.2 b fun z => hj (r.own i j p q a hi e1 ha (z ▸ hb))).trans e
theorem Step.mut {xs : List Addr} {ρ : List Loc} {h h' : Heap} {i : Nat} {p : Loc} {a : Addr} {o' : Obj} (hi : ρ[i]? = some p) (ha : p.has a) (hs : Heap.SameBut a h h') (ho : h'.get? a = some o') (hd : ∀ vs, o'.data ≠ .fields vs) :
    Step xs ρ h ρ h' :=
  ⟨⟨[], by simp, by simp⟩, fun b o e => by
    by_cases q : b = a
    · subst q; exact ⟨o', ho, fun _ => hd, fun n _ => absurd ⟨i, p, hi, ha⟩ n⟩
    · exact ⟨o, (hs.2 b q).trans e, id, fun _ _ => ⟨o.slots, rfl, fun _ => rfl⟩⟩⟩
theorem WR {ρ : List Loc} {h h' : Heap} {a : Addr} (ht : ∀ o, h.get? a = some o → Odd o) (hs : Heap.SameBut a h h') : Kept ρ h ρ h' :=
  ⟨fun _ _ e => e, fun b vs t => by
    refine @cps _ fun Γ γ => ?_
    obtain ⟨o, g, c, n, d⟩ := t
    refine γ ?_; clear γ Γ
    exact ⟨o, (hs.2 b fun z => by subst z; exact ht o g _ _ d).trans g, c, n, d⟩, fun b vs nb t => ⟨nb, by
    refine @cps _ fun Γ γ => ?_
    obtain ⟨o, g, c, n, d⟩ := t
    refine γ ?_; clear γ Γ
    exact ⟨o, (hs.2 b fun z => by subst z; exact ht o g _ _ d).trans g, c, n, d⟩⟩⟩
theorem RelH.other {C : Wd} {ρ : List Loc} {σ : Sg} {h h' : Heap} {a : Addr} (r : RelH C ρ σ h) (hn : ¬ In ρ a) (h0 : C.h₀.get? a = none) (ht : ∀ o, h.get? a = some o → Odd o) (hs : Heap.SameBut a h h') : RelH C ρ σ h' :=
  ⟨fun b o e => (hs.2 b fun q => by rw [q, h0] at e; cases e).trans (r.stays b o e), r.len, fun j q o e1 e2 =>
    (r.objs j q o e1 e2).mono (WR ht hs) fun b o hb e => (hs.2 b fun z => hn ⟨j, q, e1, z ▸ hb⟩).trans e, r.own, r.above⟩
noncomputable abbrev Fr := List (Sy × MV)
noncomputable def xsB : Bool → Env → List Addr
  | true, env => env.locals :: env.cells.map (·.2)
  | false, env => [env.locals]
noncomputable abbrev XaP (env : Env) : List Addr := xsB true env
theorem Xb2 {b : Bool} {env : Env} : ∀ a, a ∈ xsB b env → a ∈ XaP env := fun a h => by
  cases b with
  | true => exact h
  | false => simp only [xsB, List.mem_singleton] at h; subst h; exact List.mem_cons_self
theorem Xms (b : Bool) (env : Env) : env.locals ∈ xsB b env := by cases b <;> exact List.mem_cons_self
structure FRel (C : Wd) (env : Env) (ρ : List Loc) (fr : Fr) (h : Heap) : Prop where
  kind : env.scope.kind = .function
  glob : env.globals = mainGlobals
  blt : env.builtins = builtinsNs
  sep : ¬ In ρ env.locals
  new : C.h₀.get? env.locals = none
  ns : ∃ m, h.Ns env.locals m ∧ ∀ x v, fr.lookup x = some v → ∃ w, VRel ρ h v w ∧ ((env.kindOf x.s = some .local ∧ m x.s = some w) ∨
    ((env.kindOf x.s = some .cell ∨ env.kindOf x.s = some .free) ∧ ∃ c, env.cells.lookup x.s = some c ∧ h.IsCell c (some w)))
  inj : ∀ x y c, env.cells.lookup x = some c → env.cells.lookup y = some c → x = y
  cells : ∀ c, c ∈ env.cells.map (·.2) → ∃ v, h.IsCell c v
  alive : ∀ x, env.kindOf x = some .cell → ∃ c v, env.cells.lookup x = some c ∧ h.IsCell c v ∧ C.h₀.get? c = none
theorem XkY {h h' : Heap} {a : Addr} {m : Str → Option Value} (n : h.Ns a m) (k : ∀ o, h.get? a = some o → ∃ sl, h'.get? a = some { o with slots := sl }) : h'.Ns a m := by
  refine @cps _ fun Γ γ => ?_
  obtain ⟨o, es, ep, g, d, r⟩ := n
  obtain ⟨sl, g'⟩ := k o g
  refine γ ?_; clear γ Γ
  exact ⟨_, es, ep, g', d, r⟩
theorem XcA {h h' : Heap} {a : Addr} {m : Option Value} (n : h.IsCell a m) (k : ∀ o, h.get? a = some o → ∃ sl, h'.get? a = some { o with slots := sl }) : h'.IsCell a m := by
  refine @cps _ fun Γ γ => ?_
  obtain ⟨o, g, d⟩ := n
  obtain ⟨sl, g'⟩ := k o g
  refine γ ?_; clear γ Γ
  exact ⟨_, g', d⟩
theorem RelH.notCell {C : Wd} {ρ : List Loc} {σ : Sg} {h : Heap} {c : Addr} {v : Option Value} (r : RelH C ρ σ h) (hc : h.IsCell c v) : ¬ In ρ c := fun q => by
  refine @cps _ fun Γ γ => ?_
  obtain ⟨o, g, d⟩ := hc
  obtain ⟨o2, g2, _, c2, _⟩ := r.kind q
  refine γ ?_; clear γ Γ
  rw [g] at g2; cases g2; exact c2 _ d
theorem FRel.step {C : Wd} {env : Env} {ρ ρ' : List Loc} {σ : Sg} {fr : Fr} {h h' : Heap} (f : FRel C env ρ fr h) (r : RelH C ρ σ h) (st : Step [] ρ h ρ' h') : FRel C env ρ' fr h' := by
  have up : ∀ a o, ¬ In ρ a → h.get? a = some o → ∃ sl, h'.get? a = some { o with slots := sl } := fun a o n g => by
    refine @cps _ fun Γ γ => ?_
    obtain ⟨o', g', _, q⟩ := st.evo a o g
    obtain ⟨sl, rfl, _⟩ := q n (by simp)
    refine γ ?_; clear γ Γ
    exact ⟨sl, g'⟩
  obtain ⟨m, hn, hv⟩ := f.ns
  have hL : ∃ o, h.get? env.locals = some o := let ⟨o, _, _, g, _⟩ := hn; ⟨o, g⟩
  obtain ⟨oL, hoL⟩ := hL
  refine ⟨f.kind, f.glob, f.blt, st.notIn hoL f.sep, f.new, ⟨m, XkY hn fun o => up _ o f.sep, fun x v e => ?_⟩, f.inj, fun c hc => let ⟨v, b⟩ := f.cells c hc; ⟨v, XcA b fun o => up _ o (r.notCell b)⟩, fun x e => ?_⟩
  · obtain ⟨w, a, b⟩ := hv x v e
    refine ⟨w, a.step r st, b.imp id fun ⟨b1, c, b2, b3⟩ => ⟨b1, c, b2, XcA b3 fun o => up _ o (r.notCell b3)⟩⟩
  · obtain ⟨c, v, a, b, d⟩ := f.alive x e
    exact ⟨c, v, a, XcA b fun o => up _ o (r.notCell b), d⟩
theorem XaF {h : Heap} {a : Addr} {m : Str → Option Value} (n : h.Ns a m) : ∀ o, h.get? a = some o → Odd o := fun o g vs n' d => by
  refine @cps _ fun Γ γ => ?_
  obtain ⟨o', es, ep, g', d', _⟩ := n
  refine γ ?_; clear γ Γ
  rw [g] at g'; cases g'; rw [d] at d'; cases d'
theorem Xcf {h : Heap} {a : Addr} {m : Option Value} (n : h.IsCell a m) : ∀ o, h.get? a = some o → Odd o := fun o g vs n' d => by
  obtain ⟨o', g', d'⟩ := n
  rw [g] at g'; cases g'; rw [d] at d'; cases d'
theorem Xcc {h : Heap} {a : Addr} {m : Str → Option Value} {v : Option Value} (n : h.Ns a m) : ¬ h.IsCell a v := fun ⟨o, g, d⟩ => by
  refine @cps _ fun Γ γ => ?_
  obtain ⟨o', es, ep, g', d', _⟩ := n
  refine γ ?_; clear γ Γ
  rw [g] at g'; cases g'; rw [d] at d'; cases d'
theorem FRel.ex {C : Wd} {env : Env} {ρ : List Loc} {fr : Fr} {h : Heap} (f : FRel C env ρ fr h) : ∀ a ∈ XaP env, ∃ o, h.get? a = some o := fun a ha => by
  rcases List.mem_cons.mp ha with rfl | ha
  · obtain ⟨m, ⟨o, _, _, g, _⟩, _⟩ := f.ns; exact ⟨o, g⟩
  · obtain ⟨v, o, g, _⟩ := f.cells a ha; exact ⟨o, g⟩
theorem FRel.odd {C : Wd} {env : Env} {ρ : List Loc} {fr : Fr} {h : Heap} (f : FRel C env ρ fr h) : ∀ a ∈ XaP env, ∀ o, h.get? a = some o → Odd o := fun a ha => by
  rcases List.mem_cons.mp ha with rfl | ha
  · obtain ⟨m, hn, _⟩ := f.ns; exact XaF hn
  · obtain ⟨v, hc⟩ := f.cells a ha; exact Xcf hc
structure Ax (C : Wd) (k : Nat) (A : Around) (ρ : List Loc) (h : Heap) : Prop where
  depth : A.depth + k < recursionLimit
  units : A.units + 8 * k + 16 < cLine
  hd : A.handled = none
  fr : ∃ l, A.frames = some l ∧ h.FunFrames C.h₀ l ∧ ∀ L ∈ l.filterMap (·.frame), ¬ In ρ L ∧ ∀ o, h.get? L = some o → Odd o
theorem WZ {xs : List Addr} {ρ : List Loc} {base h h' : Heap} (ev : Evo xs ρ h h') : ∀ {l : List Env}, h.FunFrames base l → h'.FunFrames base l
  | [], _ => trivial
  | _ :: _, ⟨hk, ⟨L, o, hf, hn, ho, hd⟩, hr⟩ =>
    let ⟨o', g, d, _⟩ := ev L o ho
    ⟨hk, ⟨L, o', hf, hn, g, d hd⟩, WZ ev hr⟩
theorem Wc {base h : Heap} : ∀ {l : List Env}, h.FunFrames base l → ∀ L ∈ l.filterMap (·.frame), ∃ o, h.get? L = some o
  | [], _, L, hL => by simp at hL
  | env :: l, ⟨_, ⟨L', o, hf, _, ho, _⟩, hr⟩, L, hL => by
    rw [List.filterMap_cons_some hf] at hL
    rcases List.mem_cons.mp hL with rfl | hL
    · exact ⟨o, ho⟩
    · exact Wc hr L hL
theorem WL {base h : Heap} : ∀ {l : List Env}, h.FunFrames base l → ∀ L ∈ l.filterMap (·.frame), base.get? L = none ∧ ∃ o, h.get? L = some o ∧ ∀ vs, o.data ≠ .fields vs
  | [], _, L, hL => by simp at hL
  | env :: l, ⟨_, ⟨L', o, hf, hb, ho, hd⟩, hr⟩, L, hL => by
    rw [List.filterMap_cons_some hf] at hL
    rcases List.mem_cons.mp hL with rfl | hL
    · exact ⟨hb, o, ho, hd⟩
    · exact WL hr L hL
theorem Ax.step {C : Wd} {k : Nat} {A : Around} {xs : List Addr} {ρ ρ' : List Loc} {h h' : Heap} (a : Ax C k A ρ h) (st : Step xs ρ h ρ' h') (hx : ∀ b ∈ xs, ∀ o, h'.get? b = some o → Odd o := by nofun) : Ax C k A ρ' h' :=
  ⟨a.depth, a.units, a.hd, let ⟨l, e, f, n⟩ := a.fr; ⟨l, e, WZ st.evo f, fun L hL => by
    obtain ⟨o, g⟩ := Wc f L hL
    obtain ⟨n1, n2⟩ := n L hL
    refine ⟨st.notIn g n1, fun o' g' => ?_⟩
    by_cases hm : L ∈ xs
    · exact hx L hm o' g'
    · obtain ⟨o1, g1, _, z⟩ := st.evo L o g
      obtain ⟨sl, rfl, _⟩ := z n1 hm
      rw [g'] at g1; cases g1
      exact n2 o g⟩⟩
theorem Ax.le {C : Wd} {j k : Nat} {A : Around} {ρ : List Loc} {h : Heap} (a : Ax C k A ρ h) (e : j ≤ k) : Ax C j A ρ h := ⟨Xnz e a.depth, XnC e a.units, a.hd, a.fr⟩
structure At (C : Wd) (k : Nat) (sc : Scope) (A : Around) (env : Env) (fr : Fr) (ρ : List Loc) (σ : Sg) (s : Shared) : Prop where
  sc : env.scope = sc
  rel : Rel C ρ σ s
  fr : FRel C env ρ fr s.heap
  ax : Ax C k A ρ s.heap
theorem At.next {C : Wd} {k : Nat} {sc : Scope} {A : Around} {env : Env} {fr : Fr} {ρ ρ' : List Loc} {σ σ' : Sg} {s s' : Shared} (a : At C k sc A env fr ρ σ s) (st : Step [] ρ s.heap ρ' s'.heap) (r : Rel C ρ' σ' s') :
    At C k sc A env fr ρ' σ' s' := ⟨a.sc, r, a.fr.step a.rel.h st, a.ax.step st⟩
noncomputable def gp : Addr := 78
noncomputable def XoH (B : Heap) (l : List Env) (e : Addr) (h : Heap) : Prop :=
  B.StaysIn h ∧ B.get? e = none ∧ h.FunFrames B l ∧ ∃ oe vs a0, h.get? e = some oe ∧ oe.cls = .ref gp ∧ oe.data = .fields vs ∧ vs[1]? = some .none ∧ vs[0]? = some a0
noncomputable def Exn (B : Heap) (l : List Env) (e : Addr) (h : Heap) : Prop := XoH B l e h ∨ ∃ a0, Heap.FlyingW B l e (.ref gp) a0 h
noncomputable def EPost (C : Wd) (A : Around) (xs : List Addr) (ρ : List Loc) (h : Heap) (σ' : Sg) (e : Value) (s' : Shared) : Prop :=
  ∃ ρ' B l a, A.frames = some l ∧ e = .ref a ∧ Exn B l a s'.heap ∧ RelH C ρ' σ' B ∧ Step xs ρ h ρ' s'.heap ∧ s'.gens = #[] ∧ s'.os = C.os ∧
    ∀ b o, h.get? b = some o → ¬ In ρ b → b ∉ xs → b ∉ l.filterMap (·.frame) → ∃ sl, B.get? b = some { o with slots := sl } ∧ ((∃ vs, o.data = .fields vs) → sl = o.slots)
theorem EPost.trans {C : Wd} {A : Around} {xs : List Addr} {ρ ρ₁ : List Loc} {h h₁ : Heap} {σ' : Sg} {e : Value} {s' : Shared} (x : EPost C A xs ρ₁ h₁ σ' e s') (st : Step xs ρ h ρ₁ h₁) : EPost C A xs ρ h σ' e s' := by
  refine @cps _ fun Γ γ => ?_
  obtain ⟨ρ', B, l, a, f, q, ex, r, st', g, o, k⟩ := x
  refine γ ?_; clear γ Γ
  refine ⟨ρ', B, l, a, f, q, ex, r, st.trans st', g, o, fun b ob hb n nx nf => ?_⟩
  refine @cps _ fun Γ γ => ?_
  obtain ⟨o1, g1, _, z⟩ := st.evo b ob hb
  obtain ⟨sl, rfl, f1⟩ := z n nx
  obtain ⟨sl', g2, f2⟩ := k b _ g1 (st.notIn hb n) nx nf
  refine γ ?_; clear γ Γ
  exact ⟨sl', g2, fun q => (f2 q).trans (f1 q)⟩
theorem EPost.weaken {C : Wd} {A : Around} {xs ys : List Addr} {ρ : List Loc} {h : Heap} {σ' : Sg} {e : Value} {s' : Shared} (x : EPost C A xs ρ h σ' e s') (w : ∀ a, a ∈ xs → a ∈ ys) : EPost C A ys ρ h σ' e s' := by
  refine @cps _ fun Γ γ => ?_
  obtain ⟨ρ', B, l, a, f, q, ex, r, st', g, o, k⟩ := x
  refine γ ?_; clear γ Γ
  exact ⟨ρ', B, l, a, f, q, ex, r, st'.weaken w, g, o, fun b ob hb n nx nf => k b ob hb n (fun z => nx (w b z)) nf⟩
theorem EPost.w0 {C : Wd} {A : Around} {ys : List Addr} {ρ : List Loc} {h : Heap} {σ' : Sg} {e : Value} {s' : Shared} (x : EPost C A [] ρ h σ' e s') : EPost C A ys ρ h σ' e s' := x.weaken (by simp)
set_option genInjectivity false in
inductive Fl where
  | next | brk | cont
  | ret (v : MV)
noncomputable def VP (ρ : List Loc) (h : Heap) : Fl → Flow → Prop
  | .next, f => f = .next
  | .brk, f => f = .brk
  | .cont, f => f = .cont
  | .ret v, f => ∃ w, f = .ret w ∧ VRel ρ h v w
section
variable (C : Wd) (A : Around) (ρ : List Loc) (s : Shared)
noncomputable abbrev QV (Q : Value → Shared → Prop) (v : MV) (σ' : Sg) : Prop := ∀ ρ' s' w, Step [] ρ s.heap ρ' s'.heap → Rel C ρ' σ' s' → VRel ρ' s'.heap v w → Q w s'
noncomputable abbrev QVs (Q : List Value → Shared → Prop) (v : List MV) (σ' : Sg) : Prop := ∀ ρ' s' w, Step [] ρ s.heap ρ' s'.heap → Rel C ρ' σ' s' → VRels ρ' s'.heap v w → Q w s'
noncomputable abbrev QB (Q : Bool → Shared → Prop) (v : Bool) (σ' : Sg) : Prop := ∀ ρ' s', Step [] ρ s.heap ρ' s'.heap → Rel C ρ' σ' s' → Q v s'
noncomputable abbrev QU (Q : Unit → Shared → Prop) (σ' : Sg) : Prop := ∀ ρ' s', Step [] ρ s.heap ρ' s'.heap → Rel C ρ' σ' s' → Q () s'
noncomputable abbrev QE (E : Value → Shared → Prop) (σ' : Sg) : Prop := ∀ e s', EPost C A [] ρ s.heap σ' e s' → E e s'
end
noncomputable abbrev QX (C : Wd) (k : Nat) (sc : Scope) (A : Around) (env : Env) (ρ : List Loc) (s : Shared) (Q : Flow → Shared → Prop) (r : Fl × Fr) (σ' : Sg) : Prop :=
  ∀ ρ' s' f, Step (XaP env) ρ s.heap ρ' s'.heap → At C k sc A env r.2 ρ' σ' s' → VP ρ' s'.heap r.1 f → Q f s'
noncomputable abbrev QEX (C : Wd) (A : Around) (env : Env) (ρ : List Loc) (s : Shared) (E : Value → Shared → Prop) (σ' : Sg) : Prop := ∀ e s', EPost C A (XaP env) ρ s.heap σ' e s' → E e s'
noncomputable abbrev EM := Fr → Sg → R MV
noncomputable abbrev EMs := Fr → Sg → R (List MV)
noncomputable abbrev BM := Fr → Sg → R Bool
noncomputable abbrev XM := Fr → Sg → R (Fl × Fr)
noncomputable def ES (C : Wd) (k : Nat) (sc : Scope) (e : Expr) (m : EM) : Prop :=
  ∀ ⦃A : Around⦄ ⦃env : Env⦄ ⦃fr : Fr⦄ ⦃ρ : List Loc⦄ ⦃σ : Sg⦄ ⦃s : Shared⦄ ⦃Q : Value → Shared → Prop⦄ ⦃E : Value → Shared → Prop⦄, At C k sc A env fr ρ σ s →
    (m fr σ).Ok (QV C ρ s Q) (QE C A ρ s E) → wpAny (model C.prog C.w) A (eval e env) Q E s
noncomputable def ESs (C : Wd) (k : Nat) (sc : Scope) (es : List Expr) (m : EMs) : Prop :=
  ∀ ⦃A : Around⦄ ⦃env : Env⦄ ⦃fr : Fr⦄ ⦃ρ : List Loc⦄ ⦃σ : Sg⦄ ⦃s : Shared⦄ ⦃Q : List Value → Shared → Prop⦄ ⦃E : Value → Shared → Prop⦄ (pos : Pos), At C k sc A env fr ρ σ s →
    (m fr σ).Ok (QVs C ρ s Q) (QE C A ρ s E) → wpAny (model C.prog C.w) A (spliced (backTo pos (starEach es env))) Q E s
noncomputable def BS (C : Wd) (k : Nat) (sc : Scope) (e : Expr) (m : BM) : Prop :=
  ∀ ⦃A : Around⦄ ⦃env : Env⦄ ⦃fr : Fr⦄ ⦃ρ : List Loc⦄ ⦃σ : Sg⦄ ⦃s : Shared⦄ ⦃Q : Bool → Shared → Prop⦄ ⦃E : Value → Shared → Prop⦄, At C k sc A env fr ρ σ s →
    (m fr σ).Ok (QB C ρ s Q) (QE C A ρ s E) → wpAny (model C.prog C.w) A (isTrue e env (eval e env)) Q E s
noncomputable def XS (C : Wd) (k : Nat) (sc : Scope) (st : Stmt) (m : XM) : Prop :=
  ∀ ⦃A : Around⦄ ⦃env : Env⦄ ⦃fr : Fr⦄ ⦃ρ : List Loc⦄ ⦃σ : Sg⦄ ⦃s : Shared⦄ ⦃Q : Flow → Shared → Prop⦄ ⦃E : Value → Shared → Prop⦄, At C k sc A env fr ρ σ s →
    (m fr σ).Ok (QX C k sc A env ρ s Q) (QEX C A env ρ s E) → wpAny (model C.prog C.w) A (exec st env) Q E s
noncomputable def XSs (C : Wd) (k : Nat) (sc : Scope) (st : List Stmt) (m : XM) : Prop :=
  ∀ ⦃A : Around⦄ ⦃env : Env⦄ ⦃fr : Fr⦄ ⦃ρ : List Loc⦄ ⦃σ : Sg⦄ ⦃s : Shared⦄ ⦃Q : Flow → Shared → Prop⦄ ⦃E : Value → Shared → Prop⦄, At C k sc A env fr ρ σ s →
    (m fr σ).Ok (QX C k sc A env ρ s Q) (QEX C A env ρ s E) → wpAny (model C.prog C.w) A (execs st env) Q E s
noncomputable def FS (C : Wd) (k : Nat) (f : Addr) (m : List MV → Sg → R MV) : Prop :=
  ∀ ⦃A : Around⦄ ⦃ρ : List Loc⦄ ⦃σ : Sg⦄ ⦃s : Shared⦄ ⦃args : List MV⦄ ⦃vs : List Value⦄ ⦃G : Result → Shared → Prop⦄, Rel C ρ σ s → Ax C k A ρ s.heap → VRels ρ s.heap args vs →
    (m args σ).Ok (QV C ρ s fun v s' => G (.ok (.ret v)) s') (QE C A ρ s fun e s' => G (.error e) s') → codeAny (model C.prog C.w) A (.call (.ref f) ⟨vs, []⟩) G s
end
section
section
variable {C : Wd} {A : Around} {ρ ρ₁ : List Loc} {s s₁ : Shared}
theorem QV.chain {Q : Value → Shared → Prop} {v : MV} {σ' : Sg} (h : QV C ρ s Q v σ') (st : Step [] ρ s.heap ρ₁ s₁.heap) : QV C ρ₁ s₁ Q v σ' := fun _ _ _ st' r v => h _ _ _ (st.trans st') r v
theorem QVs.chain {Q : List Value → Shared → Prop} {v : List MV} {σ' : Sg} (h : QVs C ρ s Q v σ') (st : Step [] ρ s.heap ρ₁ s₁.heap) : QVs C ρ₁ s₁ Q v σ' := fun _ _ _ st' r v => h _ _ _ (st.trans st') r v
theorem QB.chain {Q : Bool → Shared → Prop} {v : Bool} {σ' : Sg} (h : QB C ρ s Q v σ') (st : Step [] ρ s.heap ρ₁ s₁.heap) : QB C ρ₁ s₁ Q v σ' := fun _ _ st' r => h _ _ (st.trans st') r
theorem QE.chain {E : Value → Shared → Prop} {σ' : Sg} (h : QE C A ρ s E σ') (st : Step [] ρ s.heap ρ₁ s₁.heap) : QE C A ρ₁ s₁ E σ' := fun _ _ ep => h _ _ (ep.trans st)
theorem QEX.chain0 {env : Env} {E : Value → Shared → Prop} {σ' : Sg} (h : QEX C A env ρ s E σ') (st : Step (XaP env) ρ s.heap ρ₁ s₁.heap) : QEX C A env ρ₁ s₁ E σ' := fun _ _ ep => h _ _ (ep.trans st)
theorem QEX.to0 {env : Env} {E : Value → Shared → Prop} {σ' : Sg} (h : QEX C A env ρ s E σ') : QE C A ρ s E σ' := fun _ _ ep => h _ _ ep.w0
theorem QX.chain {k : Nat} {sc : Scope} {env : Env} {Q : Flow → Shared → Prop} {r : Fl × Fr} {σ' : Sg} (h : QX C k sc A env ρ s Q r σ') (st : Step (XaP env) ρ s.heap ρ₁ s₁.heap) : QX C k sc A env ρ₁ s₁ Q r σ' :=
  fun _ _ _ st' a f => h _ _ _ (st.trans st') a f
end
theorem WO {xs : List Addr} {ρ : List Loc} {h h' : Heap} (e : h' = h) : Step xs ρ h ρ h' := by subst e; exact Step.refl ..
noncomputable def Wa {α : Type} : Fr → Sg → R α := fun _ _ => .stuck
noncomputable def Xc (x : Sy) : EM := fun fr σ => match fr.lookup x with
  | some v => .ok v σ
  | none => .stuck
noncomputable def Xd (v : MV) : EM := fun _ σ => .ok v σ
theorem Sy.not_all : (Sy.list.all fun x => x.s != ("__debug__" : Str) && x.s != ("__classdict__" : Str)) = true := by decide +kernel
theorem Sy.notDebug (x : Sy) : (x.s == ("__debug__" : Str)) = false := by
  have := List.all_eq_true.mp Sy.not_all x x.mem_list
  simp only [Bool.and_eq_true, bne, Bool.not_eq_true'] at this
  exact this.1
theorem Sy.notClassdict (x : Sy) : (x.s == ("__classdict__" : Str)) = false := by
  have := List.all_eq_true.mp Sy.not_all x x.mem_list
  simp only [Bool.and_eq_true, bne, Bool.not_eq_true'] at this
  exact this.2
theorem Xo0 {C : Wd} {k : Nat} {sc : Scope} {e : Expr} : ES C k sc e Wa := fun _ _ _ _ _ _ _ _ _ h => h.elim
theorem Xoh {C : Wd} {k : Nat} {sc : Scope} {e : List Expr} : ESs C k sc e Wa := fun _ _ _ _ _ _ _ _ _ _ h => h.elim
theorem Xjh {C : Wd} {k : Nat} {sc : Scope} {e : Expr} : BS C k sc e Wa := fun _ _ _ _ _ _ _ _ _ h => h.elim
theorem Xci {C : Wd} {k : Nat} {sc : Scope} {e : Stmt} : XS C k sc e Wa := fun _ _ _ _ _ _ _ _ _ h => h.elim
theorem Xom {C : Wd} {k : Nat} {sc : Scope} {e : List Stmt} : XSs C k sc e Wa := fun _ _ _ _ _ _ _ _ _ h => h.elim
theorem Xa {C : Wd} {k : Nat} {sc : Scope} {x : Sy} {n : Str} {pos : Pos} (hn : n = x.s := by rfl) : ES C k sc (.Name n pos) (Xc x) := by
  intro A env fr ρ σ s Q E a h
  subst hn
  unfold Xc at h
  cases q : fr.lookup x with
  | none => rw [q] at h; exact h.elim
  | some v =>
    rw [q] at h
    refine @cps _ fun Γ γ => ?_
    obtain ⟨m, hn, hv⟩ := a.fr.ns
    obtain ⟨w, vr, alt⟩ := hv x v q
    refine γ ?_; clear γ Γ
    refine wpAny_Name ?_ x.notDebug
    have fin := h ρ s w (Step.refl ..) a.rel vr
    rcases alt with ⟨hk, hm⟩ | ⟨hk | hk, c, hc, hcell⟩
    · exact wpAny_loadName_local a.fr.kind hk hn hm fin
    · exact wpAny_loadName_cell a.fr.kind hk hc hcell fin
    · exact wpAny_loadName_free a.fr.kind hk hc hcell fin x.notClassdict
theorem Yc {C : Wd} {k : Nat} {sc : Scope} {x1 : Nat} {pos : Pos} : ES C k sc (.Constant .none x1 pos) (Xd .none) :=
  fun _ _ _ _ _ _ _ _ a h => wpAny_pure (h _ _ _ (Step.refl ..) a.rel (by simp [VRel]))
theorem Ue {C : Wd} {k : Nat} {sc : Scope} {b : Bool} {x1 : Nat} {pos : Pos} : ES C k sc (.Constant (.bool b) x1 pos) (Xd (.bool b)) :=
  fun _ _ _ _ _ _ _ _ a h => wpAny_pure (h _ _ _ (Step.refl ..) a.rel (by simp [VRel]))
theorem Xs {C : Wd} {k : Nat} {sc : Scope} {i : Int} {x1 : Nat} {pos : Pos} : ES C k sc (.Constant (.int i) x1 pos) (Xd (.int i)) :=
  fun _ _ _ _ _ _ _ _ a h => wpAny_Constant_int (h _ _ _ (WO rfl) (a.rel.toks _) (by simp only [VRel]; exact ⟨_, rfl⟩))
theorem XH {C : Wd} {k : Nat} {sc : Scope} {x : Sy} {n : Str} {x1 : Nat} {pos : Pos} (hn : n = x.s := by rfl) : ES C k sc (.Constant (.str n) x1 pos) (Xd (.str x)) := by
  subst hn
  exact fun _ _ _ _ _ _ _ _ a h => Calls.Constant_str (h _ _ _ (WO rfl) (a.rel.toks _) (by simp only [VRel]; exact ⟨_, rfl⟩))
theorem XdR {C : Wd} {M : Model} {A : Around} {E : Value → Shared → Prop} {Q : Value → Shared → Prop} {k : Nat} {sc : Scope} {env : Env} {fr : Fr} {ρ : List Loc} {σ : Sg} {s : Shared} {n : Str} {pos : Pos} {v : Value}
    (a : At C k sc A env fr ρ σ s) (hg : nsIn C.K mainGlobals n = some (some v)) (hs : sc.names.lookup n = some .globalImplicit) (hd : (n == ("__debug__" : Str)) = false) (h : Q v s) : wpAny M A (eval (.Name n pos) env) Q E s := by
  refine Calls.Name_function_global a.fr.kind (by rw [← a.sc] at hs; exact hs) (Calls.loadGlobal_global ?_ (mg_of C.X C.g hg) h) hd
  rw [a.fr.glob]; exact C.g.keeps a.rel.h.stays
theorem XhV {C : Wd} {M : Model} {A : Around} {E : Value → Shared → Prop} {Q : Value → Shared → Prop} {k : Nat} {sc : Scope} {env : Env} {fr : Fr} {ρ : List Loc} {σ : Sg} {s : Shared} {n : Str} {pos : Pos} {v : Value}
    (a : At C k sc A env fr ρ σ s) (hg : nsIn C.K mainGlobals n = some none) (hb : bootBuiltins n = some v) (hn : n ≠ "__name__") (hs : sc.names.lookup n = some .globalImplicit) (hd : (n == ("__debug__" : Str)) = false) (h : Q v s) :
    wpAny M A (eval (.Name n pos) env) Q E s := by
  refine Calls.Name_function_global a.fr.kind (by rw [← a.sc] at hs; exact hs) (Calls.loadGlobal_builtin (mg := C.mg) (mb := C.mb) ?_ (mg_none_of C.X C.g hg) ?_ ((C.bi n hn).trans hb) h) hd
  · rw [a.fr.glob]; exact C.g.keeps a.rel.h.stays
  · rw [a.fr.blt]; exact C.b.keeps a.rel.h.stays
noncomputable def TopIs (C : Wd) (v : Value) (m : MV) : Prop := ∀ ρ h, C.K.In h → VRel ρ h m v
theorem TopIs.str {C : Wd} {x : Sy} {n : Str} {t : Tok} (hn : n = x.s := by rfl) : TopIs C (.str n t) (.str x) := fun _ _ _ => by subst hn; simp only [VRel]; exact ⟨_, rfl⟩
theorem TopIs.tup1 {C : Wd} {x : Sy} {n : Str} {t : Tok} {a : Addr} {cl : Value} {d : Option Addr} {ep : Nat} {sl : Array (Option Value)} (ha : C.K.lookup a = some ⟨cl, d, .seq #[.str n t] ep, sl⟩) (hc : cl = .type "tuple" := by rfl) (hn : n = x.s := by rfl) :
    TopIs C (.ref a) (.tup [.str x]) := fun _ h X => by
  subst hn hc
  simp only [VRel, VRels]
  exact ⟨a, #[.str x.s t], rfl, ⟨_, X _ _ ha, rfl, ep, rfl⟩, _, [], rfl, ⟨_, rfl⟩, rfl⟩
theorem ZG {C : Wd} {k : Nat} {sc : Scope} {n : Str} {pos : Pos} {v : Value} {m : MV} (hg : nsIn C.K mainGlobals n = some (some v)) (ht : TopIs C v m) (hs : sc.names.lookup n = some .globalImplicit := by decide +kernel)
    (hd : (n == ("__debug__" : Str)) = false := by decide +kernel) : ES C k sc (.Name n pos) (Xd m) :=
  fun _ _ _ _ _ _ _ _ a h => XdR a hg hs hd (h _ _ _ (Step.refl ..) a.rel (ht _ _ fun b o e => a.rel.h.stays _ _ (C.X b o e)))
noncomputable abbrev OpM := MV → MV → Sg → R MV
noncomputable def YI (f : OpM) (a b : EM) : EM := fun fr σ => (a fr σ).bind fun x σ => (b fr σ).bind fun y σ => f x y σ
noncomputable def OpS (C : Wd) (op : Operator) (f : OpM) : Prop :=
  ∀ ⦃A : Around⦄ ⦃ρ : List Loc⦄ ⦃σ : Sg⦄ ⦃s : Shared⦄ ⦃Q : Value → Shared → Prop⦄ ⦃E : Value → Shared → Prop⦄ ⦃a b : MV⦄ ⦃x y : Value⦄, Rel C ρ σ s → Ax C 0 A ρ s.heap → VRel ρ s.heap a x → VRel ρ s.heap b y →
    (f a b σ).Ok (QV C ρ s Q) (QE C A ρ s E) → wpAny (model C.prog C.w) A (binaryOp op x y) Q E s
noncomputable def Xce (C : Wd) (op : CmpOp) (f : OpM) : Prop :=
  ∀ ⦃A : Around⦄ ⦃ρ : List Loc⦄ ⦃σ : Sg⦄ ⦃s : Shared⦄ ⦃Q : Value → Shared → Prop⦄ ⦃E : Value → Shared → Prop⦄ ⦃a b : MV⦄ ⦃x y : Value⦄, Rel C ρ σ s → Ax C 0 A ρ s.heap → VRel ρ s.heap a x → VRel ρ s.heap b y →
    (f a b σ).Ok (QV C ρ s Q) (QE C A ρ s E) → wpAny (model C.prog C.w) A (compareOp op x y) Q E s
theorem YL {C : Wd} {k : Nat} {sc : Scope} {l r : Expr} {op : Operator} {pos : Pos} {f : OpM} {ml mr : EM} (hf : OpS C op f) (hl : ES C k sc l ml) (hr : ES C k sc r mr) : ES C k sc (.BinOp l op r pos) (YI f ml mr) := by
  intro A env fr ρ σ s Q E a h
  unfold YI at h
  rw [R.Ok_bind] at h
  refine wpAny_BinOp (hl a (h.mono (fun v σ₁ h₁ ρ₁ s₁ w st r v => ?_) fun _ x => x))
  rw [R.Ok_bind] at h₁
  refine hr (a.next st r) (h₁.mono (fun v' σ₂ h₂ ρ₂ s₂ w' st₂ r₂ v' => ?_) fun _ x => QE.chain x st)
  exact hf r₂ ((a.ax.step (st.trans st₂)).le (Nat.zero_le _)) (v.step r.h st₂) v' (h₂.mono (fun _ _ z => QV.chain z (st.trans st₂)) fun _ z => QE.chain z (st.trans st₂))
theorem XaS {C : Wd} {k : Nat} {sc : Scope} {l r : Expr} {op : CmpOp} {pos : Pos} {f : OpM} {ml mr : EM} (hf : Xce C op f) (hl : ES C k sc l ml) (hr : ES C k sc r mr) (hm : behindInMarks op r = false := by with_unfolding_all rfl) :
    ES C k sc (.Compare l [op] [r] pos) (YI f ml mr) := by
  intro A env fr ρ σ s Q E a h
  unfold YI at h
  rw [R.Ok_bind] at h
  refine wpAny_Compare1 (hl a (h.mono (fun v σ₁ h₁ ρ₁ s₁ w st r v => ?_) fun _ x => x)) hm
  rw [R.Ok_bind] at h₁
  refine hr (a.next st r) (h₁.mono (fun v' σ₂ h₂ ρ₂ s₂ w' st₂ r₂ v' => ?_) fun _ x => QE.chain x st)
  exact hf r₂ ((a.ax.step (st.trans st₂)).le (Nat.zero_le _)) (v.step r.h st₂) v' (h₂.mono (fun _ _ z => QV.chain z (st.trans st₂)) fun _ z => QE.chain z (st.trans st₂))
noncomputable def WM (r : R MV) : R Bool := r.bind fun v σ => match v with
  | .bool b => .ok b σ
  | _ => .stuck
theorem Xah {r : R MV} {P : Bool → Sg → Prop} {X : Sg → Prop} (h : (WM r).Ok P X) : r.Ok (fun v σ => ∃ b, v = .bool b ∧ P b σ) X := by
  unfold WM at h
  rw [R.Ok_bind] at h
  refine h.mono (fun v σ z => ?_) fun _ x => x
  cases v <;> first | exact ⟨_, rfl, z⟩ | exact z.elim
noncomputable def XN (f : OpM) (a b : EM) : BM := fun fr σ => WM (YI f a b fr σ)
theorem Yb {C : Wd} {k : Nat} {sc : Scope} {l r : Expr} {op : CmpOp} {pos : Pos} {f : OpM} {ml mr : EM} (hf : Xce C op f) (hl : ES C k sc l ml) (hr : ES C k sc r mr) (hm : behindInMarks op r = false := by with_unfolding_all rfl) :
    BS C k sc (.Compare l [op] [r] pos) (XN f ml mr) := by
  intro A env fr ρ σ s Q E a h
  have h := Xah h
  unfold YI at h
  rw [R.Ok_bind] at h
  refine wpAny_isTrue_Compare1 (hl a (h.mono (fun v σ₁ h₁ ρ₁ s₁ w st r v => ?_) fun _ x => x)) hm
  rw [R.Ok_bind] at h₁
  refine hr (a.next st r) (h₁.mono (fun v' σ₂ h₂ ρ₂ s₂ w' st₂ r₂ v' => ?_) fun _ x => QE.chain x st)
  refine hf r₂ ((a.ax.step (st.trans st₂)).le (Nat.zero_le _)) (v.step r.h st₂) v' (h₂.mono (fun v σ₃ z ρ₃ s₃ w₃ st₃ r₃ v₃ => ?_) fun _ z => QE.chain z (st.trans st₂))
  obtain ⟨b, rfl, z⟩ := z
  simp only [VRel] at v₃
  subst v₃
  exact wpAny_truthy_bool (z _ _ ((st.trans st₂).trans st₃) r₃)
noncomputable def UI (m : EM) : BM := fun fr σ => WM (m fr σ)
theorem XaZ {C : Wd} {k : Nat} {sc : Scope} {e : Expr} {m : EM} (he : ES C k sc e m) (hi : ∀ env w, isTrue e env w = (do let v ← w; standAt e.pos; holding [v] (truthy v)) := by intro _ _; rfl) : BS C k sc e (UI m) := by
  intro A env fr ρ σ s Q E a h
  have h := Xah h
  rw [hi]
  refine wpAny_bind (he a (h.mono (fun v σ₁ h₁ ρ₁ s₁ w st r v => ?_) fun _ x => x))
  obtain ⟨b, rfl, z⟩ := h₁
  simp only [VRel] at v
  subst v
  exact wpAny_bind (wpAny_standAt (wpAny_holding (wpAny_truthy_bool (z _ _ st r))))
noncomputable def Xi8 (m : BM) : BM := fun fr σ => (m fr σ).bind fun b σ => .ok (!b) σ
theorem Xj8 {C : Wd} {k : Nat} {sc : Scope} {e : Expr} {pos : Pos} {m : BM} (he : BS C k sc e m) : BS C k sc (.UnaryOp .Not e pos) (Xi8 m) := by
  intro A env fr ρ σ s Q E a h
  unfold Xi8 at h
  rw [R.Ok_bind] at h
  exact wpAny_isTrue_Not (he a (h.mono (fun b σ₁ h₁ ρ₁ s₁ st r => h₁ _ _ st r) fun _ x => x))
noncomputable def UO (a b : BM) : BM := fun fr σ => (a fr σ).bind fun x σ => if x then b fr σ else .ok false σ
noncomputable def mOr (a b : BM) : BM := fun fr σ => (a fr σ).bind fun x σ => if x then .ok true σ else b fr σ
noncomputable def YU : BM := fun _ σ => .ok true σ
noncomputable def WQ : BM := fun _ σ => .ok false σ
noncomputable def ATS (C : Wd) (k : Nat) (sc : Scope) (op : BoolOp) (es : List Expr) (m : BM) : Prop :=
  ∀ ⦃A : Around⦄ ⦃env : Env⦄ ⦃fr : Fr⦄ ⦃ρ : List Loc⦄ ⦃σ : Sg⦄ ⦃s : Shared⦄ ⦃Q : Bool → Shared → Prop⦄ ⦃E : Value → Shared → Prop⦄, At C k sc A env fr ρ σ s →
    (m fr σ).Ok (QB C ρ s Q) (QE C A ρ s E) → wpAny (model C.prog C.w) A (allTrue op es env) Q E s
theorem Ub {C : Wd} {k : Nat} {sc : Scope} : ATS C k sc .And [] YU := fun _ _ _ _ _ _ _ _ a h => wpAny_pure (h _ _ (Step.refl ..) a.rel)
theorem XaA {C : Wd} {k : Nat} {sc : Scope} : ATS C k sc .Or [] WQ := fun _ _ _ _ _ _ _ _ a h => wpAny_pure (h _ _ (Step.refl ..) a.rel)
theorem ZJ {C : Wd} {k : Nat} {sc : Scope} {e : Expr} {es : List Expr} {m ms : BM} (he : BS C k sc e m) (hs : ATS C k sc .And es ms) : ATS C k sc .And (e :: es) (UO m ms) := by
  intro A env fr ρ σ s Q E a h
  unfold UO at h
  rw [R.Ok_bind] at h
  show wpAny _ _ (do match BoolOp.And, ← isTrue e env (eval e env) with | .And, false => pure false | .Or, true => pure true | _, _ => allTrue .And es env) _ _ _
  refine wpAny_bind (he a (h.mono (fun b σ₁ h₁ ρ₁ s₁ st r => ?_) fun _ x => x))
  cases b with
  | false => exact wpAny_pure (h₁ _ _ st r)
  | true => exact hs (a.next st r) (h₁.mono (fun _ _ z => QB.chain z st) fun _ z => QE.chain z st)
theorem XaD {C : Wd} {k : Nat} {sc : Scope} {e : Expr} {es : List Expr} {m ms : BM} (he : BS C k sc e m) (hs : ATS C k sc .Or es ms) : ATS C k sc .Or (e :: es) (mOr m ms) := by
  intro A env fr ρ σ s Q E a h
  unfold mOr at h
  rw [R.Ok_bind] at h
  show wpAny _ _ (do match BoolOp.Or, ← isTrue e env (eval e env) with | .And, false => pure false | .Or, true => pure true | _, _ => allTrue .Or es env) _ _ _
  refine wpAny_bind (he a (h.mono (fun b σ₁ h₁ ρ₁ s₁ st r => ?_) fun _ x => x))
  cases b with
  | true => exact wpAny_pure (h₁ _ _ st r)
  | false => exact hs (a.next st r) (h₁.mono (fun _ _ z => QB.chain z st) fun _ z => QE.chain z st)
theorem UN {C : Wd} {k : Nat} {sc : Scope} {op : BoolOp} {es : List Expr} {pos : Pos} {m : BM} (h : ATS C k sc op es m) : BS C k sc (.BoolOp op es pos) m := by
  intro A env fr ρ σ s Q E a q
  rw [arm_isTrue_BoolOp]
  exact h a q
noncomputable def BOS (C : Wd) (k : Nat) (sc : Scope) (op : BoolOp) (es : List Expr) (m : EM) : Prop :=
  ∀ ⦃A : Around⦄ ⦃env : Env⦄ ⦃fr : Fr⦄ ⦃ρ : List Loc⦄ ⦃σ : Sg⦄ ⦃s : Shared⦄ ⦃Q : Value → Shared → Prop⦄ ⦃E : Value → Shared → Prop⦄ (pos : Pos), At C k sc A env fr ρ σ s →
    (m fr σ).Ok (QV C ρ s Q) (QE C A ρ s E) → wpAny (model C.prog C.w) A (boolOp pos op (evalEach es env)) Q E s
theorem Xbb {C : Wd} {k : Nat} {sc : Scope} {op : BoolOp} {e : Expr} {m : EM} (h : ES C k sc e m) : BOS C k sc op [e] m := fun _ _ _ _ _ _ _ _ _ a q => h a q
noncomputable def Xcq (a : EM) (b : EM) : EM := fun fr σ => (WM (a fr σ)).bind fun x σ => if x then b fr σ else .ok (.bool false) σ
noncomputable def Xi4 (a : EM) (b : EM) : EM := fun fr σ => (WM (a fr σ)).bind fun x σ => if x then .ok (.bool true) σ else b fr σ
theorem Xdl {C : Wd} {k : Nat} {sc : Scope} {e e' : Expr} {es : List Expr} {m ms : EM} (he : ES C k sc e m) (hs : BOS C k sc .And (e' :: es) ms) : BOS C k sc .And (e :: e' :: es) (Xcq m ms) := by
  intro A env fr ρ σ s Q E pos a h
  unfold Xcq at h
  rw [R.Ok_bind] at h
  have h := Xah h
  show wpAny _ _ (do
    let v ← eval e env
    standAt pos
    let t ← holding [v] (truthy v)
    match BoolOp.And, t with
    | .And, false | .Or, true => pure v
    | _, _ => boolOp pos .And (evalEach (e' :: es) env)) _ _ _
  refine wpAny_bind (he a (h.mono (fun v σ₁ h₁ ρ₁ s₁ w st r v => ?_) fun _ x => x))
  obtain ⟨b, rfl, z⟩ := h₁
  simp only [VRel] at v
  subst v
  refine wpAny_bind (wpAny_standAt (wpAny_bind (wpAny_holding (wpAny_truthy_bool ?_))))
  cases b with
  | false => exact wpAny_pure (z _ _ _ st r (by simp [VRel]))
  | true => exact hs pos (a.next st r) (z.mono (fun _ _ z => QV.chain z st) fun _ z => QE.chain z st)
theorem Xhc {C : Wd} {k : Nat} {sc : Scope} {e e' : Expr} {es : List Expr} {m ms : EM} (he : ES C k sc e m) (hs : BOS C k sc .Or (e' :: es) ms) : BOS C k sc .Or (e :: e' :: es) (Xi4 m ms) := by
  intro A env fr ρ σ s Q E pos a h
  unfold Xi4 at h
  rw [R.Ok_bind] at h
  have h := Xah h
  show wpAny _ _ (do
    let v ← eval e env
    standAt pos
    let t ← holding [v] (truthy v)
    match BoolOp.Or, t with
    | .And, false | .Or, true => pure v
    | _, _ => boolOp pos .Or (evalEach (e' :: es) env)) _ _ _
  refine wpAny_bind (he a (h.mono (fun v σ₁ h₁ ρ₁ s₁ w st r v => ?_) fun _ x => x))
  obtain ⟨b, rfl, z⟩ := h₁
  simp only [VRel] at v
  subst v
  refine wpAny_bind (wpAny_standAt (wpAny_bind (wpAny_holding (wpAny_truthy_bool ?_))))
  cases b with
  | true => exact wpAny_pure (z _ _ _ st r (by simp [VRel]))
  | false => exact hs pos (a.next st r) (z.mono (fun _ _ z => QV.chain z st) fun _ z => QE.chain z st)
theorem WE {C : Wd} {k : Nat} {sc : Scope} {op : BoolOp} {es : List Expr} {pos : Pos} {m : EM} (h : BOS C k sc op es m) : ES C k sc (.BoolOp op es pos) m := by
  intro A env fr ρ σ s Q E a q
  rw [arm_eval_BoolOp]
  exact h pos a q
noncomputable def mIf (t : BM) (a b : EM) : EM := fun fr σ => (t fr σ).bind fun x σ => if x then a fr σ else b fr σ
theorem XcY {C : Wd} {k : Nat} {sc : Scope} {t a b : Expr} {pos : Pos} {mt : BM} {ma mb : EM} (ht : BS C k sc t mt) (ha : ES C k sc a ma) (hb : ES C k sc b mb) : ES C k sc (.IfExp t a b pos) (mIf mt ma mb) := by
  intro A env fr ρ σ s Q E at_ h
  unfold mIf at h
  rw [R.Ok_bind] at h
  refine wpAny_IfExp (ht at_ (h.mono (fun b σ₁ h₁ ρ₁ s₁ st r => ?_) fun _ x => x))
  cases b with
  | true => exact ha (at_.next st r) (h₁.mono (fun _ _ z => QV.chain z st) fun _ z => QE.chain z st)
  | false => exact hb (at_.next st r) (h₁.mono (fun _ _ z => QV.chain z st) fun _ z => QE.chain z st)
noncomputable def Xi : EMs := fun _ σ => .ok [] σ
noncomputable def Xe (a : EM) (b : EMs) : EMs := fun fr σ => (a fr σ).bind fun x σ => (b fr σ).bind fun y σ => .ok (x :: y) σ
theorem Xg {C : Wd} {k : Nat} {sc : Scope} : ESs C k sc [] Xi := fun _ _ _ _ _ _ _ _ _ a h => wpAny_pure (h _ _ _ (Step.refl ..) a.rel (by simp [VRels]))
theorem Xb {C : Wd} {k : Nat} {sc : Scope} {e : Expr} {es : List Expr} {m : EM} {ms : EMs} (he : ES C k sc e m) (hs : ESs C k sc es ms) (hq : ∀ env, starEach (e :: es) env = (false, eval e env) :: starEach es env := by intro _; rfl) :
    ESs C k sc (e :: es) (Xe m ms) := by
  intro A env fr ρ σ s Q E pos a h
  unfold Xe at h
  rw [R.Ok_bind] at h
  rw [hq]
  show wpAny _ _ (do
    let v ← eval e env
    let here ← pure [v]
    return here ++ (← holding here (spliced (backTo pos (starEach es env))))) _ _ _
  refine wpAny_bind (he a (h.mono (fun v σ₁ h₁ ρ₁ s₁ w st r v => ?_) fun _ x => x))
  rw [R.Ok_bind] at h₁
  refine wpAny_bind (wpAny_pure (wpAny_bind (wpAny_holding (hs pos (a.next st r) (h₁.mono (fun vs σ₂ h₂ ρ₂ s₂ ws st₂ r₂ vs => ?_) fun _ x => QE.chain x st)))))
  exact wpAny_pure (h₂ _ _ _ (st.trans st₂) r₂ (by
    show VRels ρ₂ s₂.heap (_ :: _) (w :: ws)
    simp only [VRels]
    exact ⟨w, ws, rfl, v.step r.h st₂, vs⟩))
noncomputable def VS {α : Type} (n : Nat) (r : R α) : R α := if n < 1000000 then r else .stuck
theorem WC {α : Type} {n : Nat} {r : R α} {P : α → Sg → Prop} {X : Sg → Prop} (h : (VS n r).Ok P X) : n < 1000000 ∧ r.Ok P X := by
  unfold VS at h
  split at h
  · exact ⟨by assumption, h⟩
  · exact h.elim
theorem UE : 1000000 ≤ sizeLine := by decide
noncomputable def Yw (m : EMs) : EM := fun fr σ => (m fr σ).bind fun l σ => VS l.length (.ok (.tup l) σ)
noncomputable def XO (m : EMs) : EM := fun fr σ => (m fr σ).bind fun l σ => VS l.length (.ok (.ref σ.length) (σ ++ [.list l]))
theorem Yo {C : Wd} {k : Nat} {sc : Scope} {es : List Expr} {x1 : Nat} {pos : Pos} {m : EMs} (h : ESs C k sc es m) : ES C k sc (.Tuple es x1 pos) (Yw m) := by
  intro A env fr ρ σ s Q E a q
  unfold Yw at q
  rw [R.Ok_bind] at q
  refine wpAny_Tuple_spliced (h pos a (q.mono (fun l σ₁ h₁ ρ₁ s₁ ws st r vs => ?_) fun _ x => x))
  obtain ⟨hl, h₁⟩ := WC h₁
  refine ⟨by rw [vs.length]; exact Nat.le_trans (Nat.le_of_lt hl) UE, ?_⟩
  refine h₁ ρ₁ _ _ (st.trans (Step.push ..)) (r.push _) ?_
  simp only [VRel]
  exact ⟨_, ws.toArray, rfl, IsTup.new _ _, by simpa using vs.step r.h (Step.push _ _)⟩
theorem Rel.newList {C : Wd} {ρ : List Loc} {σ : Sg} {s : Shared} {l : List MV} {ws : List Value} (r : Rel C ρ σ s) (vs : VRels ρ s.heap l ws) :
    Rel C (ρ ++ [(s.heap.objs.size, s.heap.objs.size)]) (σ ++ [.list l]) { s with heap := s.heap.push { cls := .type "list", data := .seq ws.toArray } } ∧
    Step [] ρ s.heap (ρ ++ [(s.heap.objs.size, s.heap.objs.size)]) (s.heap.push { cls := .type "list", data := .seq ws.toArray }) ∧
    (ρ ++ [(s.heap.objs.size, s.heap.objs.size)])[σ.length]? = some (s.heap.objs.size, s.heap.objs.size) := by
  have hp : ∀ a, Loc.has (s.heap.objs.size, s.heap.objs.size) a → s.heap.get? a = none := fun a ha => by
    have : a = s.heap.objs.size := ha.elim id id
    subst this; exact Heap.size_none _
  have hst : Step [] ρ s.heap (ρ ++ [(s.heap.objs.size, s.heap.objs.size)]) (s.heap.push { cls := .type "list", data := .seq ws.toArray }) := Step.grow1 (VZ _ _) hp
  refine ⟨⟨r.h.grow (VZ _ _) hp ⟨rfl, ws.toArray, ⟨0, Heap.get?_push_size _ rfl⟩, by simpa using vs.step r.h hst⟩, r.gens, r.os⟩, hst, ?_⟩
  rw [← r.h.len]; simp
theorem XL {C : Wd} {k : Nat} {sc : Scope} {es : List Expr} {pos : Pos} {m : EMs} (h : ESs C k sc es m) : ES C k sc (.List es pos) (XO m) := by
  intro A env fr ρ σ s Q E a q
  unfold XO at q
  rw [R.Ok_bind] at q
  refine wpAny_List_spliced (h pos a (q.mono (fun l σ₁ h₁ ρ₁ s₁ ws st r vs => ?_) fun _ x => x))
  obtain ⟨hl, h₁⟩ := WC h₁
  refine ⟨by rw [vs.length]; exact Nat.le_trans (Nat.le_of_lt hl) UE, ?_⟩
  obtain ⟨r', st', e⟩ := r.newList vs
  exact h₁ _ _ _ (st.trans st') r' (by simp only [VRel]; exact ⟨_, e, rfl⟩)
end
section
noncomputable def rI (i : Int) (σ : Sg) : R MV := .ok (.int i) σ
noncomputable def rB (b : Bool) (σ : Sg) : R MV := .ok (.bool b) σ
noncomputable def UJ : OpM := fun a b σ => match a, b with
  | .int x, .int y => rI (x + y) σ
  | .ref i, .ref j => match σ[i]?, σ[j]? with
    | some (.list l), some (.list l') => VS (l.length + l'.length) (.ok (.ref σ.length) (σ ++ [.list (l ++ l')]))
    | _, _ => .stuck
  | _, _ => .stuck
noncomputable def Xgu : OpM := fun a b σ => match a, b with
  | .int x, .int y => rI (x - y) σ
  | _, _ => .stuck
noncomputable def WG : OpM := fun a b σ => match a, b with
  | .int x, .int y => if y.natAbs < 2 ^ 64 then rI (x * y) σ else .stuck
  | .ref i, .int y => match σ[i]? with
    | some (.list l) => if 0 ≤ y ∧ y < 1000 then VS (l.length * 1000) (.ok (.ref σ.length) (σ ++ [.list (List.replicate y.toNat l).flatten])) else .stuck
    | _ => .stuck
  | _, _ => .stuck
noncomputable def XaT : OpM := fun a b σ => match a, b with
  | .int x, .int y => if 0 < y then rI (x % y) σ else .stuck
  | _, _ => .stuck
noncomputable def XjC : OpM := fun a b σ => match a, b with
  | .int x, .int y => if 0 < y ∧ y < 2 ^ 62 then rI (x / y) σ else .stuck
  | _, _ => .stuck
section
variable {C : Wd} {ρ : List Loc} {s : Shared} {σ : Sg}
theorem QV.here {Q : Value → Shared → Prop} {v : MV} {w : Value} {t : Nat} (h : QV C ρ s Q v σ) (r : Rel C ρ σ s) (v : VRel ρ s.heap v w) : Q w { s with toks := t } :=
  h ρ { s with toks := t } w (WO rfl) (r.toks t) v
theorem QV.int {Q : Value → Shared → Prop} {i : Int} {t u : Nat} (h : QV C ρ s Q (.int i) σ) (r : Rel C ρ σ s) : Q (.int i u) { s with toks := t } := h.here r (by simp only [VRel]; exact ⟨_, rfl⟩)
theorem QV.bool {Q : Value → Shared → Prop} {b : Bool} (h : QV C ρ s Q (.bool b) σ) (r : Rel C ρ σ s) : Q (.bool b) s := h ρ s _ (Step.refl ..) r (by simp [VRel])
end
theorem QV.list {C : Wd} {ρ : List Loc} {σ : Sg} {s : Shared} {Q : Value → Shared → Prop} {l : List MV} {ws : List Value} {h' : Heap} {tk : Nat} (h : QV C ρ s Q (.ref σ.length) (σ ++ [.list l])) (r : Rel C ρ σ s) (vs : VRels ρ s.heap l ws) {items : Array Value}
    (e : items.toList = ws) (hh : h' = s.heap.push { cls := .type "list", data := .seq items }) : Q (.ref s.heap.objs.size) { s with heap := h', toks := tk } := by
  subst hh
  obtain ⟨r', st', q⟩ := r.newList vs
  have ei : items = ws.toArray := by rw [← e]
  subst ei
  exact h _ _ _ st' ⟨r'.h, r'.gens, r'.os⟩ (by simp only [VRel]; exact ⟨_, q, rfl⟩)
theorem RelH.list {C : Wd} {ρ : List Loc} {σ : Sg} {h : Heap} {i : Nat} {l : List MV} (r : RelH C ρ σ h) (e : σ[i]? = some (.list l)) {w : Value} (v : VRel ρ h (.ref i) w) :
    ∃ a vs, w = .ref a ∧ ρ[i]? = some (a, a) ∧ ListAt h a vs ∧ VRels ρ h l vs.toList := by
  simp only [VRel] at v
  refine @cps _ fun Γ γ => ?_
  obtain ⟨p, hp, rfl⟩ := v
  obtain ⟨e2, vs, hl, hv⟩ := r.objs i p _ hp e
  refine γ ?_; clear γ Γ
  exact ⟨p.1, vs, rfl, by rw [hp]; obtain ⟨a, d⟩ := p; simp at e2; simp [e2], hl, hv⟩
theorem Xg1 {prog : Program} {w : World} {A : Around} {E : Value → Shared → Prop} {s : Shared} {l b : Addr} {xs ys : Array Value} {Q : Value → Shared → Prop} (hl : s.heap.IsList l xs) (hb : s.heap.IsList b ys)
    (h : Q (.ref s.heap.objs.size) { s with heap := s.heap.push { cls := .type "list", data := .seq (xs ++ ys) } }) (hsz : xs.size + ys.size ≤ sizeLine) :
    wpAny (model prog w) A (binaryOp .Add (.ref l) (.ref b)) Q E s := by
  refine @cps _ fun Γ γ => ?_
  obtain ⟨⟨cls, dd, data, sl⟩, ho, hc, n, hd⟩ := id hl
  obtain ⟨⟨cls2, dd2, data2, sl2⟩, ho2, hc2, n2, hd2⟩ := id hb
  refine γ ?_; clear γ Γ
  simp only at hc hd hc2 hd2
  subst hc hd hc2 hd2
  exact concat_meets ⟨_, ho, rfl⟩ ⟨_, ho2, rfl⟩ noFill_list_add seq_list_add PySem.F.slot_list_add PySem.F.entry_list_add (PySem.F.args_list_add_2 _ _) (list_addW l b xs ys n n2 dd dd2 sl sl2 hsz) ⟨ho, ho2, h⟩
theorem Vr {α : Type} {c : Prop} [Decidable c] {x : R α} {P : α → Sg → Prop} {X : Sg → Prop} (h : (if c then x else .stuck).Ok P X) : c ∧ x.Ok P X := by
  by_cases hc : c
  · rw [if_pos hc] at h; exact ⟨hc, h⟩
  · rw [if_neg hc] at h; exact h.elim
theorem XcZ {ρ : List Loc} {hp : Heap} {f : Int → Int → R MV} {a b : MV} {x y : Value} {P : MV → Sg → Prop} {X : Sg → Prop} (va : VRel ρ hp a x) (vb : VRel ρ hp b y) (h : (match (generalizing := false) a, b with
    | .int x, .int y => f x y
    | _, _ => .stuck : R MV).Ok P X) : ∃ i j t u, x = .int i t ∧ y = .int j u ∧ (f i j).Ok P X := by
  cases a with
  | int i =>
    cases b with
    | int j =>
      simp only [VRel] at va vb
      obtain ⟨t, e1⟩ := va
      obtain ⟨u, e2⟩ := vb
      exact ⟨i, j, t, u, e1, e2, h⟩
    | _ => exact h.elim
  | _ => exact h.elim
theorem Xc1 {α : Type} {o : Option MO} {f : List MV → R α} {P : α → Sg → Prop} {X : Sg → Prop} (h : (match (generalizing := false) o with
    | some (.list l) => f l
    | _ => .stuck : R α).Ok P X) : ∃ l, o = some (.list l) ∧ (f l).Ok P X := by
  cases o with
  | none => exact h.elim
  | some o =>
    cases o with
    | list l => exact ⟨l, rfl, h⟩
    | _ => exact h.elim
theorem Up {C : Wd} : OpS C .Add UJ := by
  intro A ρ σ s Q E a b x y r ax va vb h
  cases a with
  | int i =>
    cases b with
    | int j =>
      simp only [VRel] at va vb
      obtain ⟨t, rfl⟩ := va
      obtain ⟨u, rfl⟩ := vb
      exact P.add_int (QV.int h r)
    | _ => exact h.elim
  | ref i =>
    cases b with
    | ref j =>
      unfold UJ at h
      dsimp only at h
      cases q1 : σ[i]? with
      | none => rw [q1] at h; exact h.elim
      | some o1 =>
        rw [q1] at h
        cases o1 with
        | list l =>
          cases q2 : σ[j]? with
          | none => rw [q2] at h; exact h.elim
          | some o2 =>
            rw [q2] at h
            cases o2 with
            | list l' =>
              refine @cps _ fun Γ γ => ?_
              obtain ⟨hn, h⟩ := WC h
              obtain ⟨a1, xs, rfl, p1, l1, v1⟩ := r.h.list q1 va
              obtain ⟨a2, ys, rfl, p2, l2, v2⟩ := r.h.list q2 vb
              refine γ ?_; clear γ Γ
              have e1 := v1.length
              have e2 := v2.length
              refine Xg1 l1.isList l2.isList (QV.list (tk := s.toks) h r (v1.append v2) (by simp) rfl) ?_
              simp only [Array.length_toList] at e1 e2
              rw [e1, e2]
              exact Nat.le_trans (Nat.le_of_lt hn) UE
            | _ => exact h.elim
        | _ => exact h.elim
    | _ => exact h.elim
  | _ => exact h.elim
theorem XeQ {C : Wd} : OpS C .Sub Xgu := by
  intro A ρ σ s Q E a b x y r ax va vb h
  refine @cps _ fun Γ γ => ?_
  obtain ⟨i, j, t, u, rfl, rfl, h⟩ := XcZ (f := fun x y => rI (x - y) σ) va vb h
  refine γ ?_; clear γ Γ
  exact P.sub_int (QV.int h r)
theorem Xlw {y : Int} (h : y.natAbs < 2 ^ 64) : Builtin.Int.intBits y ≤ 64 := by
  unfold Builtin.Int.intBits
  split
  · lia
  · rename_i hz
    have : y.natAbs ≠ 0 := by simpa using hz
    have := (Nat.log2_lt this).mpr h
    lia
theorem Xox {prog : Program} {w : World} {A : Around} {E : Value → Shared → Prop} {s : Shared} {l : Addr} {vs : Array Value} {x : Int} {u : Tok} {Q : Value → Shared → Prop} (hl : s.heap.IsList l vs)
    (hlo : -(2 ^ 63 : Int) ≤ x) (hhi : x < 2 ^ 63) (hsz : vs.size * x.toNat ≤ 2 ^ 24)
    (h : ∀ items : Array Value, items.toList = (List.replicate x.toNat vs.toList).flatten → Q (.ref s.heap.objs.size) { s with heap := s.heap.push { cls := .type "list", data := .seq items } }) :
    wpAny (model prog w) A (binaryOp .Mult (.ref l) (.int x u)) Q E s := by
  refine @cps _ fun Γ γ => ?_
  obtain ⟨⟨cls, d, data, sl⟩, ho, hcl, k, hd⟩ := id hl
  refine γ ?_; clear γ Γ
  simp only at hcl hd
  subst hcl hd
  refine wpAny_binaryOp_repeat_ref (T := "list") (U := "int") (by decide) ⟨_, ho, rfl⟩ (fun s' => typeIs_int s' x u) noFill_list_mul F.fills_int_mul F.slot_int_rmul repeat_list F.slot_int_index.lookup
    (call_meets F.slot_int_rmul (typeIs_int s x u) F.entry_int_rmul (F.args_int_rmul_2 _ _) (lm_int_rmul_list_any x u l vs k d sl)
      ⟨ho, rfl, ⟨_, ho, rfl⟩, call_meets F.slot_list_mul ⟨_, ho, rfl⟩ F.entry_list_mul (F.args_list_mul_2 _ _)
        (lm_list_mul_any l vs k d sl x u (by simp [Builtin.List.listFitsIndex]; lia) (by lia) (by simp [Builtin.List.listTooLong, sizeLine]; lia))
        ⟨ho, ?_⟩⟩)
  exact h _ (by rw [listMul_foldl_if])
theorem VRels.rep {ρ : List Loc} {h : Heap} {l : List MV} {vs : List Value} (v : VRels ρ h l vs) : ∀ n : Nat, VRels ρ h (List.replicate n l).flatten (List.replicate n vs).flatten
  | 0 => by simp [VRels]
  | n + 1 => by simpa [List.replicate_succ] using v.append (v.rep n)
theorem Wb {C : Wd} : OpS C .Mult WG := by
  intro A ρ σ s Q E a b x y r ax va vb h
  cases a with
  | int i =>
    cases b with
    | int j =>
      simp only [VRel] at va vb
      refine @cps _ fun Γ γ => ?_
      obtain ⟨t, rfl⟩ := va
      obtain ⟨u, rfl⟩ := vb
      obtain ⟨hy, h⟩ := Vr (x := rI (i * j) σ) h
      refine γ ?_; clear γ Γ
      exact P.mul_int (QV.int h r) (IntMulOk.of_right (Xlw hy))
    | _ => exact h.elim
  | ref i =>
    cases b with
    | int y =>
      refine @cps _ fun Γ γ => ?_
      obtain ⟨l, q, h⟩ := Xc1 (o := σ[i]?) (f := fun l => if 0 ≤ y ∧ y < 1000 then VS (l.length * 1000) (R.ok (MV.ref σ.length) (σ ++ [MO.list (List.replicate y.toNat l).flatten])) else R.stuck) (show _ from h)
      obtain ⟨hy, h⟩ := Vr h
      obtain ⟨hn, h⟩ := WC h
      obtain ⟨a1, xs, rfl, p1, l1, v1⟩ := r.h.list q va
      refine γ ?_; clear γ Γ
      simp only [VRel] at vb
      obtain ⟨u, rfl⟩ := vb
      have e1 := v1.length
      simp only [Array.length_toList] at e1
      refine Xox l1.isList (by lia) (by lia) ?_ fun items e => QV.list (tk := s.toks) h r (v1.rep _) e rfl
      have := Nat.mul_le_mul_left (Array.size xs) (Int.toNat_le.mpr (Int.le_of_lt hy.2) : y.toNat ≤ 1000)
      rw [← e1] at hn
      exact Nat.le_trans this (Nat.le_of_lt (Nat.lt_trans hn (by decide)))
    | _ => exact h.elim
  | _ => exact h.elim
theorem WU {C : Wd} : OpS C .Mod XaT := by
  intro A ρ σ s Q E a b x y r ax va vb h
  refine @cps _ fun Γ γ => ?_
  obtain ⟨i, j, t, u, rfl, rfl, h⟩ := XcZ (f := fun x y => if 0 < y then rI (x % y) σ else .stuck) va vb h
  obtain ⟨hy, h⟩ := Vr h
  refine γ ?_; clear γ Γ
  refine AutoIntOps.mod_1 (by simp; lia) ?_
  rw [Int.fmod_eq_emod_of_nonneg _ (by lia)]
  exact QV.int h r
theorem XjR {x y : Int} (h1 : 0 < y) (h2 : y < 2 ^ 62) : ¬ Builtin.divisionGoesByPylong x y = true := by
  unfold Builtin.divisionGoesByPylong
  have hz : (y == 0) = false := by simp; lia
  have h : y.natAbs.log2 < 62 := (Nat.log2_lt (XmY h1)).mpr (Xj4 (Int.le_of_lt h1) h2)
  simp only [hz]
  simp
  intro h3
  lia
theorem Xig {C : Wd} : OpS C .FloorDiv XjC := by
  intro A ρ σ s Q E a b x y r ax va vb h
  refine @cps _ fun Γ γ => ?_
  obtain ⟨i, j, t, u, rfl, rfl, h⟩ := XcZ (f := fun x y => if 0 < y ∧ y < 2 ^ 62 then rI (x / y) σ else .stuck) va vb h
  obtain ⟨hy, h⟩ := Vr h
  refine γ ?_; clear γ Γ
  refine AutoIntOps.floordiv_1 (by simp; lia) (XjR hy.1 hy.2) ?_
  rw [Int.fdiv_eq_ediv_of_nonneg _ (by lia)]
  exact QV.int h r
noncomputable def lsO : Option MO → Option (List MV)
  | some (.list l) => some l
  | _ => none
theorem Xf3 {o : Option MO} {l : List MV} (h : lsO o = some l) : o = some (.list l) := by
  cases o with
  | none => cases h
  | some o =>
    cases o with
    | list l' => cases h; rfl
    | _ => cases h
noncomputable def MV.ls (σ : Sg) : MV → Option (List MV)
  | .ref i => lsO σ[i]?
  | _ => Option.none
theorem MV.ls_some {σ : Sg} {v : MV} {l : List MV} (h : v.ls σ = some l) : ∃ i, v = .ref i ∧ σ[i]? = some (.list l) := by
  cases v with
  | ref i => exact ⟨i, rfl, Xf3 h⟩
  | _ => cases h
noncomputable def Xcd (f : MV → Option PyData) : List MV → Option (List PyData)
  | [] => some []
  | v :: vs => (f v).bind fun d => (Xcd f vs).map (d :: ·)
theorem Xb8 {f : MV → Option PyData} {v : MV} {vs : List MV} : Xcd f (v :: vs) = (f v).bind fun d => (Xcd f vs).map (d :: ·) := rfl
theorem Xl2 {f : MV → Option PyData} : Xcd f [] = some [] := rfl
noncomputable def Xjz (σ : Sg) (g : List MV → Option (List PyData)) : MV → Option PyData
  | .none => some .none
  | .bool b => some (.bool b)
  | .int i => some (.int i)
  | .str x => some (.str x.s)
  | .arg _ => none
  | .tup l => (g l).map .tuple
  | .ref i => ((MV.ref i).ls σ).bind fun l => (g l).map .list
noncomputable def VK (σ : Sg) : Nat → MV → Option PyData
  | 0 => Xjz σ fun _ => none
  | n + 1 => Xjz σ (Xcd (VK σ n))
theorem Xa2 {σ : Sg} {n i : Nat} {l : List MV} (h : σ[i]? = some (.list l)) : VK σ (n + 1) (.ref i) = (Xcd (VK σ n) l).map .list := by
  show (lsO σ[i]?).bind _ = _
  rw [h]; rfl
theorem XkE {σ : Sg} {n : Nat} {l : List MV} : VK σ (n + 1) (.tup l) = (Xcd (VK σ n) l).map .tuple := rfl
theorem XoS {σ : Sg} {n : Nat} {i : Int} : VK σ (n + 1) (.int i) = some (.int i) := rfl
theorem Xjm {σ : Sg} {n : Nat} {x : Sy} : VK σ (n + 1) (.str x) = some (.str x.s) := rfl
theorem Xoi {σ : Sg} {n : Nat} {b : Bool} : VK σ (n + 1) (.bool b) = some (.bool b) := rfl
theorem Xol {σ : Sg} {n : Nat} : VK σ (n + 1) .none = some .none := rfl
theorem Sy.strOk_all : (Sy.list.all fun x => PyData.canLay0 (.str x.s)) = true := by decide +kernel
theorem Sy.strOk (x : Sy) : PyData.canLay0 (.str x.s) = true := List.all_eq_true.mp Sy.strOk_all x x.mem_list
theorem XjV {ρ : List Loc} {h : Heap} {f : MV → Option PyData} {n : Nat}
    (hf : ∀ v w d, VRel ρ h v w → f v = some d → (∃ as, Reads h w d as) ∧ d.canLay0 = true ∧ d.depth ≤ n) (l : List MV) : ∀ (vs : List Value) (ds : List PyData), VRels ρ h l vs → Xcd f l = some ds →
      (∃ as, ReadsAll h vs ds as) ∧ PyData.canLayAll0 ds = true ∧ PyData.depthAll ds ≤ n := by
  induction l with
  | nil =>
    intro vs ds v e
    simp only [VRels] at v
    cases e
    subst v
    exact ⟨⟨_, .nil⟩, rfl, Nat.zero_le _⟩
  | cons m ms ih =>
    intro vs ds v e
    simp only [VRels] at v
    refine @cps _ fun Γ γ => ?_
    obtain ⟨w, ws, rfl, a, b⟩ := v
    obtain ⟨d, e1, e⟩ := Option.bind_eq_some_iff.mp e
    obtain ⟨ds', e2, rfl⟩ := Option.map_eq_some_iff.mp e
    obtain ⟨⟨as, ra⟩, ca, da⟩ := hf m w d a e1
    obtain ⟨⟨bs, rb⟩, cb, db⟩ := ih ws ds' b e2
    refine γ ?_; clear γ Γ
    exact ⟨⟨_, .cons ra rb⟩, by simp [PyData.canLayAll0, ca, cb], by simp only [PyData.depthAll]; exact Nat.max_le.mpr ⟨da, db⟩⟩
theorem XgL {C : Wd} {ρ : List Loc} {σ : Sg} {h : Heap} (r : RelH C ρ σ h) {n : Nat} {g : List MV → Option (List PyData)}
    (hg : ∀ (l : List MV) (vs : List Value) (ds : List PyData), VRels ρ h l vs → g l = some ds → (∃ as, ReadsAll h vs ds as) ∧ PyData.canLayAll0 ds = true ∧ PyData.depthAll ds + 1 ≤ n) (v : MV) (w : Value) (d : PyData) (vr : VRel ρ h v w) (e : Xjz σ g v = some d) : (∃ as, Reads h w d as) ∧ d.canLay0 = true ∧ d.depth ≤ n := by
  cases v with
  | none => simp only [VRel] at vr; cases e; subst vr; exact ⟨⟨_, .none⟩, rfl, Nat.zero_le _⟩
  | bool b => simp only [VRel] at vr; cases e; subst vr; exact ⟨⟨_, .bool b⟩, rfl, Nat.zero_le _⟩
  | int i => simp only [VRel] at vr; cases e; obtain ⟨t, rfl⟩ := vr; exact ⟨⟨_, .int i t⟩, rfl, Nat.zero_le _⟩
  | str b => simp only [VRel] at vr; cases e; obtain ⟨t, rfl⟩ := vr; exact ⟨⟨_, .str b.s t⟩, b.strOk, Nat.zero_le _⟩
  | arg l => cases e
  | tup l =>
    simp only [VRel] at vr
    refine @cps _ fun Γ γ => ?_
    obtain ⟨a, vs, rfl, ⟨o, q, c, m, hd⟩, vv⟩ := vr
    obtain ⟨ds, e2, rfl⟩ := Option.map_eq_some_iff.mp e
    obtain ⟨⟨as, ra⟩, ca, da⟩ := hg l _ ds vv e2
    refine γ ?_; clear γ Γ
    exact ⟨⟨_, .tuple q c hd ra⟩, ca, by simp only [PyData.depth]; lia⟩
  | ref i =>
    refine @cps _ fun Γ γ => ?_
    obtain ⟨l, e1, e⟩ := Option.bind_eq_some_iff.mp e
    obtain ⟨a, vs, rfl, _, ⟨m, q⟩, vv⟩ := r.list (Xf3 e1) vr
    obtain ⟨ds, e2, rfl⟩ := Option.map_eq_some_iff.mp e
    obtain ⟨⟨as, ra⟩, ca, da⟩ := hg l _ ds vv e2
    refine γ ?_; clear γ Γ
    exact ⟨⟨_, .list q rfl rfl ra⟩, ca, by simp only [PyData.depth]; lia⟩
theorem Xil {C : Wd} {ρ : List Loc} {σ : Sg} {h : Heap} (r : RelH C ρ σ h) (n : Nat) : ∀ (v : MV) (w : Value) (d : PyData), VRel ρ h v w → VK σ n v = some d → (∃ as, Reads h w d as) ∧ d.canLay0 = true ∧ d.depth ≤ n := by
  induction n with
  | zero => exact XgL r fun l vs ds v e => by cases e
  | succ n ih => exact XgL r fun l vs ds v e => (XjV ih l vs ds v e).imp id fun q => q.imp id Nat.succ_le_succ
noncomputable def XdV (σ : Sg) (a b : MV) : Option Bool := (VK σ 8 a).bind fun x => (VK σ 8 b).map (PyData.eqv x)
noncomputable def Xc4 (σ : Sg) (a b : MV) : Option Bool := match a with
  | .int x => match b with
    | .int y => some (x == y)
    | b => XdV σ (.int x) b
  | .str x => match b with
    | .str y => some (x.eqb y)
    | b => XdV σ (.str x) b
  | a => XdV σ a b
noncomputable def XdA (σ : Sg) (a b : MV) : Bool := ((a.ls σ).bind fun l => (b.ls σ).map (l.length != ·.length)).getD false
noncomputable def oEq : OpM := fun a b σ => if XdA σ a b then rB false σ else match Xc4 σ a b with
  | some t => rB t σ
  | none => .stuck
noncomputable def oNe : OpM := fun a b σ => if XdA σ a b then rB true σ else match Xc4 σ a b with
  | some t => rB (!t) σ
  | none => .stuck
theorem Xf8 {C : Wd} {ρ : List Loc} {σ : Sg} {h : Heap} (r : RelH C ρ σ h) {a b : MV} {x y : Value} (va : VRel ρ h a x) (vb : VRel ρ h b y) (e : XdA σ a b = true) :
    ∃ a1 a2 xs ys, x = .ref a1 ∧ y = .ref a2 ∧ h.IsList a1 xs ∧ h.IsList a2 ys ∧ (xs.size != ys.size) = true := by
  unfold XdA at e
  cases h1 : a.ls σ with
  | none => rw [h1] at e; cases e
  | some l =>
    rw [h1] at e
    cases h2 : b.ls σ with
    | none => rw [h2] at e; cases e
    | some l' =>
      rw [h2] at e
      refine @cps _ fun Γ γ => ?_
      obtain ⟨i, rfl, q1⟩ := MV.ls_some h1
      obtain ⟨j, rfl, q2⟩ := MV.ls_some h2
      obtain ⟨a1, xs, rfl, _, l1, v1⟩ := r.list q1 va
      obtain ⟨a2, ys, rfl, _, l2, v2⟩ := r.list q2 vb
      refine γ ?_; clear γ Γ
      refine ⟨a1, a2, xs, ys, rfl, rfl, l1.isList, l2.isList, ?_⟩
      have e1 := v1.length
      have e2 := v2.length
      simp only [Array.length_toList] at e1 e2
      rw [e1, e2]; exact e
theorem Sy.eqv (x y : Sy) : PyData.eqv (.str x.s) (.str y.s) = x.eqb y := by
  rw [Sy.eqb_eq]
  simp only [PyData.eqv]
  by_cases h : x = y
  · subst h; simp
  · have : x.s ≠ y.s := fun e => h (Sy.inj e)
    simp [h, this]
theorem mvEq_G {σ : Sg} {a b : MV} : Xc4 σ a b = XdV σ a b := by
  cases a with
  | int x =>
    cases b with
    | int y => show some _ = some _; simp [PyData.eqv]
    | _ => rfl
  | str x =>
    cases b with
    | str y => exact congrArg some (Sy.eqv x y).symm
    | _ => rfl
  | _ => rfl
theorem Xft {C : Wd} {ρ : List Loc} {σ : Sg} {h : Heap} (r : RelH C ρ σ h) {a b : MV} {x y : Value} {t : Bool} (va : VRel ρ h a x) (vb : VRel ρ h b y) (e : Xc4 σ a b = some t) :
    ∃ da db as bs, Reads h x da as ∧ Reads h y db bs ∧ da.canLay0 = true ∧ db.canLay0 = true ∧ da.depth ≤ 8 ∧ PyData.eqv da db = t := by
  refine @cps _ fun Γ γ => ?_
  obtain ⟨d1, e1, e⟩ := Option.bind_eq_some_iff.mp (mvEq_G.symm.trans e)
  obtain ⟨d2, e2, e3⟩ := Option.map_eq_some_iff.mp e
  obtain ⟨⟨as, ra⟩, ca, da⟩ := Xil r 8 _ _ _ va e1
  obtain ⟨⟨bs, rb⟩, cb, db⟩ := Xil r 8 _ _ _ vb e2
  refine γ ?_; clear γ Γ
  exact ⟨_, _, _, _, ra, rb, ca, cb, da, e3⟩
theorem YW {C : Wd} : Xce C .Eq oEq := by
  intro A ρ σ s Q E a b x y r ax va vb h
  unfold oEq at h
  split at h
  · rename_i e
    refine @cps _ fun Γ γ => ?_
    obtain ⟨a1, a2, xs, ys, rfl, rfl, l1, l2, hne⟩ := Xf8 r.h va vb e
    refine γ ?_; clear γ Γ
    exact SeqAt.RcAt.lists_lengths l1 l2 hne (by have := ax.units; lia) C.prog C.w E Q (QV.bool h r)
  split at h
  · rename_i t e
    refine @cps _ fun Γ γ => ?_
    obtain ⟨da, db, as, bs, ra, rb, ca, cb, dd, rfl⟩ := Xft r.h va vb e
    refine γ ?_; clear γ Γ
    exact SeqAt.compareEq_reads ra rb ca cb (Xh9 ax.units dd) (QV.bool h r)
  · exact h.elim
theorem VE {C : Wd} : Xce C .NotEq oNe := by
  intro A ρ σ s Q E a b x y r ax va vb h
  unfold oNe at h
  split at h
  · rename_i e
    refine @cps _ fun Γ γ => ?_
    obtain ⟨a1, a2, xs, ys, rfl, rfl, l1, l2, hne⟩ := Xf8 r.h va vb e
    refine γ ?_; clear γ Γ
    exact SeqAt.RcNeAt.lists_lengths l1 l2 hne (by have := ax.units; lia) C.prog C.w E Q (QV.bool h r)
  split at h
  · rename_i t e
    refine @cps _ fun Γ γ => ?_
    obtain ⟨da, db, as, bs, ra, rb, ca, cb, dd, rfl⟩ := Xft r.h va vb e
    refine γ ?_; clear γ Γ
    exact SeqAt.compareNe_reads ra rb ca cb (Xh9 ax.units dd) (QV.bool h r)
  · exact h.elim
noncomputable def oLt : OpM := fun a b σ => match a, b with
  | .int x, .int y => rB (decide (x < y)) σ
  | _, _ => .stuck
noncomputable def oLe : OpM := fun a b σ => match a, b with
  | .int x, .int y => rB (decide (x ≤ y)) σ
  | _, _ => .stuck
noncomputable def oGt : OpM := fun a b σ => match a, b with
  | .int x, .int y => rB (decide (x > y)) σ
  | _, _ => .stuck
noncomputable def oGe : OpM := fun a b σ => match a, b with
  | .int x, .int y => rB (decide (x ≥ y)) σ
  | _, _ => .stuck
theorem We {C : Wd} : Xce C .Lt oLt := by
  intro A ρ σ s Q E a b x y r ax va vb h
  refine @cps _ fun Γ γ => ?_
  obtain ⟨i, j, t, u, rfl, rfl, h⟩ := XcZ (f := fun x y => rB (decide (x < y)) σ) va vb h
  refine γ ?_; clear γ Γ
  exact P.lt_int (QV.bool h r)
theorem Xh4 {C : Wd} : Xce C .LtE oLe := by
  intro A ρ σ s Q E a b x y r ax va vb h
  refine @cps _ fun Γ γ => ?_
  obtain ⟨i, j, t, u, rfl, rfl, h⟩ := XcZ (f := fun x y => rB (decide (x ≤ y)) σ) va vb h
  refine γ ?_; clear γ Γ
  exact P.le_int (QV.bool h r)
theorem XfX {C : Wd} : Xce C .Gt oGt := by
  intro A ρ σ s Q E a b x y r ax va vb h
  refine @cps _ fun Γ γ => ?_
  obtain ⟨i, j, t, u, rfl, rfl, h⟩ := XcZ (f := fun x y => rB (decide (x > y)) σ) va vb h
  refine γ ?_; clear γ Γ
  exact P.gt_int (QV.bool h r)
theorem XlI {C : Wd} : Xce C .GtE oGe := by
  intro A ρ σ s Q E a b x y r ax va vb h
  refine @cps _ fun Γ γ => ?_
  obtain ⟨i, j, t, u, rfl, rfl, h⟩ := XcZ (f := fun x y => rB (decide (x ≥ y)) σ) va vb h
  refine γ ?_; clear γ Γ
  exact P.ge_int (QV.bool h r)
noncomputable def isNone : MV → Bool
  | .none => true
  | _ => false
noncomputable def oIs : OpM := fun a b σ => match b with
  | .none => rB (isNone a) σ
  | _ => .stuck
noncomputable def Uz : OpM := fun a b σ => match b with
  | .none => rB (!isNone a) σ
  | _ => .stuck
theorem Xeq {ρ : List Loc} {h : Heap} {a : MV} {x : Value} (v : VRel ρ h a x) : plainIs x .none = true ∧ (x == .none) = isNone a := by
  cases a with
  | none => simp only [VRel] at v; subst v; exact ⟨rfl, rfl⟩
  | bool => simp only [VRel] at v; subst v; exact ⟨rfl, rfl⟩
  | int => simp only [VRel] at v; obtain ⟨_, rfl⟩ := v; exact ⟨rfl, rfl⟩
  | str => simp only [VRel] at v; obtain ⟨_, rfl⟩ := v; exact ⟨rfl, rfl⟩
  | tup => simp only [VRel] at v; obtain ⟨_, _, rfl, _⟩ := v; exact ⟨rfl, rfl⟩
  | ref => simp only [VRel] at v; obtain ⟨_, _, rfl⟩ := v; exact ⟨rfl, rfl⟩
  | arg => simp only [VRel] at v; obtain ⟨_, _, rfl, _⟩ := v; exact ⟨rfl, rfl⟩
theorem XaB {C : Wd} : Xce C .Is oIs := by
  intro A ρ σ s Q E a b x y r ax va vb h
  cases b with
  | none =>
    simp only [VRel] at vb
    subst vb
    obtain ⟨h1, h2⟩ := Xeq va
    refine wpAny_is_plain h1 ?_
    rw [h2]
    exact QV.bool h r
  | _ => exact h.elim
theorem Um {C : Wd} : Xce C .IsNot Uz := by
  intro A ρ σ s Q E a b x y r ax va vb h
  cases b with
  | none =>
    simp only [VRel] at vb
    subst vb
    obtain ⟨h1, h2⟩ := Xeq va
    refine wpAny_isNot_plain h1 ?_
    rw [h2]
    exact QV.bool h r
  | _ => exact h.elim
noncomputable def Xaf : List MV → Option (List Int)
  | [] => some []
  | v :: l => match v with
    | .int i => (Xaf l).map (i :: ·)
    | _ => none
theorem Xel {ρ : List Loc} {h : Heap} {l : List MV} : ∀ {vs : List Value} {ns : List Int}, VRels ρ h l vs → Xaf l = some ns → IntsAre vs ns := by
  induction l with
  | nil =>
    intro vs ns v e
    simp only [VRels] at v; cases e; subst v; exact .nil
  | cons m l ih =>
    intro vs ns v e
    cases m with
    | int i =>
      obtain ⟨ns, e2, rfl⟩ := Option.map_eq_some_iff.mp e
      simp only [VRels, VRel] at v
      refine @cps _ fun Γ γ => ?_
      obtain ⟨w, ws, rfl, ⟨t, rfl⟩, b⟩ := v
      refine γ ?_; clear γ Γ
      exact .cons i t (ih b e2)
    | _ => cases e
noncomputable def inB (σ : Sg) (a b : MV) : Option Bool := match a with
  | .int k => (b.ls σ).bind fun l => (Xaf l).map fun ns => ns.any (· == k)
  | _ => none
noncomputable def oIn : OpM := fun a b σ => match inB σ a b with
  | some t => rB t σ
  | none => .stuck
noncomputable def Wq : OpM := fun a b σ => match inB σ a b with
  | some t => rB (!t) σ
  | none => .stuck
theorem Xjl {C : Wd} {ρ : List Loc} {σ : Sg} {h : Heap} (r : RelH C ρ σ h) {a b : MV} {x y : Value} {t : Bool} (va : VRel ρ h a x) (vb : VRel ρ h b y) (e : inB σ a b = some t) :
    ∃ k u a1 vs ns, x = .int k u ∧ y = .ref a1 ∧ h.IsList a1 vs.toArray ∧ IntsAre vs ns ∧ ns.any (· == k) = t := by
  cases a with
  | int k =>
    refine @cps _ fun Γ γ => ?_
    obtain ⟨l, e1, e⟩ := Option.bind_eq_some_iff.mp e
    obtain ⟨ns, e2, e3⟩ := Option.map_eq_some_iff.mp e
    obtain ⟨i, rfl, q⟩ := MV.ls_some e1
    obtain ⟨a1, xs, rfl, p1, l1, v1⟩ := r.list q vb
    refine γ ?_; clear γ Γ
    simp only [VRel] at va
    obtain ⟨u, rfl⟩ := va
    exact ⟨k, u, a1, xs.toList, ns, rfl, rfl, l1.isList, Xel v1 e2, e3⟩
  | _ => cases e
theorem XlY {C : Wd} : Xce C .In oIn := by
  intro A ρ σ s Q E a b x y r ax va vb h
  unfold oIn at h
  cases e : inB σ a b with
  | none => rw [e] at h; exact h.elim
  | some t =>
    rw [e] at h
    refine @cps _ fun Γ γ => ?_
    obtain ⟨k, u, a1, vs, ns, rfl, rfl, l, i, rfl⟩ := Xjl r.h va vb e
    refine γ ?_; clear γ Γ
    exact in_list_ints l i (QV.bool h r)
theorem XdW {C : Wd} : Xce C .NotIn Wq := by
  intro A ρ σ s Q E a b x y r ax va vb h
  unfold Wq at h
  cases e : inB σ a b with
  | none => rw [e] at h; exact h.elim
  | some t =>
    rw [e] at h
    refine @cps _ fun Γ γ => ?_
    obtain ⟨k, u, a1, vs, ns, rfl, rfl, l, i, rfl⟩ := Xjl r.h va vb e
    refine γ ?_; clear γ Γ
    exact notin_list_ints l i (QV.bool h r)
end
section
noncomputable def idx {α : Type} (l : List α) (k : Int) : Option α :=
  if 0 ≤ k then (if k < 2 ^ 62 then l[k.toNat]? else none) else if -(l.length : Int) ≤ k ∧ -(2 ^ 62) ≤ k then l[(k + l.length).toNat]? else none
noncomputable def rO (v : Option MV) (σ : Sg) : R MV := match v with
  | some v => .ok v σ
  | none => .stuck
noncomputable def Zx : OpM := fun a b σ => match a, b with
  | .tup l, .int k => rO (idx l k) σ
  | .arg l, .int k => rO ((idx l k).map .int) σ
  | .ref i, .int k => match σ[i]? with
    | some (.list l) => rO (idx l k) σ
    | _ => .stuck
  | .ref i, .str x => match σ[i]? with
    | some (.dict l) => rO (l.lookup x) σ
    | _ => .stuck
  | _, _ => .stuck
theorem Xf4 {v : Option MV} {σ : Sg} {P : MV → Sg → Prop} {X : Sg → Prop} (h : (rO v σ).Ok P X) : ∃ w, v = some w ∧ P w σ := by
  cases v with
  | none => exact h.elim
  | some w => exact ⟨w, rfl, h⟩
section
variable {prog : Program} {w : World} {A : Around} {E : Value → Shared → Prop} {s : Shared} {Q : Value → Shared → Prop} {value slice : Expr}
theorem Xip {l : Addr} {items : Array Value} {k : Int} {t : Tok} {x : Value} (hl : s.heap.IsList l items) (hk : idx items.toList k = some x) (h : Q x s) : wpAny (model prog w) A (getItem (.ref l) (.int k t)) Q E s := by
  unfold idx at hk
  split at hk
  · split at hk
    · exact wpAny_getItem_list hl (by assumption) (by lia) (by simpa using hk) h
    · cases hk
  · split at hk
    · rename_i h1 h2
      refine wpAny_getItem_list_neg hl (by lia) ?_ (by lia) ?_ h
      · simpa using h2.1
      · simpa using hk
    · cases hk
theorem Xjc {k : Int} {n j : Nat} (h : (if 0 ≤ k then k.toNat else (k + n).toNat) = j) (hn : j < n) (h2 : 0 ≤ k ∨ -(n : Int) ≤ k) : seqIndex? k n = some j := by
  unfold seqIndex?
  by_cases h0 : 0 ≤ k
  · rw [if_pos h0] at h
    have h1 : ¬ k < 0 := Int.not_lt.mpr h0
    simp [h1]
    exact ⟨⟨h0, (Int.toNat_lt h0).mp (h ▸ hn)⟩, h⟩
  · rw [if_neg h0] at h
    have h1 : k < 0 := Int.not_le.mp h0
    have h3 : 0 ≤ k + n := by have := h2.resolve_left h0; lia
    simp [h1]
    exact ⟨⟨h3, (Int.toNat_lt h3).mp (h ▸ hn)⟩, h⟩
theorem Xnf {l : Addr} {items : Array Value} {k : Int} {t : Tok} {x : Value} (hl : IsTup s.heap l items) (hk : idx items.toList k = some x) (h : Q x s) : wpAny (model prog w) A (getItem (.ref l) (.int k t)) Q E s := by
  unfold idx at hk
  split at hk
  · split at hk
    · have hlt : k.toNat < items.size := by simpa using (List.getElem?_eq_some_iff.mp hk).1
      refine PyProof.Rows.getItem_tuple hl (by lia) (by lia) (Xjc (j := k.toNat) (by rw [if_pos (by assumption)]) hlt (.inl (by assumption))) (by simpa using hk) h
    · cases hk
  · split at hk
    · rename_i h1 h2
      have hlt : (k + items.toList.length).toNat < items.size := by simpa using (List.getElem?_eq_some_iff.mp hk).1
      refine PyProof.Rows.getItem_tuple hl (by lia) (by lia) (Xjc (j := (k + items.toList.length).toNat) (by rw [if_neg h1]; simp) hlt (.inr (by simpa using h2.1))) (by simpa using hk) h
    · cases hk
end
theorem VRels.idx {ρ : List Loc} {h : Heap} {l : List MV} {vs : List Value} {k : Int} {m : MV} (v : VRels ρ h l vs) (e : idx l k = some m) : ∃ x, Mine.Internal.idx vs k = some x ∧ VRel ρ h m x := by
  unfold Mine.Internal.idx at e ⊢
  rw [v.length]
  split at e
  · split at e
    · rename_i h1 h2
      rw [if_pos h1, if_pos h2]; exact v.get e
    · cases e
  · split at e
    · rename_i h1 h2
      rw [if_neg h1, if_pos h2]; exact v.get e
    · cases e
theorem XgS {vs : List Value} {ns : List Int} {k n : Int} (v : IntsAre vs ns) (e : idx ns k = some n) : ∃ t, idx vs k = some (.int n t) := by
  have hl := v.length
  unfold idx at e ⊢
  rw [hl]
  split at e
  · split at e
    · rename_i h1 h2
      rw [if_pos h1, if_pos h2]; exact v.get _ _ e
    · cases e
  · split at e
    · rename_i h1 h2
      rw [if_neg h1, if_pos h2]; exact v.get _ _ e
    · cases e
theorem XdP {ρ : List Loc} {h : Heap} : ∀ {l : List (Sy × MV)} {kvs : List (Str × Value)} {x : Sy} {v : MV}, kvs.map (·.1) = l.map (·.1.s) → VRels ρ h (l.map (·.2)) (kvs.map (·.2)) → l.lookup x = some v → ∃ w, valueAt kvs x.s = some w ∧ VRel ρ h v w
  | [], _, _, _, _, _, e => by simp at e
  | (y, m) :: l, [], _, _, e, _, _ => by simp at e
  | (y, m) :: l, (a, b) :: kvs, x, v, e, r, q => by
    simp only [List.map_cons, List.cons.injEq] at e
    simp only [List.map_cons, VRels] at r
    refine @cps _ fun Γ γ => ?_
    obtain ⟨w, ws, e2, r1, r2⟩ := r
    refine γ ?_; clear γ Γ
    simp only [List.cons.injEq] at e2
    obtain ⟨rfl, rfl⟩ := e2
    simp only [List.lookup_cons] at q
    unfold valueAt
    simp only [List.find?_cons]
    by_cases hx : x = y
    · subst hx
      simp at q
      subst q
      exact ⟨b, by simp [e.1], r1⟩
    · have h1 : (x == y) = false := by simpa using hx
      rw [h1] at q
      have h2 : ¬ a = x.s := fun z => hx (Sy.inj (z.symm.trans e.1))
      have := XdP (x := x) (v := v) e.2 r2 q
      simpa [valueAt, h2] using this
theorem RelH.dict {C : Wd} {ρ : List Loc} {σ : Sg} {h : Heap} {i : Nat} {l : List (Sy × MV)} (r : RelH C ρ σ h) (e : σ[i]? = some (.dict l)) {w : Value} (v : VRel ρ h (.ref i) w) :
    ∃ a kvs, w = .ref a ∧ ρ[i]? = some (a, a) ∧ h.DictOf (strKind C.prog C.w) a kvs ∧ kvs.map (·.1) = l.map (·.1.s) ∧ VRels ρ h (l.map (·.2)) (kvs.map (·.2)) := by
  simp only [VRel] at v
  refine @cps _ fun Γ γ => ?_
  obtain ⟨p, hp, rfl⟩ := v
  obtain ⟨e2, kvs, hl, hv⟩ := r.objs i p _ hp e
  refine γ ?_; clear γ Γ
  exact ⟨p.1, kvs, rfl, by rw [hp]; obtain ⟨a, d⟩ := p; simp at e2; simp [e2], hl, hv⟩
noncomputable def XI (a b : EM) : EM := YI Zx a b
theorem Xy {C : Wd} {k : Nat} {sc : Scope} {value slice : Expr} {pos : Pos} {ml mr : EM} (hl : ES C k sc value ml) (hr : ES C k sc slice mr)
    (hs : ∀ o i, subscripted slice false o i = operate [o, i] (getItem o i) := by intro _ _; rfl) : ES C k sc (.Subscript value slice pos) (XI ml mr) := by
  intro A env fr ρ σ s Q E a h
  unfold XI YI at h
  rw [R.Ok_bind] at h
  refine Subscript_ (hl a (h.mono (fun m₀ σ₁ h₁ ρ₁ s₁ w st r v => ?_) fun _ x => x))
  rw [R.Ok_bind] at h₁
  refine hr (a.next st r) (h₁.mono (fun m₁ σ₂ h₂ ρ₂ s₂ w' st₂ r₂ v' => ?_) fun _ x => QE.chain x st)
  have va := v.step r.h st₂
  have st' := st.trans st₂
  cases m₀ with
  | tup l =>
    cases m₁ with
    | int j =>
      obtain ⟨m, e, q⟩ := Xf4 (v := idx l j) (σ := σ₂) h₂
      simp only [VRel] at va v'
      refine @cps _ fun Γ γ => ?_
      obtain ⟨a1, vs, rfl, t1, vv⟩ := va
      obtain ⟨u, rfl⟩ := v'
      obtain ⟨x, e2, vx⟩ := vv.idx e
      refine γ ?_; clear γ Γ
      exact subscriptTail_builtinR t1.typeIs slot_tuple_getitem.lookup (Xnf t1 e2 ⟨rfl, q _ _ _ st' r₂ vx⟩) (hs _ _)
    | _ => exact h₂.elim
  | arg l =>
    cases m₁ with
    | int j =>
      obtain ⟨m, e, q⟩ := Xf4 (v := (idx l j).map .int) (σ := σ₂) h₂
      simp only [VRel] at va v'
      refine @cps _ fun Γ γ => ?_
      obtain ⟨a1, vs, rfl, n1, t1, vv⟩ := va
      obtain ⟨u, rfl⟩ := v'
      refine γ ?_; clear γ Γ
      simp only [Option.map_eq_some_iff] at e
      refine @cps _ fun Γ γ => ?_
      obtain ⟨n, e, rfl⟩ := e
      obtain ⟨t, e2⟩ := XgS vv e
      refine γ ?_; clear γ Γ
      exact subscriptTail_builtinR t1.typeIs slot_list_getitem.lookup (Xip t1 e2 ⟨rfl, q _ _ _ st' r₂ (by simp only [VRel]; exact ⟨t, rfl⟩)⟩) (hs _ _)
    | _ => exact h₂.elim
  | ref i =>
    cases m₁ with
    | int j =>
      refine @cps _ fun Γ γ => ?_
      obtain ⟨l, qq, h₂⟩ := Xc1 (o := σ₂[i]?) (f := fun l => rO (idx l j) σ₂) (show _ from h₂)
      obtain ⟨m, e, q⟩ := Xf4 h₂
      obtain ⟨a1, vs, rfl, p1, t1, vv⟩ := r₂.h.list qq va
      refine γ ?_; clear γ Γ
      simp only [VRel] at v'
      refine @cps _ fun Γ γ => ?_
      obtain ⟨u, rfl⟩ := v'
      obtain ⟨x, e2, vx⟩ := vv.idx e
      refine γ ?_; clear γ Γ
      exact subscriptTail_builtinR t1.isList.typeIs slot_list_getitem.lookup (Xip t1.isList e2 ⟨rfl, q _ _ _ st' r₂ vx⟩) (hs _ _)
    | str x =>
      unfold Zx at h₂
      dsimp only at h₂
      cases qq : σ₂[i]? with
      | none => rw [qq] at h₂; exact h₂.elim
      | some o =>
        rw [qq] at h₂
        cases o with
        | dict l =>
          refine @cps _ fun Γ γ => ?_
          obtain ⟨m, e, q⟩ := Xf4 h₂
          obtain ⟨a1, kvs, rfl, p1, t1, e1, vv⟩ := r₂.h.dict qq va
          refine γ ?_; clear γ Γ
          simp only [VRel] at v'
          refine @cps _ fun Γ γ => ?_
          obtain ⟨u, rfl⟩ := v'
          obtain ⟨x, e2, vx⟩ := XdP e1 vv e
          refine γ ?_; clear γ Γ
          exact subscriptTail_builtinR t1.typeIs slot_dict_getitem.lookup (wpAny_getItem_of (strKind_is _ _ _ _) t1.mapOf e2 ⟨rfl, q ρ₂ { s₂ with toks := _ } _ (st'.trans (WO rfl)) (r₂.toks _) vx⟩) (hs _ _)
        | _ => exact h₂.elim
    | _ => exact h₂.elim
  | _ => exact h₂.elim
noncomputable def Xju (n : Nat) : MV → Sg → R MV := fun a σ => match a with
  | .tup l => if 1 ≤ n ∧ n ≤ l.length ∧ l.length < 1000000 then .ok (.tup (l.drop n)) σ else .stuck
  | _ => .stuck
noncomputable def XgD (n : Nat) (m : EM) : EM := fun fr σ => (m fr σ).bind (Xju n)
theorem Xem {prog : Program} {w : World} {A : Around} {E : Value → Shared → Prop} {s : Shared} {Q : Value → Shared → Prop} {value : Expr} {lower upper : Option Expr} {p : Pos} {o i : Value} {T id : String} (hT : s.TypeIs o T)
    (hl : typeLookup (.type T) "__getitem__" = pure (some (.builtin id))) (h : wpAny (model prog w) A (getItem o i) Q E s) : wpAny (model prog w) A (subscriptTail value (.Slice lower upper none p) o i) Q E s := by
  unfold subscriptTail
  refine wpAny_bind ?_
  have fin : wpAny (model prog w) A (subscripted (.Slice lower upper none p) false o i) (fun r s₃ => wpAny (model prog w) A (letTemporaryGo value o r >>= fun _ => pure r) Q E s₃) E s := by
    show wpAny (model prog w) A (operate [i, o] (getItem o i)) _ _ _
    exact wpAny_operating (wpAny_mono h (fun r s₃ h₃ => wpAny_bind (wpAny_letTemporaryGo (wpAny_pure h₃))) fun _ _ x => x)
  rw [getitemInPython_of_ne hT.not_modules]
  refine wpAny_bind (wpAny_specialOf hT hl ?_)
  first
    | exact wpAny_pure (wpAny_bind fin)
    | exact wpAny_bind (wpAny_pure (wpAny_bind fin))
    | exact wpAny_bind fin
theorem XlX {C : Wd} {k : Nat} {sc : Scope} {value : Expr} {n : Nat} {x1 : Nat} {p p' pos : Pos} {m : EM} (hl : ES C k sc value m) : ES C k sc (.Subscript value (.Slice (some (.Constant (.int n) x1 p')) none none p) pos) (XgD n m) := by
  intro A env fr ρ σ s Q E a h
  unfold XgD at h
  rw [R.Ok_bind] at h
  refine Subscript_ (hl a (h.mono (fun m₀ σ₁ h₁ ρ₁ s₁ w st r v => ?_) fun _ x => x))
  cases m₀ with
  | tup l =>
    obtain ⟨hn, h₁⟩ := Vr (c := 1 ≤ n ∧ n ≤ l.length ∧ l.length < 1000000) (x := R.ok (MV.tup (l.drop n)) σ₁) (show _ from h₁)
    simp only [VRel] at v
    refine @cps _ fun Γ γ => ?_
    obtain ⟨a1, vs, rfl, t1, vv⟩ := v
    refine γ ?_; clear γ Γ
    have el := vv.length
    simp only [Array.length_toList] at el
    refine wpAny_Slice (wpAny_Constant_int (k := x1) (pos := p') (wpAny_pure (wpAny_pure ?_)))
    have t2 : IsTup (s₁.heap.push { cls := .type "slice", data := .fields #[.int n s₁.toks, .none, .none] }) a1 vs := t1.push _
    refine Xem t2.typeIs slot_tuple_getitem.lookup (getItem_tuple_from t2 (Heap.IsSliceOf.new _ _ _ _) hn.1 (by lia) ?_ (by rw [el]; exact Nat.le_trans (Nat.le_of_lt hn.2.2) UE))
    refine h₁ ρ₁ _ _ (st.trans ((Step.push _ _).trans (Step.push _ _))) ?_ ?_
    · exact ((r.push _).toks _).push _
    · simp only [VRel]
      refine ⟨_, (vs.toList.drop n).toArray, rfl, IsTup.new _ _, ?_⟩
      simpa using ((vv.step r.h (Step.push _ _)).step (r.h.push _) (Step.push _ _)).drop n
  | _ => exact h₁.elim
structure AttrOk (C : Wd) (c : Cl) (f : Sy) : Prop where
  get : findIn C.K (.ref c.addr) "__getattribute__" = some (some (.builtin "object.__getattribute__"))
  has : hasDictIn C.K c.addr = true
  find : ∃ attr, findIn C.K (.ref c.addr) f.s = some attr ∧ noGet C.K attr = true
theorem Xex {od : Obj} {es : Array DictEntry} {ep : Nat} {m : Str → Option Value} {name : Str} (hd : od.data = .dict es ep) (hk : StrKeys es) (hf : ∀ x, nsFind es x = m x) : lookIn name od = some (m name) := by
  unfold lookIn
  rw [hd]
  dsimp only
  rw [← hf name]
  unfold nsFind findBy
  rw [← Array.find?_toList]
  cases q : es.toList.find? (fun e => e.key.isStr name) with
  | some e => rfl
  | none =>
    rw [if_neg]
    · rfl
    · intro z
      refine @cps _ fun Γ γ => ?_
      obtain ⟨e, he, hr⟩ := List.any_eq_true.mp z
      obtain ⟨n, t, h⟩ := hk e (by simpa using he)
      refine γ ?_; clear γ Γ
      simp [DictEntry.refKey, h] at hr
theorem RelH.inst {C : Wd} {ρ : List Loc} {σ : Sg} {h : Heap} {i : Nat} {c : Cl} {l : List (Sy × MV)} (r : RelH C ρ σ h) (e : σ[i]? = some (.inst c l)) {w : Value} (v : VRel ρ h (.ref i) w) :
    ∃ x d m sl od es ep, w = .ref x ∧ ρ[i]? = some (x, d) ∧ d ≠ x ∧ h.get? x = some ⟨.ref c.addr, some d, .plain, sl⟩ ∧ h.get? d = some od ∧ od.cls = .type "dict" ∧ od.data = .dict es ep ∧ StrKeys es ∧ (∀ x, nsFind es x = m x) ∧ es.size ≤ l.length ∧
      FieldsAre ρ h l m := by
  simp only [VRel] at v
  refine @cps _ fun Γ γ => ?_
  obtain ⟨p, hp, rfl⟩ := v
  obtain ⟨e0, m, sl, od, es, ep, g, g2, c2, d1, d2, d3, d4, f⟩ := r.objs i p _ hp e
  refine γ ?_; clear γ Γ
  exact ⟨p.1, p.2, m, sl, od, es, ep, rfl, hp, e0, g, g2, c2, d1, d2, d3, d4, f⟩
theorem Xhn {h : Heap} {x d C : Addr} {sl : Array (Option Value)} {od : Obj} (g : h.get? x = some ⟨.ref C, some d, .plain, sl⟩) (g2 : h.get? d = some od) : PySem.W.InstAt h x ⟨.ref C, some d, .plain, sl⟩ C (some od) := ⟨g, rfl, rfl, g2⟩
theorem VRel.handed {ρ : List Loc} {h : Heap} {v : MV} {w : Value} (e : VRel ρ h v w) : handedIn w = true := by
  cases v with
  | none => simp only [VRel] at e; subst e; rfl
  | bool => simp only [VRel] at e; subst e; rfl
  | int => simp only [VRel] at e; obtain ⟨_, rfl⟩ := e; rfl
  | str => simp only [VRel] at e; obtain ⟨_, rfl⟩ := e; rfl
  | tup => simp only [VRel] at e; obtain ⟨_, _, rfl, _⟩ := e; rfl
  | ref => simp only [VRel] at e; obtain ⟨_, _, rfl⟩ := e; rfl
  | arg => simp only [VRel] at e; obtain ⟨_, _, rfl, _⟩ := e; rfl
noncomputable def UF (c : Cl) (f : Sy) : MV → Sg → R MV := fun a σ => match a with
  | .ref i => match σ[i]? with
    | some (.inst c' l) => if c' = c then rO (l.lookup f) σ else .stuck
    | _ => .stuck
  | _ => .stuck
noncomputable def Yl (c : Cl) (f : Sy) (m : EM) : EM := fun fr σ => (m fr σ).bind (UF c f)
theorem RelH.K {C : Wd} {ρ : List Loc} {σ : Sg} {h : Heap} (r : RelH C ρ σ h) : C.K.In h := fun a o e => r.stays _ _ (C.X a o e)
theorem Xou {α : Type} {o : Option MO} {c : Cl} {f : List (Sy × MV) → R α} {P : α → Sg → Prop} {X : Sg → Prop} (h : (match (generalizing := false) o with
    | some (.inst c' l) => if c' = c then f l else .stuck
    | _ => .stuck : R α).Ok P X) : ∃ l, o = some (.inst c l) ∧ (f l).Ok P X := by
  cases o with
  | none => exact h.elim
  | some o =>
    cases o with
    | inst c' l =>
      obtain ⟨hc, h2⟩ := Vr (c := c' = c) (x := f l) h
      subst hc
      exact ⟨l, rfl, h2⟩
    | _ => exact h.elim
theorem XP {C : Wd} {k : Nat} {sc : Scope} {value : Expr} {n : Str} {pos : Pos} {c : Cl} {f : Sy} {m : EM} (ok : AttrOk C c f) (he : ES C k sc value m) (hn : n = f.s := by rfl)
    (hb : ∀ n env, attributeBase value n env (eval value env) = eval value env := by intro _ _; rfl) : ES C k sc (.Attribute value n pos) (Yl c f m) := by
  subst hn
  intro A env fr ρ σ s Q E a h
  unfold Yl at h
  rw [R.Ok_bind] at h
  rw [arm_eval_Attribute, hb]
  refine wpAny_bind (he a (h.mono (fun m₀ σ₁ h₁ ρ₁ s₁ w st r v => wpAny_bind (wpAny_standAt (wpAny_bind (wpAny_holding ?_)))) fun _ x => x))
  cases m₀ with
  | ref i =>
    refine @cps _ fun Γ γ => ?_
    obtain ⟨l, q, h₁⟩ := Xou (o := σ₁[i]?) (c := c) (f := fun l => rO (l.lookup f) σ₁) (show _ from h₁)
    obtain ⟨mv, e, z⟩ := Xf4 h₁
    obtain ⟨x, d, m', sl, od, es, ep, rfl, hp, _, g, g2, c2, d1, d2, d3, d4, F⟩ := r.h.inst q v
    obtain ⟨w, hw, vw⟩ := F.1 f mv e
    obtain ⟨attr, h1, h2⟩ := ok.find
    refine γ ?_; clear γ Γ
    refine get_value r.h.K (Xhn g g2) ok.get (findObj_own ok.has h1 h2 (by rw [Xex d1 d2 d3, hw])) vw.handed ?_
    exact wpAny_bind (wpAny_letTemporaryGo (wpAny_pure (z ρ₁ { s₁ with toks := _ } _ (st.trans (WO rfl)) (r.toks _) vw)))
  | _ => exact h₁.elim
end
noncomputable def fset : Fr → Sy → MV → Fr
  | [], x, v => [(x, v)]
  | (y, w) :: r, x, v => bif x.eqb y then (y, v) :: r else (y, w) :: fset r x v
theorem Xo4 {x : Sy} {v : MV} : fset [] x v = [(x, v)] := rfl
theorem XmJ {x y : Sy} {v w : MV} {r : Fr} : fset ((y, w) :: r) x v = if x = y then (y, v) :: r else (y, w) :: fset r x v := by
  show (bif x.eqb y then (y, v) :: r else (y, w) :: fset r x v) = _
  rw [Sy.eqb_eq]
  by_cases h : x = y <;> simp [h]
theorem Xh (fr : Fr) : ∀ (x : Sy) (v : MV) (y : Sy), (fset fr x v).lookup y = if y = x then some v else fr.lookup y := by
  induction fr with
  | nil =>
    intro x v y
    simp only [Xo4, List.lookup_cons, List.lookup_nil]
    by_cases h : y = x
    · subst h; simp
    · have : (y == x) = false := by simpa using h
      rw [this, if_neg h]
  | cons q0 r ih =>
    obtain ⟨z, w⟩ := q0
    intro x v y
    rw [XmJ]
    by_cases hx : x = z
    · subst hx
      rw [if_pos rfl]
      simp only [List.lookup_cons]
      by_cases h : y = x
      · subst h; simp
      · have : (y == x) = false := by simpa using h
        rw [this, if_neg h]
    · rw [if_neg hx]
      simp only [List.lookup_cons]
      rw [ih x v y]
      by_cases hz : y = z
      · subst hz
        simp [Ne.symm hx]
      · have : (y == z) = false := by simpa using hz
        rw [this]
theorem Xbh {C : Wd} {k : Nat} {sc : Scope} {M : Model} {A : Around} {env : Env} {fr : Fr} {ρ : List Loc} {σ : Sg} {s : Shared} {x : Sy} {m : MV} {w : Value} {Q : Unit → Shared → Prop} {E : Value → Shared → Prop}
    {b : Bool} (a : At C k sc A env fr ρ σ s) (hk : sc.names.lookup x.s = some .local ∨ (b = true ∧ sc.names.lookup x.s = some .cell)) (v : VRel ρ s.heap m w)
    (h : ∀ s', Step (xsB b env) ρ s.heap ρ s'.heap → At C k sc A env (fset fr x m) ρ σ s' → Q () s') : wpAny M A (storeName env x.s w) Q E s := by
  obtain ⟨mm, hn, hv⟩ := a.fr.ns
  rw [← a.sc] at hk
  rcases hk with hk | ⟨rfl, hk⟩
  · refine wpAny_storeName_local hk hn (fun h' hn' hs => ?_) (by rw [a.fr.kind]; rfl)
    have kp := WR (ρ := ρ) (XaF hn) hs
    have st : Step (xsB b env) ρ s.heap ρ h' := ⟨⟨[], by simp, by simp⟩, fun b1 o e => by
      by_cases q : b1 = env.locals
      · subst q
        refine @cps _ fun Γ γ => ?_
        obtain ⟨o', es, ep, g', d', _⟩ := hn'
        refine γ ?_; clear γ Γ
        exact ⟨o', g', (fun _ vs z => by rw [d'] at z; cases z), fun _ nx => absurd (Xms b env) nx⟩
      · exact ⟨o, (hs.2 b1 q).trans e, id, fun _ _ => ⟨o.slots, rfl, fun _ => rfl⟩⟩⟩
    refine h { s with heap := h', toks := s.toks + 1 } st ⟨a.sc, ⟨a.rel.h.other a.fr.sep a.fr.new (XaF hn) hs, a.rel.gens, a.rel.os⟩, ?_, a.ax.step st fun b1 hb o g => by
      by_cases q : b1 = env.locals
      · subst q; exact XaF hn' o g
      · exact a.fr.odd b1 (Xb2 b1 hb) o ((hs.2 b1 q).symm.trans g)⟩
    refine ⟨a.fr.kind, a.fr.glob, a.fr.blt, a.fr.sep, a.fr.new, ⟨_, hn', fun y v' q => ?_⟩, a.fr.inj, fun c hc => let ⟨v, b⟩ := a.fr.cells c hc; ⟨v, let ⟨o, g, d⟩ := b; ⟨o, (hs.2 c fun z => Xcc hn (z ▸ b)).trans g, d⟩⟩, fun y q => ?_⟩
    · rw [Xh] at q
      by_cases hy : y = x
      · subst hy
        rw [if_pos rfl] at q
        cases q
        exact ⟨w, v.mono kp, .inl ⟨hk, by simp⟩⟩
      · rw [if_neg hy] at q
        obtain ⟨w', vw, alt⟩ := hv y v' q
        refine ⟨w', vw.mono kp, alt.imp (fun ⟨a1, a2⟩ => ⟨a1, by rw [if_neg fun z => hy (Sy.inj z)]; exact a2⟩) fun ⟨b1, c, b2, b3⟩ => ⟨b1, c, b2, ?_⟩⟩
        have : c ≠ env.locals := fun z => Xcc hn (z ▸ b3)
        obtain ⟨o, g, d⟩ := b3
        exact ⟨o, (hs.2 c this).trans g, d⟩
    · obtain ⟨c, v0, b1, b2, b3⟩ := a.fr.alive y q
      have : c ≠ env.locals := fun z => Xcc hn (z ▸ b2)
      obtain ⟨o, g, d⟩ := b2
      exact ⟨c, v0, b1, ⟨o, (hs.2 c this).trans g, d⟩, b3⟩
  · obtain ⟨c, v0, b1, b2, b3⟩ := a.fr.alive x.s hk
    refine wpAny_storeName_cell a.fr.kind hk b1 b2 fun h' hc hs => ?_
    have kp := WR (ρ := ρ) (Xcf b2) hs
    have hcx : c ∈ XaP env := List.mem_cons_of_mem _ (by
      have : ∀ (l : List (Str × Addr)), l.lookup x.s = some c → c ∈ l.map (·.2) := fun l => by
        induction l with
        | nil => intro z; simp at z
        | cons p l ih =>
          intro z
          obtain ⟨n, c'⟩ := p
          simp only [List.lookup_cons] at z
          split at z
          · cases z; simp
          · simp only [List.map_cons, List.mem_cons]; exact .inr (ih z)
      exact this _ b1)
    have st : Step (XaP env) ρ s.heap ρ h' := ⟨⟨[], by simp, by simp⟩, fun b o e => by
      by_cases q : b = c
      · subst q
        obtain ⟨o', g', d'⟩ := hc
        exact ⟨o', g', (fun _ vs z => by rw [d'] at z; cases z), fun _ nx => absurd hcx nx⟩
      · exact ⟨o, (hs.2 b q).trans e, id, fun _ _ => ⟨o.slots, rfl, fun _ => rfl⟩⟩⟩
    have hcL : env.locals ≠ c := fun z => Xcc hn (z ▸ b2)
    refine h { s with heap := h' } st ⟨a.sc, ⟨a.rel.h.other (a.rel.h.notCell b2) b3 (Xcf b2) hs, a.rel.gens, a.rel.os⟩, ?_, a.ax.step st fun b1 hb o g => by
      by_cases q : b1 = c
      · subst q; exact Xcf hc o g
      · exact a.fr.odd b1 hb o ((hs.2 b1 q).symm.trans g)⟩
    refine ⟨a.fr.kind, a.fr.glob, a.fr.blt, a.fr.sep, a.fr.new, ⟨mm, hn.sameBut hs hcL, fun y v' q => ?_⟩, a.fr.inj, fun c1 hc1 => if hz : c1 = c then ⟨_, hz ▸ hc⟩ else let ⟨v, b⟩ := a.fr.cells c1 hc1; ⟨v, let ⟨o, g, d⟩ := b; ⟨o, (hs.2 c1 hz).trans g, d⟩⟩, fun y q => ?_⟩
    · rw [Xh] at q
      by_cases hy : y = x
      · subst hy
        rw [if_pos rfl] at q
        cases q
        exact ⟨w, v.mono kp, .inr ⟨.inl hk, c, b1, hc⟩⟩
      · rw [if_neg hy] at q
        obtain ⟨w', vw, alt⟩ := hv y v' q
        refine ⟨w', vw.mono kp, alt.imp id fun ⟨e1, c', e2, e3⟩ => ⟨e1, c', e2, ?_⟩⟩
        have : c' ≠ c := fun z => hy (Sy.inj (a.fr.inj _ _ c (z ▸ e2) b1))
        obtain ⟨o, g, d⟩ := e3
        exact ⟨o, (hs.2 c' this).trans g, d⟩
    · obtain ⟨c', v1, e1, e2, e3⟩ := a.fr.alive y q
      by_cases hz : c' = c
      · subst hz; exact ⟨c', _, e1, hc, e3⟩
      · obtain ⟨o, g, d⟩ := e2
        exact ⟨c', v1, e1, ⟨o, (hs.2 c' hz).trans g, d⟩, e3⟩
theorem Xgp (h : Heap) (a : Addr) (f : Array Value → Array Value) : Heap.SameBut a h (h.update a (Obj.mapSeq f)) := Heap.SameBut.update ..
theorem Vi {C : Wd} {ρ : List Loc} {σ : Sg} {s : Shared} {i : Nat} {a : Addr} {vs : Array Value} {l' : List MV} {f : Array Value → Array Value} {tk : Nat} (r : Rel C ρ σ s) (hi : ρ[i]? = some (a, a)) (hl : ListAt s.heap a vs)
    (hv : VRels ρ s.heap l' (f vs).toList) : Rel C ρ (σ.set i (.list l')) { s with heap := s.heap.update a (Obj.mapSeq f), toks := tk } ∧ Step [] ρ s.heap ρ (s.heap.update a (Obj.mapSeq f)) := by
  obtain ⟨n, g⟩ := hl
  have hs := Xgp s.heap a f
  have g' := Heap.get?_update_self (Obj.mapSeq f) g rfl
  have st : Step [] ρ s.heap ρ (s.heap.update a (Obj.mapSeq f)) := Step.mut hi (.inl rfl) hs g' (fun vs z => by cases z)
  exact ⟨⟨r.h.set hi (.inl rfl) hs ⟨rfl, f vs, ⟨_, g'⟩, hv.step r.h st⟩, r.gens, r.os⟩, st⟩
theorem Xb4 {C : Wd} {ρ : List Loc} {σ : Sg} {s : Shared} {i : Nat} {a : Addr} {l' : List (Sy × MV)} {kvs' : List (Str × Value)} {h' : Heap} {tk : Nat} (r : Rel C ρ σ s) (hi : ρ[i]? = some (a, a)) (hd : h'.DictOf (strKind C.prog C.w) a kvs') (hs : Heap.SameBut a s.heap h')
    (h1 : kvs'.map (·.1) = l'.map (·.1.s)) (hv : VRels ρ s.heap (l'.map (·.2)) (kvs'.map (·.2))) : Rel C ρ (σ.set i (.dict l')) { s with heap := h', toks := tk } ∧ Step [] ρ s.heap ρ h' := by
  refine @cps _ fun Γ γ => ?_
  obtain ⟨o, es, ep, g, c, d, q⟩ := id hd
  refine γ ?_; clear γ Γ
  have st : Step [] ρ s.heap ρ h' := Step.mut hi (.inl rfl) hs g (fun vs z => by rw [d] at z; cases z)
  exact ⟨⟨r.h.set hi (.inl rfl) hs ⟨rfl, kvs', hd, h1, hv.step r.h st⟩, r.gens, r.os⟩, st⟩
theorem XhK {prog : Program} {w : World} {A : Around} {E : Value → Shared → Prop} {s : Shared} {l : Addr} {items : Array Value} {k : Int} {t : Tok} {v : Value} {Q : Unit → Shared → Prop} (hl : ListAt s.heap l items) (h0 : 0 ≤ k) (hfit : k < 2 ^ 63) (hn : k < items.size)
    (hQ : Q () { s with heap := s.heap.update l (Obj.mapSeq (·.setIfInBounds k.toNat v)) }) : wpAny (model prog w) A (setItem (.ref l) (.int k t) v) Q E s := by
  obtain ⟨n, g⟩ := id hl
  unfold setItem
  try with_reducible refine wpAny_holding ?_
  first | refine wpAny_bind (wpAny_pure ?_) | skip
  refine wpAny_bind (wpAny_sequenceKey hl.isList.typeIs (by decide) ?_)
  refine wpAny_bind (wpAny_callSpecial?_slot (name := Str.ofString "__setitem__") hl.isList.typeIs slot_list_setitem (wpAny_call_entry slot_list_setitem hl.isList.typeIs entry_list_setitem ?_ (args_list_setitem _ _ _)))
  show wpAny _ _ (Builtin.List.listSubscript? (.int k t) >>= _) _ _ s
  refine wpAny_bind (wpAny_listSubscript_int (fitsIndex_of h0 hfit) ?_)
  clear hfit
  obtain ⟨j, rfl⟩ := Int.eq_ofNat_of_zero_le h0
  have hj : j < items.size := by lia
  have hx' : items[j]? = some items[j] := Array.getElem?_eq_getElem hj
  show wpAny _ _ ((seqItemAt l j >>= fun r => pure (r.map (j, ·))) >>= _) _ _ s
  refine wpAny_bind (wpAny_bind (wpAny_seqItemAt g rfl (wpAny_pure ?_)))
  rw [hx']
  show wpAny _ _ (setSeqItemAt l j v >>= _) _ _ s
  refine wpAny_bind (wpAny_setSeqItemAt g rfl ?_)
  first
    | exact wpAny_bind (wpAny_pure (wpAny_pure ⟨.none, rfl, wpAny_pure hQ⟩))
    | exact wpAny_pure ⟨.none, rfl, wpAny_pure hQ⟩
noncomputable abbrev TM := MV → Fr → Sg → R Fr
noncomputable def TS (C : Wd) (k : Nat) (sc : Scope) (b : Bool) (e : Expr) (t : TM) : Prop :=
  ∀ ⦃A : Around⦄ ⦃env : Env⦄ ⦃fr : Fr⦄ ⦃ρ : List Loc⦄ ⦃σ : Sg⦄ ⦃s : Shared⦄ ⦃m : MV⦄ ⦃w : Value⦄ ⦃Q : Unit → Shared → Prop⦄ ⦃E : Value → Shared → Prop⦄, At C k sc A env fr ρ σ s → VRel ρ s.heap m w →
    (t m fr σ).Ok (fun fr' σ' => ∀ ρ' s', Step (xsB b env) ρ s.heap ρ' s'.heap → At C k sc A env fr' ρ' σ' s' → Q () s') (QEX C A env ρ s E) → wpAny (model C.prog C.w) A (assign e env w) Q E s
noncomputable def XC (x : Sy) : TM := fun v fr σ => .ok (fset fr x v) σ
theorem XX {C : Wd} {k : Nat} {sc : Scope} {b : Bool} {x : Sy} {n : Str} {pos : Pos} (hk : sc.names.lookup x.s = some .local ∨ (b = true ∧ sc.names.lookup x.s = some .cell) := by decide +kernel) (hn : n = x.s := by rfl) : TS C k sc b (.Name n pos) (XC x) := by
  subst hn
  intro A env fr ρ σ s m w Q E a v h
  exact wpAny_assign_Name (Xbh a hk v fun s' st a' => h _ _ st a')
theorem Xhi {es : Array DictEntry} {hk : StrKeys es} {name : Str} {hash : Int} {t : Tok} {v : Value} {o : Obj} {ep : Nat} (hd : o.data = .dict es ep) :
    ∃ es' ep', (Obj.putName name hash (.str name t) v o) = { o with data := .dict es' ep' } ∧ StrKeys es' ∧ (∀ x, nsFind es' x = if x = name then some v else nsFind es x) ∧ es'.size ≤ es.size + (if (nsFind es name).isSome then 0 else 1) := by
  refine @cps _ fun Γ γ => ?_
  obtain ⟨c, d, dt, sl⟩ := o
  refine γ ?_; clear γ Γ
  simp only at hd
  subst hd
  cases hi : es.findIdx? (·.key.isStr name) with
  | some i =>
    refine ⟨es.modify i fun e => { e with val := v }, ep, by simp only [Obj.putName_eq, Obj.putNameByArray, hi], hk.modify _ _, fun x => findBy_modify (fun n v => v.isStr n) Value.isStr_inj es name x v i hi, by rw [Array.size_modify]; lia⟩
  | none =>
    refine ⟨es.push ⟨hash, .str name t, v⟩, ep + 1, by simp only [Obj.putName_eq, Obj.putNameByArray, hi], hk.push _ _ _ _, fun x => findBy_push (fun n v => v.isStr n) es name x _ _ v (fun y => by
      show (name == y) = decide (y = name)
      by_cases h : y = name
      · subst h; simp
      · have : ¬ name = y := fun e => h e.symm
        simp [h, this]) hi, ?_⟩
    have : nsFind es name = none := by
      unfold nsFind
      rw [findBy_of_findIdx?, hi]
    rw [this, Array.size_push]
    simp
structure SetOk (C : Wd) (c : Cl) (f : Sy) : Prop where
  set : findIn C.K (.ref c.addr) "__setattr__" = some (some (.builtin "object.__setattr__"))
  plain : plainOver C.K c.addr = true
  taker : takerIn C.K c.addr f.s = some none
  has : hasDictIn C.K c.addr = true
theorem XdS {fs : List (Sy × MV)} {x : Sy} (e : fs.lookup x = none) : ∀ y v, fs.lookup y = some v → y.s ≠ x.s := fun y v q z => by
  rw [Sy.inj z] at q; rw [e] at q; cases q
theorem Xgh (fr : Fr) : ∀ (x : Sy) (v : MV), (fset fr x v).length = fr.length + (if (fr.lookup x).isSome then 0 else 1) := by
  induction fr with
  | nil =>
    intro x v
    simp [Xo4]
  | cons q0 r ih =>
    obtain ⟨y, w⟩ := q0
    intro x v
    rw [XmJ]
    by_cases h : x = y
    · subst h; simp
    · have h1 : (x == y) = false := by simpa using h
      have h2 : List.lookup x ((y, w) :: r) = r.lookup x := by simp [List.lookup_cons, h1]
      rw [if_neg h, h2]
      simp only [List.length_cons, ih x v]
      lia
theorem XhM {C : Wd} {A : Around} {E : Value → Shared → Prop} {ρ : List Loc} {σ : Sg} {s : Shared} {i : Nat} {c : Cl} {fs : List (Sy × MV)} {f : Sy} {o : Value} {m : MV} {w : Value} {Q : Unit → Shared → Prop} (ok : SetOk C c f) (r : Rel C ρ σ s) (q : σ[i]? = some (.inst c fs))
    (vo : VRel ρ s.heap (.ref i) o) (v : VRel ρ s.heap m w) (hlen : fs.length < 100) (h : ∀ s', Step [] ρ s.heap ρ s'.heap → Rel C ρ (σ.set i (.inst c (fset fs f m))) s' → Q () s') : wpAny (model C.prog C.w) A (setAttr o f.s w) Q E s := by
  refine @cps _ fun Γ γ => ?_
  obtain ⟨x, d, mm, sl, od, es, ep, rfl, hp, hdx, g, g2, c2, d1, d2, d3, d4, F⟩ := r.h.inst q vo
  obtain ⟨oc, odd, oda, osl⟩ := od
  refine γ ?_; clear γ Γ
  simp only at c2 d1
  subst c2 d1
  have I := Xhn g g2
  have X := r.h.K
  refine set_plain X I ok.set (osa_open (s := { s with toks := s.toks + 1 }) X I ok.plain ok.taker fun b => ?_)
  obtain ⟨cd, hc, hd'⟩ := any_some ok.has
  refine wpAny_bind (wpAny_pure (wpAny_bind (wpAny_bind (wpAny_loadPart g (wpAny_bind (Looks.here (s := { s with toks := s.toks + 1 }) (looks_clsIn X hc) ?_))))))
  rw [hd']
  refine wpAny_pure (a := some d) (wpAny_bind (wpAny_pure (wpAny_bind ?_)))
  unfold nsSet
  refine wpAny_bind (wpAny_bind (wpAny_askSetting (wpAny_pure (wpAny_bind (wpAny_mkText (wpAny_bind (wpAny_loadPart g2 ?_)))))))
  dsimp only
  have hany : (!es.any (·.key.isStr f.s) && es.any (·.refKey)) = false := by
    have : es.any (·.refKey) = false := by
      rw [Array.any_eq_false']; intro e he; obtain ⟨n, t, h⟩ := d2 e he; simp [DictEntry.refKey, h]
    rw [this, Bool.and_false]
  rw [aRefKeyMayBeTheName_at, hany]
  refine @cps _ fun Γ γ => ?_
  obtain ⟨es', ep', e1, e2, e3, e4⟩ := Xhi (hk := d2) (name := f.s) (hash := PyData.keyHash C.w.params f.s) (t := s.toks + 1) (v := w) (o := ⟨.type "dict", odd, .dict es ep, osl⟩) rfl
  refine γ ?_; clear γ Γ
  have g3 := Heap.get?_update_self (Obj.putName f.s (PyData.keyHash C.w.params f.s) (.str f.s (s.toks + 1)) w) g2 (by rw [e1]; rfl)
  have hs := Heap.SameBut.update s.heap d (Obj.putName f.s (PyData.keyHash C.w.params f.s) (.str f.s (s.toks + 1)) w)
  rw [e1] at g3
  refine wpAny_updatePart g2 ?_
  have hsz : es'.size ≤ 1000 := by split at e4 <;> lia
  refine wpAny_bind (wpAny_lookBehind g3 (pastItsLine_dict (by have : 1000 ≤ sizeLine := by decide
                                                               lia)) ?_)
  refine wpAny_pure ?_
  have st : Step [] ρ s.heap ρ (s.heap.update d (Obj.putName f.s (PyData.keyHash C.w.params f.s) (.str f.s (s.toks + 1)) w)) := Step.mut hp (.inr rfl) hs g3 (fun vs z => by cases z)
  refine h _ st ⟨r.h.set hp (.inr rfl) hs ⟨hdx, fun y => if y = f.s then some w else mm y, sl, _, es', ep', (hs.2 x (Ne.symm hdx)).trans g, g3, rfl, rfl, e2, fun y => by rw [e3, d3], ?_, ?_⟩, r.gens, r.os⟩
  · rw [Xgh]
    have : (nsFind es f.s).isSome = (fs.lookup f).isSome := by
      rw [d3]
      cases z : fs.lookup f with
      | some v' => obtain ⟨w', hw, _⟩ := F.1 f v' z; rw [hw]; rfl
      | none => rw [F.2 f.s (XdS z)]; rfl
    rw [this] at e4
    lia
  · have F' := F.mono (XbT r.h st (by simp))
    have v' := v.step r.h st
    refine ⟨fun y v2 z => ?_, fun y z => ?_⟩
    · rw [Xh] at z
      by_cases hy : y = f
      · subst hy
        rw [if_pos rfl] at z; cases z
        exact ⟨w, by simp, v'⟩
      · rw [if_neg hy] at z
        obtain ⟨w', hw, vw⟩ := F'.1 y v2 z
        exact ⟨w', by show (if y.s = f.s then some w else mm y.s) = some w'; rw [if_neg fun q => hy (Sy.inj q)]; exact hw, vw⟩
    · have hne : y ≠ f.s := fun e => z f m (by rw [Xh, if_pos rfl]) e.symm
      show (if y = f.s then some w else mm y) = none
      rw [if_neg hne]
      refine F'.2 y fun y' v2 e q => ?_
      by_cases hy : y' = f
      · subst hy; exact hne q.symm
      · exact z y' v2 (by rw [Xh, if_neg hy]; exact e) q
noncomputable def Zb (c : Cl) (f : Sy) (v : MV) : MV → Sg → R Unit := fun o σ => match o with
  | .ref i => match σ[i]? with
    | some (.inst c' fs) => if c' = c ∧ fs.length < 100 then .ok () (σ.set i (.inst c (fset fs f v))) else .stuck
    | _ => .stuck
  | _ => .stuck
noncomputable def Zw (c : Cl) (f : Sy) (m : EM) : TM := fun v fr σ => (m fr σ).bind fun o σ => (Zb c f v o σ).bind fun _ σ => .ok fr σ
theorem At.stepX {b : Bool} {C : Wd} {k : Nat} {sc : Scope} {A : Around} {env : Env} {fr : Fr} {ρ ρ' : List Loc} {σ σ' : Sg} {s s' : Shared} (a : At C k sc A env fr ρ σ s) (st : Step [] ρ s.heap ρ' s'.heap) (r : Rel C ρ' σ' s') : Step (xsB b env) ρ s.heap ρ' s'.heap ∧ At C k sc A env fr ρ' σ' s' :=
  ⟨st.w0, a.next st r⟩
theorem YH {C : Wd} {k : Nat} {sc : Scope} {b : Bool} {o : Expr} {n : Str} {pos : Pos} {c : Cl} {f : Sy} {m : EM} (ok : SetOk C c f) (he : ES C k sc o m) (hn : n = f.s := by rfl) : TS C k sc b (.Attribute o n pos) (Zw c f m) := by
  subst hn
  intro A env fr ρ σ s mv w Q E a v h
  unfold Zw at h
  rw [R.Ok_bind] at h
  rw [assign_Attribute]
  refine wpAny_bind (wpAny_holding (he a (h.mono (fun ov σ₁ h₁ ρ₁ s₁ o st r vo => wpAny_bind (wpAny_standAt (wpAny_bind (wpAny_holding ?_)))) fun _ x => QEX.to0 x)))
  rw [R.Ok_bind] at h₁
  cases ov with
  | ref j =>
    unfold Zb at h₁
    dsimp only at h₁
    cases q : σ₁[j]? with
    | none => rw [q] at h₁; exact h₁.elim
    | some o1 =>
      rw [q] at h₁
      cases o1 with
      | inst c' fs =>
        obtain ⟨hc, h₁⟩ := Vr h₁
        obtain ⟨rfl, hlen⟩ := hc
        refine XhM ok r q vo (v.step a.rel.h st) hlen fun s' st' r' => PyProof.Rows.wpAny_release' ?_
        have := a.stepX (b := b) (st.trans st') r'
        exact h₁ _ _ this.1 this.2
      | _ => exact h₁.elim
  | _ => exact h₁.elim
theorem VRels.stepX {C : Wd} {k : Nat} {sc : Scope} {A : Around} {env : Env} {fr : Fr} {ρ ρ' : List Loc} {σ : Sg} {s : Shared} {h' : Heap} {l : List MV} {ws : List Value} (v : VRels ρ s.heap l ws) (a : At C k sc A env fr ρ σ s) (st : Step (XaP env) ρ s.heap ρ' h') : VRels ρ' h' l ws :=
  v.mono (XbT a.rel.h st a.fr.odd)
theorem VRel.stepX {C : Wd} {k : Nat} {sc : Scope} {A : Around} {env : Env} {fr : Fr} {ρ ρ' : List Loc} {σ : Sg} {s : Shared} {h' : Heap} {l : MV} {ws : Value} (v : VRel ρ s.heap l ws) (a : At C k sc A env fr ρ σ s) (st : Step (XaP env) ρ s.heap ρ' h') : VRel ρ' h' l ws :=
  v.mono (XbT a.rel.h st a.fr.odd)
noncomputable def Xhp (l : List (Sy × MV)) (x : Sy) (v : MV) : List (Sy × MV) := l.map fun p => if p.1 = x then (p.1, v) else p
theorem Xia {ρ : List Loc} {h : Heap} {x : Sy} {m : MV} {w : Value} (v : VRel ρ h m w) : ∀ {l : List (Sy × MV)} {kvs : List (Str × Value)}, kvs.map (·.1) = l.map (·.1.s) → VRels ρ h (l.map (·.2)) (kvs.map (·.2)) →
    (kvs.map fun kv => if kv.1 = x.s then (kv.1, w) else kv).map (·.1) = (Xhp l x m).map (·.1.s) ∧ VRels ρ h ((Xhp l x m).map (·.2)) ((kvs.map fun kv => if kv.1 = x.s then (kv.1, w) else kv).map (·.2)) ∧
    kvs.any (fun kv => kv.1 = x.s) = l.any (fun p => p.1 = x)
  | [], kvs, e, r => by
    have : kvs = [] := by simpa using e
    subst this
    exact ⟨rfl, by simp [Xhp, VRels], rfl⟩
  | (y, n) :: l, [], e, r => by simp at e
  | (y, n) :: l, (a, b) :: kvs, e, r => by
    simp only [List.map_cons, List.cons.injEq] at e
    simp only [List.map_cons, VRels] at r
    refine @cps _ fun Γ γ => ?_
    obtain ⟨w', ws, e2, r1, r2⟩ := r
    refine γ ?_; clear γ Γ
    simp only [List.cons.injEq] at e2
    refine @cps _ fun Γ γ => ?_
    obtain ⟨rfl, rfl⟩ := e2
    obtain ⟨h1, h2, h3⟩ := Xia (x := x) v e.2 r2
    refine γ ?_; clear γ Γ
    have ea := e.1
    subst ea
    simp only [Xhp] at h1 h2 ⊢
    by_cases hy : y = x
    · subst hy
      refine ⟨by simp [h1], ?_, by simp⟩
      simp only [List.map_cons, if_true]
      rw [VRels.eq_2]
      exact ⟨_, _, rfl, v, h2⟩
    · have hs : ¬ y.s = x.s := fun z => hy (Sy.inj z)
      refine ⟨by simp [hs, hy, h1], ?_, by simp only [List.any_cons, h3, hs, hy]⟩
      simp only [List.map_cons, if_neg hs, if_neg hy]
      rw [VRels.eq_2]
      exact ⟨_, _, rfl, r1, h2⟩
noncomputable def ZZ (v : MV) : MV → MV → Sg → R Unit := fun o i σ => match o, i with
  | .ref a, .int k => match σ[a]? with
    | some (.list l) => if 0 ≤ k ∧ k < l.length ∧ k < 2 ^ 62 then .ok () (σ.set a (.list (l.set k.toNat v))) else .stuck
    | _ => .stuck
  | .ref a, .str x => match σ[a]? with
    | some (.dict l) => if l.any (fun p => p.1 = x) = true ∧ l.length < 1000 then .ok () (σ.set a (.dict (Xhp l x v))) else .stuck
    | _ => .stuck
  | _, _ => .stuck
noncomputable def Ws (o i : EM) : TM := fun v fr σ => (o fr σ).bind fun ov σ => (i fr σ).bind fun iv σ => (ZZ v ov iv σ).bind fun _ σ => .ok fr σ
theorem XmL {α : Type} {o : Option MO} {f : List (Sy × MV) → R α} {P : α → Sg → Prop} {X : Sg → Prop} (h : (match (generalizing := false) o with
    | some (.dict l) => f l
    | _ => .stuck : R α).Ok P X) : ∃ l, o = some (.dict l) ∧ (f l).Ok P X := by
  cases o with
  | none => exact h.elim
  | some o =>
    cases o with
    | dict l => exact ⟨l, rfl, h⟩
    | _ => exact h.elim
theorem VF {C : Wd} {k : Nat} {sc : Scope} {b : Bool} {o i : Expr} {pos : Pos} {mo mi : EM} (ho : ES C k sc o mo) (hi : ES C k sc i mi) : TS C k sc b (.Subscript o i pos) (Ws mo mi) := by
  intro A env fr ρ σ s mv w Q E a v h
  unfold Ws at h
  rw [R.Ok_bind] at h
  rw [assign_Subscript]
  refine wpAny_bind (wpAny_holding (ho a (h.mono (fun ov σ₁ h₁ ρ₁ s₁ ow st r vo => ?_) fun _ x => QEX.to0 x)))
  rw [R.Ok_bind] at h₁
  refine wpAny_bind (wpAny_holding (hi (a.next st r) (h₁.mono (fun iv σ₂ h₂ ρ₂ s₂ iw st₂ r₂ vi => wpAny_bind (wpAny_standAt (wpAny_bind (wpAny_holding ?_)))) fun _ x => QE.chain (QEX.to0 x) st)))
  rw [R.Ok_bind] at h₂
  have st' := st.trans st₂
  have v2 := v.step a.rel.h st'
  have vo2 := vo.step r.h st₂
  cases ov with
  | ref j =>
    cases iv with
    | int y =>
      refine @cps _ fun Γ γ => ?_
      obtain ⟨l, q, h₂⟩ := Xc1 (o := σ₂[j]?) (f := fun l => if 0 ≤ y ∧ y < l.length ∧ y < 2 ^ 62 then R.ok () (σ₂.set j (MO.list (l.set y.toNat mv))) else R.stuck) (show _ from h₂)
      obtain ⟨hb, h₂⟩ := Vr h₂
      obtain ⟨a1, vs, rfl, p1, l1, vv⟩ := r₂.h.list q vo2
      refine γ ?_; clear γ Γ
      simp only [VRel] at vi
      obtain ⟨t, rfl⟩ := vi
      have el := vv.length
      simp only [Array.length_toList] at el
      refine XhK l1 hb.1 (by lia) (by lia) (PyProof.Rows.wpAny_release' ?_)
      obtain ⟨r', st''⟩ := Vi (tk := s₂.toks) (l' := _) (f := fun x => x.setIfInBounds _ w) r₂ p1 l1 (by simpa using vv.set v2)
      have z := a.stepX (b := b) (st'.trans st'') r'
      exact h₂ _ _ z.1 z.2
    | str x =>
      refine @cps _ fun Γ γ => ?_
      obtain ⟨l, q, h₂⟩ := XmL (o := σ₂[j]?) (f := fun l => if l.any (fun p => p.1 = x) = true ∧ l.length < 1000 then R.ok () (σ₂.set j (MO.dict (Xhp l x mv))) else R.stuck) (show _ from h₂)
      obtain ⟨hb, h₂⟩ := Vr h₂
      obtain ⟨a1, kvs, rfl, p1, l1, e1, vv⟩ := r₂.h.dict q vo2
      refine γ ?_; clear γ Γ
      simp only [VRel] at vi
      obtain ⟨t, rfl⟩ := vi
      have el := congrArg List.length e1
      simp only [List.length_map] at el
      obtain ⟨d1, d2, d3⟩ := Xia (x := x) v2 e1 vv
      refine wpAny_setItem_pairs (strKind_is _ _ _ _) l1 (fun h' hd hs => PyProof.Rows.wpAny_release' ?_) (by rw [el]; exact Nat.le_trans (Nat.le_of_lt hb.2) (Nat.le_trans (by decide) UE))
      unfold stored at hd
      rw [if_pos (by rw [d3]; exact hb.1)] at hd
      obtain ⟨r', st''⟩ := Xb4 (tk := s₂.toks + 1) r₂ p1 hd hs d1 d2
      have z := a.stepX (b := b) (st'.trans st'') r'
      exact h₂ _ _ z.1 z.2
    | _ => exact h₂.elim
  | _ => exact h₂.elim
noncomputable abbrev TMs := List MV → Fr → Sg → R Fr
noncomputable def TSs (C : Wd) (k : Nat) (sc : Scope) (b : Bool) (es : List Expr) (ts : TMs) : Prop :=
  ∀ ⦃A : Around⦄ ⦃env : Env⦄ ⦃fr : Fr⦄ ⦃ρ : List Loc⦄ ⦃σ : Sg⦄ ⦃s : Shared⦄ ⦃l : List MV⦄ ⦃ws : List Value⦄ ⦃Q : Unit → Shared → Prop⦄ ⦃E : Value → Shared → Prop⦄, At C k sc A env fr ρ σ s → VRels ρ s.heap l ws → l.length = es.length →
    (ts l fr σ).Ok (fun fr' σ' => ∀ ρ' s', Step (xsB b env) ρ s.heap ρ' s'.heap → At C k sc A env fr' ρ' σ' s' → Q () s') (QEX C A env ρ s E) →
    wpAny (model C.prog C.w) A (assignInOrder ((assignEach es env).map (·.2)) ws) Q E s
noncomputable def XbA : TMs := fun _ fr σ => .ok fr σ
noncomputable def ZQ (t : TM) (ts : TMs) : TMs := fun l fr σ => match l with
  | v :: vs => (t v fr σ).bind fun fr σ => ts vs fr σ
  | [] => .stuck
theorem Xaw {C : Wd} {k : Nat} {sc : Scope} {b : Bool} : TSs C k sc b [] XbA := fun _ _ _ _ _ _ _ _ _ _ a v _ h => wpAny_pure (h _ _ (Step.refl ..) a)
theorem ZM {C : Wd} {k : Nat} {sc : Scope} {b : Bool} {e : Expr} {es : List Expr} {t : TM} {ts : TMs} (he : TS C k sc b e t) (hs : TSs C k sc b es ts) (hq : ∀ env, assignEach (e :: es) env = (false, assign e env) :: assignEach es env := by intro _; rfl) : TSs C k sc b (e :: es) (ZQ t ts) := by
  intro A env fr ρ σ s l ws Q E a v hl h
  cases l with
  | nil => cases hl
  | cons m l =>
    simp only [VRels] at v
    refine @cps _ fun Γ γ => ?_
    obtain ⟨w, ws, rfl, v1, v2⟩ := v
    refine γ ?_; clear γ Γ
    simp only [ZQ] at h
    rw [R.Ok_bind] at h
    rw [hq]
    show wpAny _ _ (do holding ws (assign e env w); assignInOrder ((assignEach es env).map (·.2)) ws) _ _ _
    refine wpAny_bind (wpAny_holding (he a v1 (h.mono (fun fr₁ σ₁ h₁ ρ₁ s₁ st a₁ => ?_) fun _ x => x)))
    exact hs a₁ (v2.stepX a (st.weaken Xb2)) (by simpa using hl) (h₁.mono (fun fr₂ σ₂ z ρ₂ s₂ st₂ a₂ => z _ _ (st.trans st₂) a₂) fun _ z => QEX.chain0 z (st.weaken Xb2))
noncomputable def ZC (n : Nat) (ts : TMs) : TM := fun v fr σ => match v with
  | .tup l => if l.length = n then ts l fr σ else .stuck
  | .ref i => match σ[i]? with
    | some (.list l) => if l.length = n then ts l fr σ else .stuck
    | _ => .stuck
  | _ => .stuck
theorem Xi2 {prog : Program} {w : World} {A : Around} {E : Value → Shared → Prop} {it t : Addr} {items : Array Value} (hne : t ≠ it) (n : Nat) : ∀ (i : Nat) (s : Shared) (Q : List Value → Shared → Prop), s.heap.IsListIter it t i → s.heap.IsList t items → i + n ≤ items.size →
    (∀ h', h'.IsListIter it t (i + n) → Heap.SameBut it s.heap h' → Q ((items.toList.drop i).take n) { s with heap := h' }) → wpAny (model prog w) A (draw (.ref it) n) Q E s := by
  induction n with
  | zero =>
    intro i s Q hit _ _ hQ
    show wpAny _ _ (pure []) Q E s
    exact wpAny_pure (by simpa using hQ s.heap hit (Heap.SameBut.refl ..))
  | succ n ih =>
    intro i s Q hit ht hle hQ
    have hlt : i < items.size := by lia
    show wpAny _ _ (pyNext (.ref it) >>= _) Q E s
    refine wpAny_bind (wpAny_pyNext_list_item hit ht (x := items[i]) (by simp [hlt]) fun h₁ hit₁ hs₁ => ?_)
    refine wpAny_bind (wpAny_holding (ih (i + 1) _ _ hit₁ (ht.extBut hs₁.extBut hne) (by lia) fun h₂ hit₂ hs₂ => wpAny_pure ?_))
    have hd : items.toList.drop i = items[i] :: items.toList.drop (i + 1) := by simp [List.drop_eq_getElem_cons, hlt]
    have := hQ h₂ (by rw [show i + (n + 1) = i + 1 + n by lia]; exact hit₂) (hs₁.trans hs₂)
    rw [hd, List.take_succ_cons] at this
    exact this
theorem XcN {prog : Program} {w : World} {A : Around} {E : Value → Shared → Prop} {s : Shared} {t : Addr} {items : Array Value} {Q : List Value → Shared → Prop} (hh : A.handled = none) (ht : s.heap.IsList t items)
    (hQ : ∀ h', Heap.ExtBut s.heap.objs.size s.heap h' → Q items.toList { s with heap := h' }) : wpAny (model prog w) A (unpackItems (.ref t) items.size none) Q E s := by
  have hlt : t ≠ s.heap.objs.size := by obtain ⟨o, ho, _⟩ := ht; exact Nat.ne_of_lt (Heap.lt_size ho)
  unfold unpackItems
  refine wpAny_bind ?_
  unfold notIterableAtAll
  refine wpAny_bind (wpAny_specialOf ht.typeIs F.slot_list_iter.lookup ?_)
  refine wpAny_pure ?_
  simp only [Bool.false_eq_true, if_false]
  refine wpAny_bind (wpAny_holding (wpAny_pyIter_list ht ?_))
  refine wpAny_bind (wpAny_holding (Xi2 hlt items.size 0 _ _ ⟨_, Heap.get?_push_size _ rfl, rfl, rfl⟩ (ht.extBut (b := s.heap.objs.size) (fun b o _ e => Heap.get?_push_of_some _ e) hlt) (by lia) fun h₁ hit₁ hs₁ => ?_))
  have hall : List.take items.size (List.drop 0 items.toList) = items.toList := by
    rw [List.drop_zero]; exact List.take_of_length_le (by simp)
  rw [hall]
  rw [if_neg (by simp)]
  have ht₁ : h₁.IsList t items := (ht.extBut (b := s.heap.objs.size) (fun b o _ e => Heap.get?_push_of_some _ e) hlt).extBut hs₁.extBut hlt
  refine wpAny_bind (wpAny_holding (wpAny_pyNext_list_end hh hit₁ ht₁ (by simp) fun h₂ he₂ => ?_))
  simp only [Option.isSome_none, Bool.false_eq_true, if_false]
  refine wpAny_pure (hQ h₂ fun b o hb e => he₂ b o hb (hs₁.extBut b o hb (Heap.get?_push_of_some _ e)))
theorem Wz {h h' : Heap} (x : Heap.ExtBut h.objs.size h h') : ∀ b o, h.get? b = some o → h'.get? b = some o := fun b o e => x b o (Nat.ne_of_lt (Heap.lt_size e)) e
theorem Xd1 {C : Wd} {k : Nat} {sc : Scope} {A : Around} {env : Env} {fr : Fr} {ρ : List Loc} {σ : Sg} {s : Shared} {m : MV} {w : Value} {n : Nat} {Q : List Value → Shared → Prop} {E : Value → Shared → Prop} {T : List MV → Prop} (a : At C k sc A env fr ρ σ s) (v : VRel ρ s.heap m w)
    (ht : match m with | .tup l => l.length = n ∧ T l | .ref i => ∃ l, σ[i]? = some (.list l) ∧ l.length = n ∧ T l | _ => False)
    (h : ∀ s' l ws, T l → Step [] ρ s.heap ρ s'.heap → At C k sc A env fr ρ σ s' → VRels ρ s'.heap l ws → l.length = n → Q ws s') : wpAny (model C.prog C.w) A (unpackItems w n none) Q E s := by
  cases m with
  | tup l =>
    simp only [VRel] at v
    refine @cps _ fun Γ γ => ?_
    obtain ⟨a1, vs, rfl, t1, vv⟩ := v
    refine γ ?_; clear γ Γ
    have el := vv.length
    simp only [Array.length_toList] at el
    rw [← ht.1, ← el]
    refine wpAny_unpackItems_tuple a.ax.hd t1 fun h' he => ?_
    have st : Step [] ρ s.heap ρ h' := Step.keeps (Wz he)
    exact h { s with heap := h' } l _ ht.2 st (a.next (s' := { s with heap := h' }) st (a.rel.keeps (Wz he) rfl rfl)) (vv.step a.rel.h st) ht.1
  | ref i =>
    refine @cps _ fun Γ γ => ?_
    obtain ⟨l, q, hl, hT⟩ := ht
    obtain ⟨a1, vs, rfl, p1, l1, vv⟩ := a.rel.h.list q v
    refine γ ?_; clear γ Γ
    have el := vv.length
    simp only [Array.length_toList] at el
    rw [← hl, ← el]
    refine XcN a.ax.hd l1.isList fun h' he => ?_
    have st : Step [] ρ s.heap ρ h' := Step.keeps (Wz he)
    exact h { s with heap := h' } l _ hT st (a.next (s' := { s with heap := h' }) st (a.rel.keeps (Wz he) rfl rfl)) (vv.step a.rel.h st) hl
  | _ => exact ht.elim
theorem VU {C : Wd} {k : Nat} {sc : Scope} {b : Bool} {es : List Expr} {x1 : Nat} {pos : Pos} {ts : TMs} {n : Nat} (h : TSs C k sc b es ts) (hn : es.length = n := by rfl) (hs : ∀ env, (assignEach es env).findIdx? (·.1) = none := by intro _; rfl)
    (hl : ∀ env, (assignEach es env).length = n := by intro _; rfl) : TS C k sc b (.Tuple es x1 pos) (ZC n ts) := by
  intro A env fr ρ σ s m w Q E a v q
  rw [arm_assign_Tuple]
  refine wpAny_bind (wpAny_standAt ?_)
  unfold unpack
  rw [hl, hs]
  refine wpAny_bind (wpAny_holding (Xd1 (n := n) (T := fun l => (ts l fr σ).Ok (fun fr' σ' => ∀ ρ' s', Step (xsB b env) ρ s.heap ρ' s'.heap → At C k sc A env fr' ρ' σ' s' → Q () s') (QEX C A env ρ s E)) a v ?_ ?_))
  · unfold ZC at q
    cases m with
    | tup l => exact Vr q
    | ref i =>
      obtain ⟨l, z, q⟩ := Xc1 (o := σ[i]?) (f := fun l => if l.length = n then ts l fr σ else R.stuck) (show _ from q)
      exact ⟨l, z, Vr q⟩
    | _ => exact q.elim
  · intro s' l ws T st a' vs el
    exact h a' vs (by rw [el, hn]) (T.mono (fun fr' σ' z ρ' s'' st' => z ρ' s'' (st.w0.trans st')) fun _ z => QEX.chain0 z st.w0)
noncomputable def Xo (a b : XM) : XM := fun fr σ => (a fr σ).bind fun r σ => match r with
  | (.next, fr) => b fr σ
  | (f, fr) => .ok (f, fr) σ
noncomputable def Xp : XM := fun fr σ => .ok (.next, fr) σ
theorem Xl {C : Wd} {k : Nat} {sc : Scope} : XSs C k sc [] Xp := fun _ _ _ _ _ _ _ _ a h => wpAny_execs_nil (h _ _ _ (Step.refl ..) a rfl)
theorem Xf {C : Wd} {k : Nat} {sc : Scope} {e : Stmt} {es : List Stmt} {m ms : XM} (he : XS C k sc e m) (hs : XSs C k sc es ms) : XSs C k sc (e :: es) (Xo m ms) := by
  intro A env fr ρ σ s Q E a h
  unfold Xo at h
  rw [R.Ok_bind] at h
  refine wpAny_execs_cons (he a (h.mono (fun r σ₁ h₁ ρ₁ s₁ f st a₁ hf => ?_) fun _ x => x))
  obtain ⟨fl, fr₁⟩ := r
  cases fl with
  | next =>
    simp only [VP] at hf
    subst hf
    exact hs a₁ (h₁.mono (fun _ _ z => QX.chain z st) fun _ z => QEX.chain0 z st)
  | brk => simp only [VP] at hf; subst hf; exact h₁ _ _ _ st a₁ rfl
  | cont => simp only [VP] at hf; subst hf; exact h₁ _ _ _ st a₁ rfl
  | ret v =>
    obtain ⟨w, rfl, vw⟩ := hf
    exact h₁ _ _ _ st a₁ ⟨w, rfl, vw⟩
noncomputable def Zg (m : EM) : XM := fun fr σ => (m fr σ).bind fun v σ => .ok (.ret v, fr) σ
theorem Yp {C : Wd} {k : Nat} {sc : Scope} {e : Expr} {pos : Pos} {m : EM} (he : ES C k sc e m) : XS C k sc (.Return (some e) pos) (Zg m) := by
  intro A env fr ρ σ s Q E a h
  unfold Zg at h
  rw [R.Ok_bind] at h
  refine wpAny_Return_some (he a (h.mono (fun v σ₁ h₁ ρ₁ s₁ w st r v => ?_) fun _ x => QEX.to0 x))
  have z := a.stepX (b := true) st r
  exact h₁ _ _ _ z.1 z.2 ⟨w, rfl, v⟩
noncomputable def Zd (m : EM) : XM := fun fr σ => (m fr σ).bind fun _ σ => .ok (.next, fr) σ
theorem Zi {C : Wd} {k : Nat} {sc : Scope} {e : Expr} {pos : Pos} {m : EM} (he : ES C k sc e m) (hk : sc.kind = .function := by rfl) (hs : ∀ env, swapsWith e none pos.line env = pure false := by intro _; rfl) : XS C k sc (.Expr e pos) (Zd m) := by
  intro A env fr ρ σ s Q E a h
  unfold Zd at h
  rw [R.Ok_bind] at h
  refine wpAny_Expr_any (he a (h.mono (fun v σ₁ h₁ ρ₁ s₁ w st r v => ?_) fun _ x => QEX.to0 x)) (by unfold interactive; rw [a.fr.kind]; rfl) (hs env)
  have z := a.stepX (b := true) st r
  exact h₁ _ _ _ z.1 z.2 rfl
noncomputable def mFl (f : Fl) : XM := fun fr σ => .ok (f, fr) σ
theorem XnB {C : Wd} {k : Nat} {sc : Scope} {pos : Pos} : XS C k sc (.Break pos) (mFl .brk) := fun _ _ _ _ _ _ _ _ a h => wpAny_Break (h _ _ _ (Step.refl ..) a rfl)
theorem Xe8 {C : Wd} {k : Nat} {sc : Scope} {pos : Pos} : XS C k sc (.Continue pos) (mFl .cont) := fun _ _ _ _ _ _ _ _ a h => wpAny_Continue (h _ _ _ (Step.refl ..) a rfl)
noncomputable def YZ (t : BM) (a b : XM) : XM := fun fr σ => (t fr σ).bind fun x σ => if x then a fr σ else b fr σ
theorem YX {C : Wd} {k : Nat} {sc : Scope} {t : Expr} {a b : List Stmt} {pos : Pos} {mt : BM} {ma mb : XM} (ht : BS C k sc t mt) (ha : XSs C k sc a ma) (hb : XSs C k sc b mb) : XS C k sc (.If t a b pos) (YZ mt ma mb) := by
  intro A env fr ρ σ s Q E at_ h
  unfold YZ at h
  rw [R.Ok_bind] at h
  refine wpAny_If (ht at_ (h.mono (fun b σ₁ h₁ ρ₁ s₁ st r => ?_) fun _ x => QEX.to0 x))
  have z := at_.stepX (b := true) st r
  cases b with
  | true => exact ha z.2 (h₁.mono (fun _ _ z' => QX.chain z' z.1) fun _ z' => QEX.chain0 z' z.1)
  | false => exact hb z.2 (h₁.mono (fun _ _ z' => QX.chain z' z.1) fun _ z' => QEX.chain0 z' z.1)
noncomputable def YE (m : EM) (t : TM) : XM := fun fr σ => (m fr σ).bind fun v σ => (t v fr σ).bind fun fr σ => .ok (.next, fr) σ
theorem XV {C : Wd} {k : Nat} {sc : Scope} {t e : Expr} {pos : Pos} {m : EM} {mt : TM} (he : ES C k sc e m) (ht : TS C k sc true t mt) (hq : ∀ env, assignEach [t] env = [(false, assign t env)] := by intro _; rfl)
    (hs : ∀ env, env.scope = sc → swapsWithSole [t] e pos.line env = pure false := by intro _ _; rfl) (hw : ∀ env, env.scope = sc → swappedStores [t] e env = pure none := by intro _ _; rfl) : XS C k sc (.Assign [t] e pos) (YE m mt) := by
  intro A env fr ρ σ s Q E a h
  unfold YE at h
  rw [R.Ok_bind] at h
  rw [arm_exec_Assign, hs env a.sc, hw env a.sc, hq]
  refine wpAny_bind (wpAny_standAt (wpAny_bind (wpAny_pure ?_)))
  show wpAny _ _ (eval e env >>= _) _ _ _
  refine wpAny_bind (he a (h.mono (fun v σ₁ h₁ ρ₁ s₁ w st r v => ?_) fun _ x => QEX.to0 x))
  rw [R.Ok_bind] at h₁
  have z := a.stepX (b := true) st r
  refine wpAny_bind (wpAny_pure ?_)
  show wpAny _ _ (assign t env w >>= fun _ => pure Flow.next) _ _ _
  refine wpAny_bind (ht z.2 v (h₁.mono (fun fr' σ₂ h₂ ρ₂ s₂ st₂ a₂ => ?_) fun _ x => QEX.chain0 x z.1))
  exact wpAny_pure (h₂ _ _ _ (z.1.trans st₂) a₂ rfl)
noncomputable def Xa6 : List Sy → List MV → Fr → Fr
  | x :: xs, v :: vs, fr => Xa6 xs vs (fset fr x v)
  | _, _, fr => fr
theorem XcV {C : Wd} {k : Nat} {sc : Scope} {M : Model} {A : Around} {env : Env} {σ : Sg} {Q : Unit → Shared → Prop} {E : Value → Shared → Prop} : ∀ {xs : List Sy} {l : List MV} {ws : List Value} {fr : Fr} {ρ : List Loc} {s : Shared}, At C k sc A env fr ρ σ s →
    (∀ x ∈ xs, sc.names.lookup x.s = some .local) → VRels ρ s.heap l ws → (∀ s', Step (XaP env) ρ s.heap ρ s'.heap → At C k sc A env (Xa6 xs l fr) ρ σ s' → Q () s') → wpAny M A (assignInOrder (xs.map fun x => bindName env x.s) ws) Q E s
  | [], l, ws, fr, ρ, s, a, hk, v, h => by
    cases l <;> exact wpAny_pure (h _ (Step.refl ..) a)
  | x :: xs, [], ws, fr, ρ, s, a, hk, v, h => by
    simp only [VRels] at v
    subst v
    exact wpAny_pure (h _ (Step.refl ..) a)
  | x :: xs, m :: l, ws, fr, ρ, s, a, hk, v, h => by
    simp only [VRels] at v
    refine @cps _ fun Γ γ => ?_
    obtain ⟨w, ws, rfl, v1, v2⟩ := v
    refine γ ?_; clear γ Γ
    show wpAny _ _ (do holding ws (bindName env x.s w); assignInOrder (xs.map fun x => bindName env x.s) ws) _ _ _
    refine wpAny_bind (wpAny_holding (wpAny_bindName (Xbh (b := true) a (.inl (hk x (.head _))) v1 fun s' st a' => ?_)))
    exact XcV a' (fun y hy => hk y (.tail _ hy)) (v2.stepX a st) fun s'' st' a'' => h _ (st.trans st') a''
theorem VRels.reverse {ρ : List Loc} {h : Heap} {l : List MV} : ∀ {vs : List Value}, VRels ρ h l vs → VRels ρ h l.reverse vs.reverse := by
  induction l with
  | nil =>
    intro _ e
    simp only [VRels] at e; subst e; simp [VRels]
  | cons _ _ ih =>
    intro _ e
    simp only [VRels] at e
    refine @cps _ fun Γ γ => ?_
    obtain ⟨v, vs, rfl, a, b⟩ := e
    refine γ ?_; clear γ Γ
    simpa using (ih b).append (VRels.one a)
noncomputable def VB (m : EM) (xs : List Sy) : XM := fun fr σ => (m fr σ).bind fun v σ => match v with
  | .tup l => if l.length = xs.length then .ok (.next, Xa6 xs.reverse l.reverse fr) σ else .stuck
  | _ => .stuck
theorem Wx {C : Wd} {k : Nat} {sc : Scope} {t e : Expr} {pos : Pos} {m : EM} {xs : List Sy} (he : ES C k sc e m) (hk : ∀ x ∈ xs, sc.names.lookup x.s = some .local)
    (hw : ∀ env, env.scope = sc → swappedStores [t] e env = pure (some (xs.map Sy.s))) (hs : ∀ env, env.scope = sc → swapsWithSole [t] e pos.line env = pure false := by intro _ _; rfl) : XS C k sc (.Assign [t] e pos) (VB m xs) := by
  intro A env fr ρ σ s Q E a h
  unfold VB at h
  rw [R.Ok_bind] at h
  rw [arm_exec_Assign, hs env a.sc, hw env a.sc]
  refine wpAny_bind (wpAny_standAt (wpAny_bind (wpAny_pure ?_)))
  show wpAny _ _ (eval e env >>= _) _ _ _
  refine wpAny_bind (he a (h.mono (fun v σ₁ h₁ ρ₁ s₁ w st r v => ?_) fun _ x => QEX.to0 x))
  have z := a.stepX (b := true) st r
  refine wpAny_bind (wpAny_pure ?_)
  split at h₁
  · rename_i l
    split at h₁
    · rename_i hl
      show wpAny _ _ (do
        rule "assign.swapped-stores"
        let items ← unpackItems w (xs.map Sy.s).length none
        assignInOrder ((xs.map Sy.s).reverse.map fun n => bindName env n) items.reverse
        pure Flow.next) _ _ _
      refine wpAny_bind (wpAny_rule (wpAny_bind ?_))
      refine Xd1 (T := fun l' => l' = l) z.2 v ⟨by simpa using hl, rfl⟩ fun s' l' ws e st' a' vs _ => ?_
      subst e
      have : ((xs.map Sy.s).reverse.map fun n => bindName env n) = xs.reverse.map fun x => bindName env x.s := by simp [List.map_reverse, Function.comp_def]
      rw [this]
      refine wpAny_bind (XcV a' (fun x hx => hk x (by simpa using hx)) vs.reverse fun s'' st'' a'' => ?_)
      exact wpAny_pure (h₁ _ _ _ ((z.1.trans st'.w0).trans st'') a'' rfl)
    · exact h₁.elim
  · exact h₁.elim
theorem EPost.leave {C : Wd} {M : Model} {A : Around} {env : Env} {ρ : List Loc} {h : Heap} {s' : Shared} {σ' : Sg} {e : Value} {L : Addr} {xs : List Addr} {Q : Unit → Shared → Prop} {E : Value → Shared → Prop} {outer : List Env} (hA : A.frames = some outer) (hf : env.frame = some L)
    (hL : h.get? L = none) (hxs : ∀ a ∈ xs, h.get? a = none) (x : EPost C (A.deeper env) xs ρ h σ' e s') (hr : ∀ a, In ρ a → ∃ o, h.get? a = some o)
    (hQ : ∀ s'', EPost C A [] ρ h σ' e s'' → Q () s'') : wpAny M (A.deeper env) (leaving env e) Q E s' := by
  refine @cps _ fun Γ γ => ?_
  obtain ⟨ρ', B, l, a, f, rfl, ex, r, st, g, o, k⟩ := x
  refine γ ?_; clear γ Γ
  have hl : l = env :: outer := by
    have : (A.deeper env).frames = some (env :: outer) := by simp [Around.deeper, hA]
    rw [this] at f; cases f; rfl
  subst hl
  have fin : ∀ h' a0, Heap.FlyingW B outer a (.ref gp) a0 h' → s'.heap.UpToSlots h' → Q () { s' with heap := h' } := by
    intro h' a0 fl up
    refine hQ _ ⟨ρ', B, outer, a, hA, rfl, .inr ⟨a0, fl⟩, r, ⟨st.grow, fun b ob hb => ?_⟩, g, o, fun b ob hb n _ nf => ?_⟩
    · by_cases hin : In ρ b
      · have hin' : In ρ' b := by
          obtain ⟨ext, rfl, _⟩ := st.grow
          exact in_append.mpr (.inl hin)
        refine @cps _ fun Γ γ => ?_
        obtain ⟨o2, g2, _, _, d2⟩ := r.kind hin'
        refine γ ?_; clear γ Γ
        exact ⟨o2, fl.1 _ _ g2, fun _ => d2, fun z => absurd hin z⟩
      · have nx : b ∉ xs := fun z => by rw [hxs b z] at hb; cases hb
        refine @cps _ fun Γ γ => ?_
        obtain ⟨o1, g1, d1, z1⟩ := st.evo b ob hb
        obtain ⟨sl, rfl, f1⟩ := z1 hin nx
        refine γ ?_; clear γ Γ
        by_cases hfld : ∃ vs, ob.data = .fields vs
        · obtain ⟨vs, hvs⟩ := hfld
          have nf : b ∉ (env :: outer).filterMap (·.frame) := fun hm => by
            have hF : Heap.FunFrames s'.heap B (env :: outer) := by
              rcases ex with ⟨_, _, q, _⟩ | ⟨_, _, _, q, _⟩ <;> exact q
            refine @cps _ fun Γ γ => ?_
            obtain ⟨_, o3, g3, d3⟩ := hF.mem hm
            refine γ ?_; clear γ Γ
            rw [g1] at g3; cases g3; exact d3 vs hvs
          obtain ⟨sl', gB, f2⟩ := k b ob hb hin nx nf
          exact ⟨_, fl.1 _ _ gB, fun z => z, fun _ _ => ⟨sl', rfl, f2⟩⟩
        · obtain ⟨sl', g2⟩ := up b _ g1 (fun vs z => hfld ⟨vs, z⟩)
          exact ⟨_, g2, fun z => z, fun _ _ => ⟨sl', rfl, fun z => absurd z hfld⟩⟩
    · refine k b ob hb n (fun z => by rw [hxs b z] at hb; cases hb) fun hm => ?_
      rcases List.mem_filterMap.mp hm with ⟨env', he, hb'⟩
      rcases List.mem_cons.mp he with rfl | he
      · rw [hf] at hb'; cases hb'; rw [hL] at hb; cases hb
      · exact nf (List.mem_filterMap.mpr ⟨env', he, hb'⟩)
  have hfr : (A.deeper env).frames = some (env :: outer) := f
  rcases ex with ⟨e1, e2, e3, oe, vs, a0, e4, e5, e6, e7, e8⟩ | ⟨a0, fl⟩
  · refine wpAny_leaving_firstW hfr e3 hf e4 e1 e2 e6 e7 e8 fun h' hL' => ?_
    refine @cps _ fun Γ γ => ?_
    obtain ⟨k1, ⟨_, _, k2⟩, k3, k4⟩ := hL'
    refine γ ?_; clear γ Γ
    rw [e5] at k3
    exact fin h' a0 ⟨k1, e2, k2, k3⟩ k4
  · exact wpAny_leaves_onW hfr hf fl fun h' fl' up => fin h' a0 fl' up
theorem XgO {kindOf : Str → Option NameKind} {y : Str} {bs : List (Str × Value)} : ∀ {m : Str → Option Value}, y ∉ bs.map (·.1) → bindL kindOf bs m y = m y := by
  induction bs with
  | nil =>
    intro _ _
    exact rfl
  | cons q0 r ih =>
    obtain ⟨n, v⟩ := q0
    intro m h
    simp only [List.map_cons, List.mem_cons, not_or] at h
    unfold bindL
    rw [ih h.2]
    split
    · simp [h.1]
    · rfl
theorem XdO {kindOf : Str → Option NameKind} {y : Str} {v : Value} : ∀ {bs : List (Str × Value)} {m : Str → Option Value}, (bs.map (·.1)).Nodup → (∀ b ∈ bs, kindOf b.1 = some .local) → (y, v) ∈ bs → bindL kindOf bs m y = some v
  | (n, w) :: r, m, hn, hk, h => by
    rw [List.map_cons, List.nodup_cons] at hn
    unfold bindL
    rcases List.mem_cons.mp h with e | h
    · cases e
      rw [XgO hn.1, if_pos (hk _ (.head _))]
      simp
    · exact XdO hn.2 (fun b hb => hk b (.tail _ hb)) h
inductive Args3 (ρ : List Loc) (h : Heap) : List Sy → List MV → List Value → Prop
  | nil : Args3 ρ h [] [] []
  | cons {x : Sy} {m : MV} {w : Value} {xs : List Sy} {ms : List MV} {ws : List Value} : VRel ρ h m w → Args3 ρ h xs ms ws → Args3 ρ h (x :: xs) (m :: ms) (w :: ws)
theorem Args3.of {ρ : List Loc} {h : Heap} : ∀ {xs : List Sy} {ms : List MV} {ws : List Value}, VRels ρ h ms ws → ms.length = xs.length → Args3 ρ h xs ms ws := by
  intro xs
  induction xs with
  | nil =>
    intro ms ws v e
    cases ms with
    | nil => simp only [VRels] at v; subst v; exact .nil
    | cons m ms => cases e
  | cons x xs ih =>
    intro ms ws v e
    cases ms with
    | nil => cases e
    | cons m ms =>
      simp only [VRels] at v
      refine @cps _ fun Γ γ => ?_
      obtain ⟨w, ws, rfl, a, b⟩ := v
      refine γ ?_; clear γ Γ
      exact .cons a (ih b (Nat.succ.inj e))
theorem Args3.get {ρ : List Loc} {h : Heap} {xs : List Sy} {ms : List MV} {ws : List Value} (a : Args3 ρ h xs ms ws) {x : Sy} {m : MV} : (xs.zip ms).lookup x = some m → ∃ w, (x.s, w) ∈ (xs.map Sy.s).zip ws ∧ VRel ρ h m w := by
  induction a with
  | nil => intro e; simp at e
  | @cons y m' w xs ms ws v a ih =>
    intro e
    simp only [List.zip_cons_cons, List.lookup_cons] at e
    simp only [List.map_cons, List.zip_cons_cons, List.mem_cons]
    split at e
    · rename_i q
      cases e
      have : x = y := by simpa using q
      subst this
      exact ⟨w, .inl rfl, v⟩
    · obtain ⟨w', h1, h2⟩ := ih e
      exact ⟨w', .inr h1, h2⟩
theorem Args3.names {ρ : List Loc} {h : Heap} {xs : List Sy} {ms : List MV} {ws : List Value} (a : Args3 ρ h xs ms ws) : ((xs.map Sy.s).zip ws).map (·.1) = xs.map Sy.s := by
  induction a with
  | nil => rfl
  | cons _ _ ih => simp [ih]
theorem Xh3 {xs : List Sy} : xs.Nodup → (xs.map Sy.s).Nodup := by
  induction xs with
  | nil =>
    intro _
    simp
  | cons x xs ih =>
    intro h
    rw [List.nodup_cons] at h
    rw [List.map_cons, List.nodup_cons]
    refine ⟨fun z => ?_, ih h.2⟩
    obtain ⟨y, hy, e⟩ := List.mem_map.mp z
    exact h.1 (Sy.inj e ▸ hy)
theorem Xhw (names : List (Str × NameKind)) : ∀ (n m : Nat) (acc acc' : List (Str × Addr)), acc.map (·.1) = acc'.map (·.1) → (cellsFrom n names acc).map (·.1) = (cellsFrom m names acc').map (·.1) := by
  induction names with
  | nil =>
    intro _ _ _ _ e
    exact e
  | cons q0 r ih =>
    obtain ⟨y, k⟩ := q0
    intro n m acc acc' e
    unfold cellsFrom
    split
    · exact ih _ _ _ _ (by simp [e])
    · exact ih _ _ _ _ e
theorem Xeb {l : List (Str × Addr)} : (l.map (·.1)).Nodup → ∀ {p : Str × Addr}, p ∈ l → l.lookup p.1 = some p.2 := by
  induction l with
  | nil => intro _ p h; cases h
  | cons q l ih =>
    intro hn p h
    rw [List.map_cons, List.nodup_cons] at hn
    obtain ⟨n, c⟩ := q
    obtain ⟨h1, h2⟩ := hn
    simp only [List.lookup_cons]
    cases h with
    | head => simp
    | tail _ h =>
      have : (p.1 == n) = false := by
        rw [beq_eq_false_iff_ne]
        intro z
        have q := List.mem_map_of_mem (f := fun x : Str × Addr => x.1) h
        rw [z] at q
        exact h1 q
      rw [this]
      exact ih h2 h
noncomputable def ZU (ps ds : List Sy) (m : XM) : List MV → Sg → R MV := fun args σ => if args.length = ps.length then (m ((ps ++ ds).zip (args ++ ds.map fun _ => .none)) σ).bind fun r σ => match r.1 with
    | .ret v => .ok v σ
    | _ => .ok .none σ else .stuck
theorem VRels.nones {ρ : List Loc} {h : Heap} (ds : List Sy) : VRels ρ h (ds.map fun _ => MV.none) (ds.map fun _ => Value.none) := by
  induction ds with
  | nil =>
    simp [VRels]
  | cons _ ds ih =>
    simp only [List.map_cons, VRels, VRel]; exact ⟨_, _, rfl, rfl, ih⟩
noncomputable def Xpe (A : Around) (env : Env) : Prop := ∃ outer, A.frames = some (env :: outer) ∧ env.frame = some env.locals
noncomputable def Xhz (C : Wd) (k : Nat) (sc : Scope) (st : List Stmt) (m : XM) : Prop :=
  ∀ ⦃A : Around⦄ ⦃env : Env⦄ ⦃fr : Fr⦄ ⦃ρ : List Loc⦄ ⦃σ : Sg⦄ ⦃s : Shared⦄ ⦃Q : Flow → Shared → Prop⦄ ⦃E : Value → Shared → Prop⦄, Xpe A env → At C k sc A env fr ρ σ s →
    (m fr σ).Ok (QX C k sc A env ρ s Q) (QEX C A env ρ s E) → wpAny (model C.prog C.w) A (execs st env) Q E s
theorem XlA {C : Wd} {k : Nat} {sc : Scope} {st : List Stmt} {m : XM} (h : XSs C k sc st m) : Xhz C k sc st m := fun _ _ _ _ _ _ _ _ _ a q => h a q
theorem Xii {C : Wd} {k : Nat} {f : Addr} {oc : Value} {od : Option Addr} {osl : Array (Option Value)} {fd : FuncData} {body : List Stmt} {m : XM} (ps ds : List Sy) (ho : C.K.lookup f = some ⟨oc, od, .func fd, osl⟩) (hbody : fd.body = .stmts body) (hb : Xhz C k fd.scope body m)
    (hbind : ∀ (s : Shared) (vs : List Value), vs.length = ps.length → C.K.In s.heap → BindsTo s fd ⟨vs, []⟩ (((ps ++ ds).map Sy.s).zip (vs ++ ds.map fun _ => Value.none)))
    (hcl : fd.closure = []) (hg : fd.globals = mainGlobals) (hbl : fd.builtins = builtinsNs) (hcode : codeIn C.K fd.code fd.qualname = true) (hloc : ∀ x ∈ ps ++ ds, fd.scope.names.lookup x.s = some .local) (hnd : (ps ++ ds).Nodup) (hcn : ((cellsFrom 0 fd.scope.names []).map (·.1)).Nodup)
    (hco : fd.scope.isCoroutine = false) (hgen : fd.scope.isGenerator = false) (hk : fd.scope.kind = .function) : FS C (k + 1) f (ZU ps ds m) := by
  intro A ρ σ s args vs G r ax v h
  unfold ZU at h
  split at h
  · rename_i hlen
    rw [R.Ok_bind] at h
    have X := r.h.K
    have hvl : vs.length = ps.length := v.length.trans hlen
    have hlim := C.nolimit.keeps r.h.stays
    have a3 : Args3 ρ s.heap (ps ++ ds) (args ++ ds.map fun _ => MV.none) (vs ++ ds.map fun _ => Value.none) := Args3.of (v.append (VRels.nones ds)) (by simp [hlen])
    refine codeAny_call_function (Nat.lt_of_le_of_lt (Nat.le_add_right _ _) ax.depth) (X _ _ ho) rfl hco hgen hbody (codeRec_of X hcode) (hbind s vs hvl X _ _ _ _ ?_)
    rw [hcl]
    have hloc' : ∀ x ∈ ((ps ++ ds).map Sy.s).zip (vs ++ ds.map fun _ => Value.none), fd.scope.names.lookup x.1 = some .local := fun x hx => by
      have : x.1 ∈ (ps ++ ds).map Sy.s := (List.of_mem_zip hx).1
      obtain ⟨y, hy, e⟩ := List.mem_map.mp this
      rw [← e]; exact hloc y hy
    refine wpAny_newFunctionEnv_cells hk (fun x hx => .inl (hloc' x hx)) fun env he s₁ I => ⟨hlim.keeps I.toInCall.keep, ?_⟩
    obtain ⟨h₁, tk, rfl⟩ := I.toInCall.same
    have hL : env.locals = s.heap.objs.size := by rw [he]; rfl
    have hnew : ∀ a, env.locals ≤ a → s.heap.get? a = none := fun a ha => by
      cases e : s.heap.get? a with
      | none => rfl
      | some o => exact absurd (Heap.lt_size e) (Nat.not_lt.mpr (hL ▸ ha))
    have hsc : env.scope = fd.scope := by rw [he]; rfl
    have hframe : env.frame = some env.locals := by rw [he]; rfl
    have keep := I.toInCall.keep
    have st1 : Step [] ρ s.heap ρ h₁ := Step.keeps keep
    have a3' := a3
    have hin : ∀ a, In ρ a → ∃ o, s.heap.get? a = some o := fun a ha => let ⟨o, g, _⟩ := r.h.kind ha; ⟨o, g⟩
    have hcellsnew : ∀ c, c ∈ env.cells.map (·.2) → s.heap.get? c = none := fun c hc => by
      obtain ⟨p, hp, rfl⟩ := List.mem_map.mp hc
      exact hnew _ (Nat.le_of_lt (I.above p.1 p.2 hp))
    have hxs : ∀ a ∈ XaP env, s.heap.get? a = none := fun a ha => by
      rcases List.mem_cons.mp ha with rfl | ha
      · exact hnew _ (Nat.le_refl _)
      · exact hcellsnew a ha
    have base : ∀ a, s.heap.get? a = none → C.h₀.get? a = none := fun a e => by
      cases z : C.h₀.get? a with
      | none => rfl
      | some o => have := r.h.stays _ _ z; rw [e] at this; cases this
    have hlook : ∀ c ∈ env.cells.map (·.2), ∃ n, env.cells.lookup n = some c := fun c hc => by
      obtain ⟨p, hp, rfl⟩ := List.mem_map.mp hc
      have hnd' : (env.cells.map (·.1)).Nodup := by
        rw [he]
        show ((cellsFrom (s.heap.objs.size + 1) fd.scope.names []).map (·.1)).Nodup
        rw [Xhw _ _ 0 [] [] rfl]
        exact hcn
      exact ⟨p.1, Xeb hnd' hp⟩
    have F : FRel C env ρ ((ps ++ ds).zip (args ++ ds.map fun _ => MV.none)) h₁ := by
      refine ⟨by rw [hsc]; exact hk, by rw [he]; exact hg, by rw [he]; exact hbl, fun z => ?_, base _ (hnew _ (Nat.le_refl _)), ⟨_, I.toInCall.ns, fun x mv e => ?_⟩, fun x y c e1 e2 => ?_, fun c hc => ?_, fun x hx => ?_⟩
      · obtain ⟨o, g⟩ := hin _ z
        rw [hnew _ (Nat.le_refl _)] at g; cases g
      · obtain ⟨w, h1, h2⟩ := a3.get e
        refine ⟨w, h2.step r.h st1, .inl ⟨?_, XdO (by rw [a3.names]; exact Xh3 hnd) (fun b hb => by show env.scope.names.lookup b.1 = _; rw [hsc]; exact hloc' b hb) h1⟩⟩
        show env.scope.names.lookup x.s = _
        rw [hsc]; exact hloc' _ h1
      · exact name_of_addr I.apart (mem_of_lookup e1) (mem_of_lookup e2)
      · obtain ⟨n, hn⟩ := hlook c hc
        exact ⟨_, I.cell n c hn⟩
      · have : fd.scope.names.lookup x = some .cell := by rw [← hsc]; exact hx
        have hs := cellsFrom_some fd.scope.names (s.heap.objs.size + 1) [] (x := x) (.inl this)
        have hs' : (env.cells.lookup x).isSome = true := by rw [he]; exact hs
        obtain ⟨c, hc⟩ := Option.isSome_iff_exists.mp hs'
        exact ⟨c, _, hc, I.cell x c hc, base _ (hnew _ (Nat.le_of_lt (I.above x c (mem_of_lookup hc))))⟩
    refine @cps _ fun Γ γ => ?_
    obtain ⟨outer, hA, hFF, hNI⟩ := ax.fr
    refine γ ?_; clear γ Γ
    have AX : Ax C k (A.deeper env) ρ h₁ := ⟨XmE ax.depth, XoJ ax.units, ax.hd, env :: outer, by simp [Around.deeper, hA],
      ⟨by rw [hsc, hk]; decide, let ⟨o, es, ep, g, d, _⟩ := I.toInCall.ns; ⟨env.locals, o, hframe, base _ (hnew _ (Nat.le_refl _)), g, fun vs z => by rw [d] at z; cases z⟩, WZ st1.evo hFF⟩,
      fun L hL => by
        rw [List.filterMap_cons_some hframe] at hL
        rcases List.mem_cons.mp hL with rfl | hL
        · exact ⟨F.sep, XaF I.toInCall.ns⟩
        · obtain ⟨o, g⟩ := Wc hFF L hL
          exact ⟨(hNI L hL).1, fun o' g' => by rw [keep _ _ g] at g'; cases g'; exact (hNI L hL).2 _ g⟩⟩
    refine codeAny_func (hb (s := { s with heap := h₁, toks := tk }) ⟨outer, by simp [Around.deeper, hA], hframe⟩ ⟨hsc, r.keeps keep rfl rfl, F, AX⟩ (h.mono (fun rr σ₁ z ρ₁ s₂ fl st₂ a₂ hf => ?_) fun σ₁ z e s₂ ep => ?_))
    · have stt : Step [] ρ s.heap ρ₁ s₂.heap := (st1.w0.trans st₂).drop fun a ha => .inr (hxs a ha)
      obtain ⟨fl', fr'⟩ := rr
      cases fl' with
      | ret mv =>
        obtain ⟨w, rfl, vw⟩ := hf
        exact z _ _ _ stt a₂.rel vw
      | next => simp only [VP] at hf; subst hf; exact z _ _ _ stt a₂.rel (by simp [VRel])
      | brk => simp only [VP] at hf; subst hf; exact z _ _ _ stt a₂.rel (by simp [VRel])
      | cont => simp only [VP] at hf; subst hf; exact z _ _ _ stt a₂.rel (by simp [VRel])
    · exact EPost.leave hA hframe (hnew _ (Nat.le_refl _)) hxs (ep.trans st1.w0) hin fun s'' ep' => z _ _ ep'
  · exact h.elim
theorem Xn6 {C : Wd} {k : Nat} {f : Addr} {oc : Value} {od : Option Addr} {osl : Array (Option Value)} {fd : FuncData} {body : List Stmt} {m : XM} (ps ds : List Sy) (ho : C.K.lookup f = some ⟨oc, od, .func fd, osl⟩) (hbody : fd.body = .stmts body) (hb : XSs C k fd.scope body m)
    (hbind : ∀ (s : Shared) (vs : List Value), vs.length = ps.length → C.K.In s.heap → BindsTo s fd ⟨vs, []⟩ (((ps ++ ds).map Sy.s).zip (vs ++ ds.map fun _ => Value.none)))
    (hcl : fd.closure = []) (hg : fd.globals = mainGlobals) (hbl : fd.builtins = builtinsNs) (hcode : codeIn C.K fd.code fd.qualname = true) (hloc : ∀ x ∈ ps ++ ds, fd.scope.names.lookup x.s = some .local) (hnd : (ps ++ ds).Nodup) (hcn : ((cellsFrom 0 fd.scope.names []).map (·.1)).Nodup)
    (hco : fd.scope.isCoroutine = false) (hgen : fd.scope.isGenerator = false) (hk : fd.scope.kind = .function) : FS C (k + 1) f (ZU ps ds m) := by
  intro A ρ σ s args vs G r ax v q
  exact Xii ps ds ho hbody (XlA hb) hbind hcl hg hbl hcode hloc hnd hcn hco hgen hk r ax v q
noncomputable def CS (C : Wd) (k : Nat) (f : Value) (m : List MV → Sg → R MV) : Prop :=
  ∀ ⦃A : Around⦄ ⦃ρ : List Loc⦄ ⦃σ : Sg⦄ ⦃s : Shared⦄ ⦃args : List MV⦄ ⦃vs : List Value⦄ ⦃Q : Value → Shared → Prop⦄ ⦃E : Value → Shared → Prop⦄, Rel C ρ σ s → Ax C k A ρ s.heap → VRels ρ s.heap args vs →
    (m args σ).Ok (QV C ρ s Q) (QE C A ρ s E) → wpAny (model C.prog C.w) A (call f vs) Q E s
theorem YN {C : Wd} {k : Nat} {f : Addr} {m : List MV → Sg → R MV} (h : FS C k f m) : CS C k (.ref f) m := fun _ _ _ _ _ _ _ _ r ax v q => wpAny_call (h r ax v q)
noncomputable def KeepS (C : Wd) (f : Value) : Prop := ∀ h, C.K.In h → ∃ k, (k = Keeper.frame ∨ k = Keeper.machine ∨ k = Keeper.boundFrame) ∧ Looks (model C.prog C.w) h (keeperOf f) k
theorem KeepS.ref {C : Wd} {f : Value} (h : keepIn C.K f = true) : KeepS C f := fun hh X => keeps_K h hh X
theorem KeepS.blt {C : Wd} {i : String} : KeepS C (.builtin i) := fun _ _ => ⟨.machine, .inr (.inl rfl), Looks.of_pure rfl⟩
theorem KeepS.typ {C : Wd} {i : String} : KeepS C (.type i) := fun _ _ => ⟨.machine, .inr (.inl rfl), Looks.of_pure rfl⟩
theorem Uw {M : Model} {A : Around} {E : Value → Shared → Prop} {s : Shared} {f : Value} {args : List (Bool × Sem Value)} {Q : Args → Shared → Prop} (hp : args.any (·.1) = false) (h : wpAny M A (spliced args) (fun vs s' => Q ⟨vs, []⟩ s') E s) : wpAny M A (evalArgs f true args []) Q E s := by
  cases args with
  | nil =>
    unfold evalArgs
    show wpAny M A (spliced [] >>= _) Q E s
    refine wpAny_bind (wpAny_mono h (fun vs s' h' => ?_) fun _ _ x => x)
    refine wpAny_bind (wpAny_pure ?_)
    refine wpAny_holding ?_
    exact wpAny_bind (wpAny_pure (wpAny_bind (wpAny_pure (wpAny_pure h'))))
  | cons p rest =>
    obtain ⟨b, x⟩ := p
    cases b with
    | true => simp at hp
    | false => exact Calls.evalArgs_plain h
theorem Xaq {C : Wd} {k : Nat} {sc : Scope} {A : Around} {env : Env} {fr : Fr} {ρ : List Loc} {σ : Sg} {s : Shared} {Q : Value → Shared → Prop} {E : Value → Shared → Prop} {pos : Pos} {f : Value} {first : List MV} {fv : List Value} {es : List Expr} {ms : EMs} {m : List MV → Sg → R MV}
    (a : At C k sc A env fr ρ σ s) (hf : CS C k f m) (hkp : KeepS C f) (hs : ESs C k sc es ms) (hv : VRels ρ s.heap first fv) (hp : ∀ env, (backTo pos (starEach es env)).any (·.1) = false)
    (h : ((ms fr σ).bind fun l σ => m (first ++ l) σ).Ok (QV C ρ s Q) (QE C A ρ s E)) : wpAny (model C.prog C.w) A (callWith pos f fv (backTo pos (starEach es env)) []) Q E s := by
  rw [R.Ok_bind] at h
  refine callWith_of (P := C.K.In) (by rw [hp]; rfl) hkp (Uw (hp env) (hs pos a (h.mono (fun l σ₁ h₁ ρ₁ s₁ ws st r vs => ⟨r.h.K, ?_⟩) fun _ x => x)))
  exact hf r (a.ax.step st) ((hv.step a.rel.h st).append vs) (h₁.mono (fun _ _ z => QV.chain z st) fun _ z => QE.chain z st)
noncomputable def XB (m : List MV → Sg → R MV) (args : EMs) : EM := fun fr σ => (args fr σ).bind fun l σ => m l σ
theorem Yq {C : Wd} {k : Nat} {sc : Scope} {n : Str} {np pos : Pos} {f : Value} {es : List Expr} {ms : EMs} {m : List MV → Sg → R MV} (hg : nsIn C.K mainGlobals n = some (some f)) (hkp : KeepS C f) (hf : CS C k f m) (hs : ESs C k sc es ms)
    (hsc : sc.names.lookup n = some .globalImplicit := by decide +kernel) (hd : (n == ("__debug__" : Str)) = false := by decide +kernel) (hp : ∀ pos env, (backTo pos (starEach es env)).any (·.1) = false := by intro _ _; rfl) : ES C k sc (.Call (.Name n np) es [] pos) (XB m ms) := by
  intro A env fr ρ σ s Q E a h
  refine wpAny_Call_ofName (XdR a hg hsc hd ?_)
  exact Xaq (first := []) (m := m) a hf hkp hs (by simp [VRels]) (hp pos) h
theorem YP {C : Wd} {k : Nat} {sc : Scope} {n : Str} {np pos : Pos} {f : Value} {es : List Expr} {ms : EMs} {m : List MV → Sg → R MV} (hg : nsIn C.K mainGlobals n = some none) (hb : bootBuiltins n = some f) (hkp : KeepS C f) (hf : CS C k f m) (hs : ESs C k sc es ms)
    (hn : n ≠ "__name__" := by decide +kernel) (hsc : sc.names.lookup n = some .globalImplicit := by decide +kernel) (hd : (n == ("__debug__" : Str)) = false := by decide +kernel) (hp : ∀ pos env, (backTo pos (starEach es env)).any (·.1) = false := by intro _ _; rfl) :
    ES C k sc (.Call (.Name n np) es [] pos) (XB m ms) := by
  intro A env fr ρ σ s Q E a h
  refine wpAny_Call_ofName (XhV a hg hb hn hsc hd ?_)
  exact Xaq (first := []) (m := m) a hf hkp hs (by simp [VRels]) (hp pos) h
noncomputable def ZN : List MV → Sg → R MV := fun args σ => match args with
  | [.ref i] => match σ[i]? with
    | some (.list l) => if l.length < 2 ^ 62 then rI l.length σ else .stuck
    | _ => .stuck
  | [.tup l] => if l.length < 2 ^ 62 then rI l.length σ else .stuck
  | [.arg l] => if l.length < 2 ^ 62 then rI l.length σ else .stuck
  | _ => .stuck
theorem QV.int' {C : Wd} {ρ : List Loc} {s : Shared} {σ : Sg} {Q : Value → Shared → Prop} {i : Int} {t : Nat} {h' : Heap} {tk : Nat} (h : QV C ρ s Q (.int i) σ) (r : Rel C ρ σ s) (k : ∀ b o, s.heap.get? b = some o → h'.get? b = some o) : Q (.int i t) { s with heap := h', toks := tk } :=
  h ρ { s with heap := h', toks := tk } _ (Step.keeps k) (r.keeps k rfl rfl) (by simp only [VRel]; exact ⟨_, rfl⟩)
theorem Vt {C : Wd} {k : Nat} : CS C k (.builtin "len") ZN := by
  intro A ρ σ s args vs Q E r ax v h
  cases args with
  | nil => exact h.elim
  | cons x rest =>
    cases x with
    | ref i =>
      cases rest with
      | cons y l => exact h.elim
      | nil =>
        revert h
        show (match σ[i]? with
          | some (.list l) => if l.length < 2 ^ 62 then rI l.length σ else .stuck
          | _ => .stuck : R MV).Ok _ _ → _
        cases q : σ[i]? with
        | none => exact False.elim
        | some o =>
          cases o with
          | inst => exact False.elim
          | dict => exact False.elim
          | list l =>
            dsimp only
            by_cases hl : l.length < 2 ^ 62
            · rw [if_pos hl]
              intro h
              simp only [VRels] at v
              refine @cps _ fun Γ γ => ?_
              obtain ⟨w, ws, rfl, v1, rfl⟩ := v
              obtain ⟨a1, xs, rfl, p1, l1, vv⟩ := r.h.list q v1
              refine γ ?_; clear γ Γ
              have el := vv.length
              simp only [Array.length_toList] at el
              refine Calls.call_len_list l1.isList (by lia) ?_
              rw [el]
              exact QV.int h r
            · rw [if_neg hl]; exact False.elim
    | tup l =>
      cases rest with
      | cons y l => exact h.elim
      | nil =>
        revert h
        show (if l.length < 2 ^ 62 then rI l.length σ else .stuck : R MV).Ok _ _ → _
        by_cases hl : l.length < 2 ^ 62
        · rw [if_pos hl]
          intro h
          simp only [VRels, VRel] at v
          refine @cps _ fun Γ γ => ?_
          obtain ⟨w, ws, rfl, ⟨a1, xs, rfl, t1, vv⟩, rfl⟩ := v
          refine γ ?_; clear γ Γ
          have el := vv.length
          simp only [Array.length_toList] at el
          refine PyProof.Rows.len_tuple t1 (by lia) ?_
          rw [el]
          exact QV.int h r
        · rw [if_neg hl]; exact False.elim
    | arg l =>
      cases rest with
      | cons y l => exact h.elim
      | nil =>
        revert h
        show (if l.length < 2 ^ 62 then rI l.length σ else .stuck : R MV).Ok _ _ → _
        by_cases hl : l.length < 2 ^ 62
        · rw [if_pos hl]
          intro h
          simp only [VRels, VRel] at v
          refine @cps _ fun Γ γ => ?_
          obtain ⟨w, ws, rfl, ⟨a1, xs, rfl, n1, t1, vv⟩, rfl⟩ := v
          refine γ ?_; clear γ Γ
          have el := vv.length
          simp only [Array.length_toList] at el
          refine Calls.call_len_list t1 (by lia) ?_
          rw [el]
          exact QV.int h r
        · rw [if_neg hl]; exact False.elim
    | _ => exact h.elim
noncomputable def Xa1 : List MV → Sg → R MV := fun args σ => match args with
  | [.int i] => rI i σ
  | [.bool b] => rI (if b then 1 else 0) σ
  | _ => .stuck
theorem Xaz {C : Wd} {k : Nat} : CS C k (.type "int") Xa1 := by
  intro A ρ σ s args vs Q E r ax v h
  cases args with
  | nil => exact h.elim
  | cons x rest =>
    cases x with
    | int i =>
      cases rest with
      | cons y l => exact h.elim
      | nil =>
        simp only [VRels, VRel] at v
        refine @cps _ fun Γ γ => ?_
        obtain ⟨w, ws, rfl, ⟨t, rfl⟩, rfl⟩ := v
        refine γ ?_; clear γ Γ
        exact call_int_int (QV.int (t := s.toks) h r)
    | bool b =>
      cases rest with
      | cons y l => exact h.elim
      | nil =>
        simp only [VRels, VRel] at v
        refine @cps _ fun Γ γ => ?_
        obtain ⟨w, ws, rfl, rfl, rfl⟩ := v
        refine γ ?_; clear γ Γ
        exact call_int_bool (QV.int h r)
    | _ => exact h.elim
noncomputable def Xk5 : List MV → Sg → R MV := fun args σ => match args with
  | [.int a, .int b] => rI (max a b) σ
  | _ => .stuck
theorem Xob {C : Wd} {k : Nat} : CS C k (.builtin "max") Xk5 := by
  intro A ρ σ s args vs Q E r ax v h
  rcases args with _ | ⟨x, _ | ⟨y, _ | ⟨z, l⟩⟩⟩
  · exact h.elim
  · cases x <;> exact h.elim
  · cases x with
    | int a =>
      cases y with
      | int b =>
        simp only [VRels, VRel] at v
        refine @cps _ fun Γ γ => ?_
        obtain ⟨w, ws, rfl, ⟨t, rfl⟩, w', ws', rfl, ⟨u, rfl⟩, rfl⟩ := v
        refine γ ?_; clear γ Γ
        refine max_two_ints ax.hd fun h' tk hk => ?_
        have h' : QV C ρ s Q (.int (max a b)) σ := h
        split
        · rw [show max a b = b from Int.max_eq_right (Int.le_of_lt (by assumption))] at h'
          exact QV.int' h' r hk
        · rw [show max a b = a from Int.max_eq_left (Int.not_lt.mp (by assumption))] at h'
          exact QV.int' h' r hk
      | _ => exact h.elim
    | _ => exact h.elim
  · cases x with
    | int a => cases y <;> exact h.elim
    | _ => exact h.elim
noncomputable def Wo (c : Cl) (m : List MV → Sg → R MV) : List MV → Sg → R MV := fun args σ => (m (.ref σ.length :: args) (σ ++ [.inst c []])).bind fun v σ' => match v with
  | .none => .ok (.ref σ.length) σ'
  | _ => .stuck
theorem Xon {C : Addr} {vs : List Value} : (Code.builtin "type.__call__" ⟨.ref C :: vs, []⟩).weight = 1 := by rfl
theorem Ax.tc {C : Wd} {k : Nat} {A : Around} {ρ : List Loc} {h : Heap} {c : Addr} {vs : List Value} (a : Ax C (k + 1) A ρ h) : Ax C k (A.under (.builtin "type.__call__" ⟨.ref c :: vs, []⟩)) ρ h := by
  have hw : (Code.builtin "type.__call__" ⟨.ref c :: vs, []⟩).weight = 1 := by rfl
  have hu : (Code.builtin "type.__call__" ⟨.ref c :: vs, []⟩).cUnits = 1 := by rfl
  have he : (Code.builtin "type.__call__" ⟨.ref c :: vs, []⟩).envs = [] := by rfl
  refine ⟨?_, ?_, a.hd, ?_⟩
  · show A.depth + _ + k < _
    rw [hw]; exact XmE a.depth
  · show A.units + _ + 8 * k + 16 < _
    rw [hu]; exact Xpf a.units
  · obtain ⟨l, e, f⟩ := a.fr
    refine ⟨l, ?_, f⟩
    show pushEnvs (Code.builtin "type.__call__" ⟨.ref c :: vs, []⟩).envs A.frames = some l
    rw [he]; exact e
theorem XcS {C : Wd} {k : Nat} {c : Cl} {fI : Addr} {m : List MV → Sg → R MV} (hm : makesIn C.K c.addr = true) (hi : findIn C.K (.ref c.addr) "__init__" = some (some (.ref fI))) (hf : typeIn C.K (.ref fI) = some (.type "function")) (h : FS C k fI m) :
    CS C (k + 1) (.ref c.addr) (Wo c m) := by
  intro A ρ σ s args vs Q E r ax v q
  unfold Wo at q
  rw [R.Ok_bind] at q
  refine @cps _ fun Γ γ => ?_
  obtain ⟨hh, g, d, t, os⟩ := s
  refine γ ?_; clear γ Γ
  have X := r.h.K
  have k1 : ∀ b o, hh.get? b = some o → ((hh.push emptyDict).push (instObj c.addr hh.objs.size)).get? b = some o := fun b o e => Heap.get?_push_of_some _ (Heap.get?_push_of_some _ e)
  have hn1 : hh.get? hh.objs.size = none := Heap.size_none hh
  have hn2 : hh.get? (hh.objs.size + 1) = none := by
    cases e : hh.get? (hh.objs.size + 1) with
    | none => rfl
    | some o => exact absurd (Heap.lt_size e) (Nat.not_lt.mpr (Nat.le_succ _))
  have hp : ∀ a, Loc.has (hh.objs.size + 1, hh.objs.size) a → hh.get? a = none := fun a ha => ha.elim (fun e => by rw [e]; exact hn2) fun e => by rw [e]; exact hn1
  have hx : ((hh.push emptyDict).push (instObj c.addr hh.objs.size)).get? (hh.objs.size + 1) = some (instObj c.addr hh.objs.size) := by
    have := Heap.get?_push_size (hh.push emptyDict) (o := instObj c.addr hh.objs.size) rfl
    rwa [Heap.size_push] at this
  have hd : ((hh.push emptyDict).push (instObj c.addr hh.objs.size)).get? hh.objs.size = some emptyDict := Heap.get?_push_of_some _ (Heap.get?_push_size _ rfl)
  have st : Step [] ρ hh (ρ ++ [(hh.objs.size + 1, hh.objs.size)]) ((hh.push emptyDict).push (instObj c.addr hh.objs.size)) := Step.grow1 k1 hp
  have r' : Rel C (ρ ++ [(hh.objs.size + 1, hh.objs.size)]) (σ ++ [.inst c []]) ⟨(hh.push emptyDict).push (instObj c.addr hh.objs.size), g, d, t, os⟩ :=
    ⟨r.h.grow k1 hp ⟨by simp, fun _ => none, _, _, #[], 0, hx, hd, rfl, rfl, (fun e he => by simp at he), fun _ => rfl, Nat.zero_le _, fun x v e => by simp at e, fun _ _ => rfl⟩, r.gens, r.os⟩
  have hself : VRel (ρ ++ [(hh.objs.size + 1, hh.objs.size)]) ((hh.push emptyDict).push (instObj c.addr hh.objs.size)) (.ref σ.length) (.ref (hh.objs.size + 1)) := by
    simp only [VRel]
    exact ⟨(hh.objs.size + 1, hh.objs.size), by rw [← r.h.len]; simp, rfl⟩
  refine wpAny_call (make_core (makes_of X hm) (looks_findIn X hi) (fun self => bind_fn X self hf) (.inl rfl) ?_)
  refine h (args := .ref σ.length :: args) r' ((ax.step st).tc) (by simp only [VRels]; exact ⟨_, _, rfl, hself, v.step r.h st⟩) (q.mono (fun mv σ₁ z ρ₁ s₁ w st₁ r₁ vw => ?_) fun σ₁ z e s₁ ep => ?_)
  · cases mv with
    | none =>
      simp only [VRel] at vw
      subst vw
      exact ⟨rfl, z ρ₁ s₁ _ (st.trans st₁) r₁ (hself.step r'.h st₁)⟩
    | _ => exact z.elim
  · refine z e s₁ ?_
    refine @cps _ fun Γ γ => ?_
    obtain ⟨ρ', B, l, a, f, e1, ex, r2, st2, g2, o2, k2⟩ := EPost.trans ep st
    refine γ ?_; clear γ Γ
    refine ⟨ρ', B, l, a, ?_, e1, ex, r2, st2, g2, o2, k2⟩
    have he : (Code.builtin "type.__call__" ⟨.ref c.addr :: vs, []⟩).envs = [] := by rfl
    have : pushEnvs (Code.builtin "type.__call__" ⟨.ref c.addr :: vs, []⟩).envs A.frames = some l := f
    rw [he] at this
    exact this
structure MethOk (C : Wd) (c : Cl) (n : Str) (f : Addr) : Prop where
  get : findIn C.K (.ref c.addr) "__getattribute__" = some (some (.builtin "object.__getattribute__"))
  get2 : findIn C.K (.ref c.addr) "__getattr__" = some none
  find : findIn C.K (.ref c.addr) n = some (some (.ref f))
  fn : typeIn C.K (.ref f) = some (.type "function")
  keep : keepIn C.K (.ref f) = true
noncomputable def Xbn (l : List (Sy × MV)) : Option Sy → Bool
  | some x => (l.lookup x).isNone
  | none => true
noncomputable def Ua (c : Cl) (nm : Option Sy) (m : List MV → Sg → R MV) (o : EM) (args : EMs) : EM := fun fr σ => (o fr σ).bind fun ov σ => match ov with
  | .ref i => match σ[i]? with
    | some (.inst c' l) => if c' = c ∧ Xbn l nm = true then (args fr σ).bind fun as σ => m (.ref i :: as) σ else .stuck
    | _ => .stuck
  | _ => .stuck
noncomputable def Xod (n : Str) : Option Sy → Prop
  | some x => n = x.s
  | none => (Sy.list.all fun y => y.s != n) = true
theorem Xhv {l : List (Sy × MV)} {nm : Option Sy} {n : Str} (h : Xbn l nm = true) (hn : Xod n nm) : ∀ y v, l.lookup y = some v → y.s ≠ n := by
  cases nm with
  | some x =>
    intro y v e z
    have hn : n = x.s := hn
    rw [hn] at z
    have := Sy.inj z
    subst this
    simp only [Xbn] at h
    rw [e] at h; cases h
  | none =>
    intro y v e z
    have := List.all_eq_true.mp hn y y.mem_list
    rw [z] at this
    simp at this
theorem ZS {C : Wd} {k : Nat} {sc : Scope} {o : Expr} {n : Str} {apos pos : Pos} {es : List Expr} {c : Cl} {f : Addr} {nm : Option Sy} {m : List MV → Sg → R MV} {mo : EM} {ms : EMs} (ok : MethOk C c n f) (hf : FS C k f m) (ho : ES C k sc o mo) (hs : ESs C k sc es ms) (hn : Xod n nm)
    (he : ∀ env, eval (.Call (.Attribute o n apos) es [] pos) env = (do
      let ov ← eval o env
      standAt apos.atName
      let (f, first) ← holding [ov] (getMethod ov n (do return (← importBound o env).getD true))
      callWith pos f first (backTo pos (starEach es env)) (backToKw pos (keywordEach [] env))) := by intro _; rfl)
    (hp : ∀ pos env, (backTo pos (starEach es env)).any (·.1) = false := by intro _ _; rfl) : ES C k sc (.Call (.Attribute o n apos) es [] pos) (Ua c nm m mo ms) := by
  intro A env fr ρ σ s Q E a h
  unfold Ua at h
  rw [R.Ok_bind] at h
  refine methodCall_KW (ho a (h.mono (fun mv σ₁ h₁ ρ₁ s₁ w st r v => ?_) fun _ x => x)) (he env)
  cases mv with
  | ref i =>
    dsimp only at h₁
    cases q : σ₁[i]? with
    | none => rw [q] at h₁; exact h₁.elim
    | some o =>
      cases o with
      | inst c' l =>
        rw [q] at h₁
        refine @cps _ fun Γ γ => ?_
        obtain ⟨⟨rfl, hfree⟩, h₂⟩ := Vr h₁
        obtain ⟨x, d, m', sl, od, es', ep, rfl, hp', _, g, g2, c2, d1, d2, d3, d4, F⟩ := r.h.inst q v
        refine γ ?_; clear γ Γ
        refine method_fn r.h.K (Xhn g g2) ok.get ok.get2 ok.find ok.fn ?_ ?_
        · show (lookIn n od).map (·.isSome) = some false
          rw [Xex d1 d2 d3, F.2 n (Xhv hfree hn)]
          rfl
        · exact Xaq (first := [.ref i]) (m := m) (a.next st r) (YN hf) (KeepS.ref ok.keep) hs (VRels.one v) (hp pos) (h₂.mono (fun _ _ z => QV.chain z st) fun _ z => QE.chain z st)
      | _ => rw [q] at h₁; exact h₁.elim
  | _ => exact h₁.elim
noncomputable abbrev Xca (h : Heap) (a : Addr) : Prop := ∃ o vs, h.get? a = some o ∧ o.data = .fields vs
theorem RelH.ext {C : Wd} {ρ : List Loc} {σ : Sg} {h h' : Heap} {a : Addr} (r : RelH C ρ σ h) (h0 : C.h₀.get? a = none) (hf : Xca h a) (hs : Heap.ExtBut a h h') : Kept ρ h ρ h' ∧ RelH C ρ σ h' := by
  refine @cps _ fun Γ γ => ?_
  obtain ⟨oa, va, ga, da⟩ := hf
  refine γ ?_; clear γ Γ
  have ni : ¬ In ρ a := fun z => by
    refine @cps _ fun Γ γ => ?_
    obtain ⟨o, g, _, _, d⟩ := r.kind z
    refine γ ?_; clear γ Γ
    rw [ga] at g; cases g; exact d _ da
  have kp : Kept ρ h ρ h' := ⟨fun _ _ e => e, fun b vs t => by
    refine @cps _ fun Γ γ => ?_
    obtain ⟨o, g, c, n, d⟩ := t
    refine γ ?_; clear γ Γ
    exact ⟨o, hs b o (fun z => by subst z; rw [ga] at g; cases g; rw [d] at da; cases da) g, c, n, d⟩, fun b vs nb t => ⟨nb, by
    refine @cps _ fun Γ γ => ?_
    obtain ⟨o, g, c, n, d⟩ := t
    refine γ ?_; clear γ Γ
    exact ⟨o, hs b o (fun z => by subst z; rw [ga] at g; cases g; rw [d] at da; cases da) g, c, n, d⟩⟩⟩
  exact ⟨kp, fun b o e => hs b o (fun z => by subst z; rw [h0] at e; cases e) (r.stays b o e), r.len, fun j q o e1 e2 => (r.objs j q o e1 e2).mono kp fun b ob hb e => hs b ob (fun z => ni ⟨j, q, e1, z ▸ hb⟩) e, r.own, r.above⟩
theorem XmP {a : Addr} {h h' : Heap} (x : Heap.SameBut a h h') : Heap.ExtBut a h h' := x.extBut
theorem At.ext {C : Wd} {k : Nat} {sc : Scope} {A : Around} {env : Env} {fr : Fr} {ρ : List Loc} {σ : Sg} {s : Shared} {h' : Heap} {a : Addr} (tk : Nat) (t : At C k sc A env fr ρ σ s) (h0 : C.h₀.get? a = none) (hf : Xca s.heap a) (hs : Heap.ExtBut a s.heap h') :
    At C k sc A env fr ρ σ { s with heap := h', toks := tk } ∧ Kept ρ s.heap ρ h' := by
  refine @cps _ fun Γ γ => ?_
  obtain ⟨kp, r'⟩ := t.rel.h.ext h0 hf hs
  obtain ⟨oa, va, ga, da⟩ := hf
  refine γ ?_; clear γ Γ
  have ncell : ∀ c v, s.heap.IsCell c v → h'.IsCell c v := fun c v b => by
    obtain ⟨o, g, d⟩ := b
    exact ⟨o, hs c o (fun z => by subst z; rw [ga] at g; cases g; rw [d] at da; cases da) g, d⟩
  refine ⟨⟨t.sc, ⟨r', t.rel.gens, t.rel.os⟩, ?_, ⟨t.ax.depth, t.ax.units, t.ax.hd, ?_⟩⟩, kp⟩
  · obtain ⟨m, hn, hv⟩ := t.fr.ns
    have hL : env.locals ≠ a := fun z => by
      refine @cps _ fun Γ γ => ?_
      obtain ⟨o, es, ep, g, d, _⟩ := hn
      refine γ ?_; clear γ Γ
      rw [z, ga] at g; cases g; rw [d] at da; cases da
    refine ⟨t.fr.kind, t.fr.glob, t.fr.blt, t.fr.sep, t.fr.new, ⟨m, hn.extBut hs hL, fun x v e => ?_⟩, t.fr.inj, fun c hc => let ⟨v, b⟩ := t.fr.cells c hc; ⟨v, ncell c v b⟩, fun x e => ?_⟩
    · obtain ⟨w, a1, b1⟩ := hv x v e
      exact ⟨w, a1.mono kp, b1.imp id fun ⟨b1, c, b2, b3⟩ => ⟨b1, c, b2, ncell _ _ b3⟩⟩
    · obtain ⟨c, v, a1, b1, d1⟩ := t.fr.alive x e
      exact ⟨c, v, a1, ncell _ _ b1, d1⟩
  · obtain ⟨l, e, f, n⟩ := t.ax.fr
    refine ⟨l, e, ?_, fun L hL => ⟨(n L hL).1, fun o' g' => ?_⟩⟩
    rotate_left
    · obtain ⟨o, g⟩ := Wc f L hL
      have hne : L ≠ a := fun z => by
        refine @cps _ fun Γ γ => ?_
        obtain ⟨_, o1, g1, hd⟩ := WL f L hL
        refine γ ?_; clear γ Γ
        subst z; rw [ga] at g1; cases g1; exact hd _ da
      rw [hs L o hne g] at g'; cases g'; exact (n L hL).2 _ g
    clear e n
    induction l with
    | nil => trivial
    | cons env' l ih =>
      refine @cps _ fun Γ γ => ?_
      obtain ⟨hk, ⟨L, o, hf', hn, ho, hd⟩, hr⟩ := f
      refine γ ?_; clear γ Γ
      exact ⟨hk, ⟨L, o, hf', hn, hs L o (fun z => by subst z; rw [ga] at ho; cases ho; exact hd _ da) ho, hd⟩, ih hr⟩
theorem Step.ext {xs : List Addr} {ρ ρ' : List Loc} {h h₁ h' : Heap} {a : Addr} (st : Step xs ρ h ρ' h₁) (hn : h.get? a = none) (hs : Heap.ExtBut a h₁ h') : Step xs ρ h ρ' h' :=
  ⟨st.grow, fun b o e => by
    refine @cps _ fun Γ γ => ?_
    obtain ⟨o', g, d, z⟩ := st.evo b o e
    refine γ ?_; clear γ Γ
    exact ⟨o', hs b o' (fun q => by rw [q, hn] at e; cases e) g, d, z⟩⟩
inductive OkT : Expr → Prop
  | name {a : Str} {b : Pos} : OkT (.Name a b)
  | tup {es : List Expr} {x : Nat} {p : Pos} : OkT (.Tuple es x p)
structure Itr (C : Wd) (it : Addr) (nx : Nat → Sg → Option (Option MV)) (J : Nat → List Loc → Heap → Prop) : Prop where
  fields : ∀ k ρ h, J k ρ h → Xca h it
  frame : ∀ k ρ h ρ' h', J k ρ h → (∀ (i : Nat) (p : Loc), ρ[i]? = some p → ρ'[i]? = some p) → (∀ o, h.get? it = some o → h'.get? it = some o) → J k ρ' h'
  item : ∀ {A : Around} {ρ : List Loc} {σ : Sg} {s : Shared} {k : Nat} {v : MV} {Q : Option Value → Shared → Prop} {E : Value → Shared → Prop}, Rel C ρ σ s → J k ρ s.heap → nx k σ = some (some v) →
    (∀ h' tk w, Heap.ExtBut it s.heap h' → J (k + 1) ρ h' → VRel ρ s.heap v w → Q (some w) { s with heap := h', toks := tk }) → wpAny (model C.prog C.w) A (pyNext (.ref it)) Q E s
  stop : ∀ {A : Around} {ρ : List Loc} {σ : Sg} {s : Shared} {k : Nat} {Q : Option Value → Shared → Prop} {E : Value → Shared → Prop}, A.handled = none → Rel C ρ σ s → J k ρ s.heap → nx k σ = some none →
    (∀ h' tk, Heap.ExtBut it s.heap h' → Q none { s with heap := h', toks := tk }) → wpAny (model C.prog C.w) A (pyNext (.ref it)) Q E s
  go : ∀ {A : Around} {ρ : List Loc} {s : Shared} {k : Nat} {v : Value} {target : Expr} {Q : Unit → Shared → Prop} {E : Value → Shared → Prop}, J k ρ s.heap → OkT target → Q () s → wpAny (model C.prog C.w) A (letOwnedTupleGo target (.ref it) v) Q E s
  self : ∀ {A : Around} {ρ : List Loc} {s : Shared} {k : Nat} {Q : Value → Shared → Prop} {E : Value → Shared → Prop}, J k ρ s.heap → Q (.ref it) s → wpAny (model C.prog C.w) A (pyIter (.ref it)) Q E s
noncomputable def nxL (i : Nat) : Nat → Sg → Option (Option MV) := fun k σ => match σ[i]? with
  | some (.list l) => some l[k]?
  | _ => none
theorem Itr.list {C : Wd} {it a : Addr} {i : Nat} (hne : a ≠ it) : Itr C it (nxL i) (fun k ρ h => h.IsListIter it a k ∧ ρ[i]? = some (a, a)) where
  fields := fun k ρ h ⟨⟨o, g, c, d⟩, _⟩ => ⟨o, _, g, d⟩
  frame := fun k ρ h ρ' h' ⟨⟨o, g, c, d⟩, e⟩ hr hk => ⟨⟨o, hk o g, c, d⟩, hr _ _ e⟩
  item := by
    intro A ρ σ s k v Q E r j e h
    obtain ⟨hit, hp⟩ := j
    unfold nxL at e
    split at e
    · rename_i l q
      refine @cps _ fun Γ γ => ?_
      obtain ⟨_, vs, hl, vv⟩ := r.h.objs i _ _ hp q
      refine γ ?_; clear γ Γ
      simp only [Option.some.injEq] at e
      obtain ⟨w, hw, vw⟩ := vv.get e
      exact wpAny_pyNext_list_item hit hl.isList (by simpa using hw) fun h' hit' hs => h h' s.toks w hs.extBut ⟨hit', hp⟩ vw
    · cases e
  stop := by
    intro A ρ σ s k Q E hh r j e h
    obtain ⟨hit, hp⟩ := j
    unfold nxL at e
    split at e
    · rename_i l q
      refine @cps _ fun Γ γ => ?_
      obtain ⟨_, vs, hl, vv⟩ := r.h.objs i _ _ hp q
      refine γ ?_; clear γ Γ
      simp only [Option.some.injEq] at e
      have el := vv.length
      have : vs[k]? = none := by
        rw [List.getElem?_eq_none_iff] at e
        rw [Array.getElem?_eq_none_iff]
        simp only [Array.length_toList] at el
        lia
      exact wpAny_pyNext_list_end hh hit hl.isList this fun h' hs => h h' s.toks hs
    · cases e
  go := by
    intro A ρ s k v target Q E j ht q
    cases ht with
    | name => exact wpAny_pure q
    | tup =>
      cases v with
      | ref T => exact wpAny_letOwnedTupleGo_listiter j.1 q
      | _ => exact wpAny_pure q
  self := fun j q => wpAny_pyIter_listiter j.1 q
noncomputable def nxR (n : Int) : Nat → Sg → Option (Option MV) := fun k _ => if (k : Int) < n then some (some (.int k)) else some none
theorem Itr.range {C : Wd} {it : Addr} {n : Int} : Itr C it (nxR n) (fun k _ h => IsRangeIter h it k (max n 0 - k) 1) where
  fields := fun k ρ h j => ⟨_, _, j, rfl⟩
  frame := fun k ρ h ρ' h' j hr hk => hk _ j
  item := by
    intro A ρ σ s k v Q E r j e h
    unfold nxR at e
    split at e
    · rename_i hlt
      cases e
      refine wpAny_pyNext_range_item j (by lia) fun h' j' hs => h h' _ _ hs.extBut ?_ (by simp only [VRel]; exact ⟨_, rfl⟩)
      have e1 : ((k : Int) + 1) = ((k + 1 : Nat) : Int) := by push_cast; rfl
      have e2 : max n 0 - (k : Int) - 1 = max n 0 - ((k + 1 : Nat) : Int) := by push_cast; lia
      rw [e1, e2] at j'
      exact j'
    · cases e
  stop := by
    intro A ρ σ s k Q E hh r j e h
    unfold nxR at e
    split at e
    · cases e
    · exact wpAny_pyNext_range_end hh j (by lia) fun h' hs => h h' s.toks hs
  go := by
    intro A ρ s k v target Q E j ht q
    have j : IsRangeIter s.heap it k (max n 0 - k) 1 := j
    cases ht with
    | name => exact wpAny_pure q
    | tup =>
      cases v with
      | ref T =>
        unfold letOwnedTupleGo
        refine wpAny_bind (wpAny_load j ?_)
        dsimp only
        rw [if_neg (by
          intro h
          rw [show (["enumerate", "zip", "dict_itemiterator", "dict_reverseitemiterator", "odict_iterator", "itertools.zip_longest", "itertools.pairwise"].contains "range_iterator") = false from by decide, Bool.false_and] at h
          cases h)]
        exact wpAny_pure q
      | _ => exact wpAny_pure q
  self := fun j q => wpAny_pyIter_rangeiter j q
noncomputable def Zf {α : Type} : R α → R α
  | .exc _ => .stuck
  | r => r
theorem VA {α : Type} {r : R α} {P : α → Sg → Prop} {X : Sg → Prop} (h : (Zf r).Ok P X) : r.Ok P (fun _ => False) := by
  cases r with
  | stuck => exact h
  | ok => exact h
  | exc => exact h.elim
noncomputable def loopI (nx : Nat → Sg → Option (Option MV)) (t : TM) (b : XM) : Nat → Nat → Fr → Sg → R (Fl × Fr)
  | 0, _, _, _ => .stuck
  | n + 1, k, fr, σ => match nx k σ with
    | none => .stuck
    | some none => .ok (.next, fr) σ
    | some (some v) => (Zf ((t v fr σ).bind fun fr σ => b fr σ)).bind fun r σ => match r with
      | (.next, fr) => loopI nx t b n (k + 1) fr σ
      | (.cont, fr) => loopI nx t b n (k + 1) fr σ
      | (.brk, fr) => .ok (.next, fr) σ
      | (.ret v, fr) => .ok (.ret v, fr) σ
theorem UW {nx : Nat → Sg → Option (Option MV)} {t : TM} {b : XM} {n k : Nat} {fr : Fr} {σ : Sg} : loopI nx t b (n + 1) k fr σ = match nx k σ with
    | none => .stuck
    | some none => .ok (.next, fr) σ
    | some (some v) => (Zf ((t v fr σ).bind fun fr σ => b fr σ)).bind fun r σ => match r with
      | (.next, fr) => loopI nx t b n (k + 1) fr σ
      | (.cont, fr) => loopI nx t b n (k + 1) fr σ
      | (.brk, fr) => .ok (.next, fr) σ
      | (.ret v, fr) => .ok (.ret v, fr) σ := rfl
theorem Xht {prog : Program} {w : World} {A : Around} {s : Shared} {R : Result → Shared → Prop} {target it body env} (I : Nat → Shared → Prop)
    (turn : ∀ n s, I n s → wpAny (model prog w) A (pyNext it) (fun r s₁ => match r with
      | none => R (.ok .next) s₁
      | some v => wpAny (model prog w) A (letOwnedTupleGo target it v) (fun _ s₁' => wpAny (model prog w) A (assign target env v) (fun _ s₂ => wpAny (model prog w) A (execs body env) (fun f s₃ => match f with
          | .next | .cont => ∃ m, m < n ∧ I m s₃
          | .brk => R (.ok .next) s₃
          | .ret v => R (.ok (.ret v)) s₃) (fun _ _ => False) s₂) (fun _ _ => False) s₁') (fun _ _ => False) s₁) (fun _ _ => False) s)
    (n : Nat) (h : I n s) : codeAny (model prog w) A (.forLoop target it body [] env) R s := by
  refine codeAny_loop' rfl I (fun n s hI => ?_) n h
  show wpAny _ _ ((forTurn target it body [] env).onRaise (fun x => do noteFrame x env; theTreesLotGoes x)) _ _ s
  refine wpAny_noted ?_
  simp only [forTurn]
  refine wpAny_bind (wpAny_standAt (wpAny_bind (wpAny_onRaise (wpAny_mono (turn n s hI) (fun r s₁ h₁ => ?_) fun _ _ h' => h'.elim))))
  cases r with
  | none => exact wpAny_pure (.inr ⟨rfl, codeAny_block (wpAny_execs_nil h₁)⟩)
  | some v =>
    refine wpAny_bind (wpAny_mono h₁ (fun _ s₁' h₁' => ?_) fun _ _ h' => h'.elim)
    refine wpAny_bind (wpAny_mono h₁' (fun _ s₂ h₂ => wpAny_bind (wpAny_mono h₂ (fun f s₃ h₃ => ?_) fun _ _ h' => h'.elim)) fun _ _ h' => h'.elim)
    cases f with
    | next => exact wpAny_pure (.inl ⟨rfl, h₃⟩)
    | cont => exact wpAny_pure (.inl ⟨rfl, h₃⟩)
    | brk => exact wpAny_pure h₃
    | ret v => exact wpAny_pure h₃
theorem VH {C : Wd} {k : Nat} {sc : Scope} {A : Around} {env : Env} {fr : Fr} {ρ ρ' : List Loc} {σ : Sg} {s : Shared} {h' : Heap} {it : Addr} {b : Bool} (a : At C k sc A env fr ρ σ s) (st : Step (xsB b env) ρ s.heap ρ' h') (hf : Xca s.heap it) : ∀ o, s.heap.get? it = some o → h'.get? it = some o := fun o g => by
  refine @cps _ fun Γ γ => ?_
  obtain ⟨oa, va, ga, da⟩ := hf
  refine γ ?_; clear γ Γ
  rw [g] at ga; cases ga
  refine @cps _ fun Γ γ => ?_
  obtain ⟨o', g', _, z⟩ := st.evo it o g
  refine γ ?_; clear γ Γ
  have ni : ¬ In ρ it := fun q => by
    refine @cps _ fun Γ γ => ?_
    obtain ⟨o2, g2, _, _, d2⟩ := a.rel.h.kind q
    refine γ ?_; clear γ Γ
    rw [g] at g2; cases g2; exact d2 _ da
  have nx : it ∉ xsB b env := fun q => by
    rcases List.mem_cons.mp (Xb2 _ q) with rfl | q
    · obtain ⟨m, hn, _⟩ := a.fr.ns
      refine @cps _ fun Γ γ => ?_
      obtain ⟨o2, es, ep, g2, d2, _⟩ := hn
      refine γ ?_; clear γ Γ
      rw [g] at g2; cases g2; rw [d2] at da; cases da
    · obtain ⟨v, o2, g2, d2⟩ := a.fr.cells it q
      rw [g] at g2; cases g2; rw [d2] at da; cases da
  obtain ⟨sl, rfl, f⟩ := z ni nx
  rw [g', f ⟨va, da⟩]
theorem Xes {C : Wd} {k : Nat} {sc : Scope} {A : Around} {env : Env} {fr : Fr} {ρ ρ₁ : List Loc} {σ : Sg} {s s₁ : Shared} {it : Addr} {nx : Nat → Sg → Option (Option MV)} {J : Nat → List Loc → Heap → Prop} {target : Expr} {body : List Stmt} {t : TM} {b : XM} {n : Nat} {RR : Result → Shared → Prop} {Q : Flow → Shared → Prop}
    (I : Itr C it nx J) (ht : TS C k sc true target t) (hb : XSs C k sc body b) (hok : OkT target) (hn : s.heap.get? it = none) (h0 : C.h₀.get? it = none) (a : At C k sc A env fr ρ₁ σ s₁) (st : Step (XaP env) ρ s.heap ρ₁ s₁.heap) (j : J 0 ρ₁ s₁.heap)
    (h : (loopI nx t b n 0 fr σ).Ok (QX C k sc A env ρ s Q) (fun _ => False)) (hQ : ∀ f s', Q f s' → RR (.ok f) s') : codeAny (model C.prog C.w) A (.forLoop target (.ref it) body [] env) RR s₁ := by
  refine Xht (fun m s' => ∃ i fr' ρ' σ', At C k sc A env fr' ρ' σ' s' ∧ Step (XaP env) ρ s.heap ρ' s'.heap ∧ J i ρ' s'.heap ∧ (loopI nx t b m i fr' σ').Ok (QX C k sc A env ρ s Q) (fun _ => False)) (fun m s' z => ?_) n ⟨0, fr, ρ₁, σ, a, st, j, h⟩
  refine @cps _ fun Γ γ => ?_
  obtain ⟨i, fr', ρ', σ', a', st', j', q⟩ := z
  refine γ ?_; clear γ Γ
  cases m with
  | zero => exact q.elim
  | succ m =>
    rw [UW] at q
    have hf := I.fields _ _ _ j'
    split at q
    · exact q.elim
    · rename_i e
      refine I.stop a'.ax.hd a'.rel j' e fun h' tk hs => ?_
      exact hQ _ _ (q ρ' _ _ (st'.ext hn hs) (a'.ext tk h0 hf hs).1 rfl)
    · rename_i v e
      rw [R.Ok_bind] at q
      have q := VA q
      rw [R.Ok_bind] at q
      refine I.item a'.rel j' e fun h' tk w hs j2 vw => ?_
      obtain ⟨a2, kp⟩ := a'.ext tk h0 hf hs
      have st2 := st'.ext hn hs
      refine I.go (s := { s' with heap := h', toks := tk }) j2 hok ?_
      refine ht a2 (vw.mono kp) (q.mono (fun fr2 σ2 z ρ3 s3 st3 a3 => ?_) fun _ x => x.elim)
      have j3 := I.frame _ _ _ ρ3 s3.heap j2 st3.incl (VH a2 st3 (I.fields _ _ _ j2))
      refine hb a3 (z.mono (fun rr σ4 z4 ρ4 s4 f st4 a4 hfl => ?_) fun _ x => x.elim)
      have j4 := I.frame _ _ _ ρ4 s4.heap j3 st4.incl (VH (b := true) a3 st4 (I.fields _ _ _ j3))
      have st5 := (st2.trans st3).trans st4
      obtain ⟨fl, fr4⟩ := rr
      cases fl with
      | next => simp only [VP] at hfl; subst hfl; exact ⟨m, Nat.lt_succ_self _, _, _, _, _, a4, st5, j4, z4⟩
      | cont => simp only [VP] at hfl; subst hfl; exact ⟨m, Nat.lt_succ_self _, _, _, _, _, a4, st5, j4, z4⟩
      | brk => simp only [VP] at hfl; subst hfl; exact hQ _ _ (z4 _ _ _ st5 a4 rfl)
      | ret v => obtain ⟨w', rfl, vw'⟩ := hfl; exact hQ _ _ (z4 _ _ _ st5 a4 ⟨w', rfl, vw'⟩)
noncomputable def Xaj (m : EM) (t : TM) (b : XM) : XM := fun fr σ => (m fr σ).bind fun v σ => match v with
  | .ref i => match σ[i]? with
    | some (.list l) => loopI (nxL i) t b (l.length + 1) 0 fr σ
    | _ => .stuck
  | _ => .stuck
theorem Xak {C : Wd} {ρ : List Loc} {σ : Sg} {h : Heap} (r : RelH C ρ σ h) {a : Addr} (e : h.get? a = none) : C.h₀.get? a = none := by
  cases z : C.h₀.get? a with
  | none => rfl
  | some o => have := r.stays _ _ z; rw [e] at this; cases this
theorem XoU {α : Type} {r : R α} {P : α → Sg → Prop} {X : Sg → Prop} (h : (Zf r).Ok P X) : r.Ok P (fun _ => False) := VA h
theorem XcW {nx : Nat → Sg → Option (Option MV)} {t : TM} {b : XM} {P : Fl × Fr → Sg → Prop} {X : Sg → Prop} {n : Nat} : ∀ {k : Nat} {fr : Fr} {σ : Sg}, (loopI nx t b n k fr σ).Ok P X → (loopI nx t b n k fr σ).Ok P (fun _ => False) := by
  induction n with
  | zero =>
    intro _ _ _ h
    exact h.elim
  | succ n ih =>
    intro k fr σ h
    rw [UW] at h ⊢
    split at h
    · exact h.elim
    · exact h
    · rw [R.Ok_bind] at h ⊢
      rename_i v e
      revert h
      generalize (t v fr σ).bind (fun fr σ => b fr σ) = rr
      intro h
      cases rr with
      | stuck => exact h.elim
      | exc => exact h.elim
      | ok r σ' =>
        obtain ⟨fl, fr'⟩ := r
        cases fl with
        | next => exact ih h
        | cont => exact ih h
        | brk => exact h
        | ret v => exact h
theorem Xdo {C : Wd} {k : Nat} {sc : Scope} {target iter : Expr} {body : List Stmt} {pos : Pos} {m : EM} {t : TM} {b : XM} (hm : ES C k sc iter m) (ht : TS C k sc true target t) (hb : XSs C k sc body b) (hok : OkT target := by constructor)
    (hs : ∀ env x, foldedSetIterable iter env x = pure x := by intro _ _; rfl) : XS C k sc (.For target iter body [] pos) (Xaj m t b) := by
  intro A env fr ρ σ s Q E a h
  unfold Xaj at h
  rw [R.Ok_bind] at h
  refine wpAny_For (hm a (h.mono (fun v σ₁ h₁ ρ₁ s₁ w st r vw => ?_) fun _ x => QEX.to0 x)) (hs env)
  split at h₁
  · split at h₁
    · rename_i i _ l q
      refine @cps _ fun Γ γ => ?_
      obtain ⟨a1, vs, rfl, p1, l1, vv⟩ := r.h.list q vw
      refine γ ?_; clear γ Γ
      refine wpAny_pyIter_list l1.isList ?_
      have hn := Heap.size_none s₁.heap
      have hne : a1 ≠ s₁.heap.objs.size := by obtain ⟨n, g⟩ := l1; exact Nat.ne_of_lt (Heap.lt_size g)
      have st1 : Step [] ρ₁ s₁.heap ρ₁ (s₁.heap.push { cls := .type "list_iterator", data := .fields #[.ref a1, .int 0 0] }) := Step.push _ _
      have z := a.stepX (b := true) st r
      refine Xes (s := s₁) (ρ := ρ₁) (Itr.list hne) ht hb hok hn (Xak r.h hn) (z.2.next (s' := { s₁ with heap := _ }) st1 (r.push _)) st1.w0 ⟨⟨_, Heap.get?_push_size _ rfl, rfl, rfl⟩, p1⟩ (n := l.length + 1) ((XcW h₁).mono (fun _ _ y => QX.chain y z.1) fun _ y => y) fun f s' y => y
    · exact h₁.elim
  · exact h₁.elim
noncomputable def Xa0 (m : EM) (t : TM) (b : XM) : XM := fun fr σ => (m fr σ).bind fun v σ => match v with
  | .int n => if n < 2 ^ 62 ∧ -(2 ^ 62) < n then loopI (nxR n) t b (n.toNat + 1) 0 fr σ else .stuck
  | _ => .stuck
theorem Xgz {n : Int} (h1 : n < 2 ^ 62) (h2 : -(2 ^ 62) < n) : Builtin.Range.small 0 n 1 = true ∧ Builtin.Range.rangeSize 0 n 1 = max n 0 := by
  have e : Builtin.Range.rangeSize 0 n 1 = max n 0 := by
    unfold Builtin.Range.rangeSize
    simp
    by_cases h : 0 < n
    · rw [if_pos h, Int.max_eq_left (Int.le_of_lt h)]
    · rw [if_neg h, Int.max_eq_right (Int.not_lt.mp h)]
  refine ⟨?_, e⟩
  unfold Builtin.Range.small
  rw [e]
  unfold Builtin.Range.rangeFitsLong
  simp
  have b : -9223372036854775808 ≤ n ∧ n < 9223372036854775808 := ⟨Int.le_trans (by decide) (Int.le_of_lt h2), Int.lt_trans h1 (by decide)⟩
  exact ⟨⟨b, Int.le_trans b.1 (Int.le_max_left _ _), Int.max_lt.mpr ⟨b.2, by decide⟩⟩, .inr b⟩
theorem XeH {C : Wd} {k : Nat} {sc : Scope} {A : Around} {env : Env} {fr : Fr} {ρ : List Loc} {σ : Sg} {s : Shared} {Q : Value → Shared → Prop} {E : Value → Shared → Prop} {np pos : Pos} {e : Expr} {m : EM} (a : At C k sc A env fr ρ σ s) (hm : ES C k sc e m) (hg : nsIn C.K mainGlobals "range" = some none) (hsc : sc.names.lookup ("range" : Str) = some .globalImplicit)
    (hp : ∀ env, (backTo pos (starEach [e] env)).any (·.1) = false) (hq : ∀ env, starEach [e] env = [(false, eval e env)])
    (h : (m fr σ).Ok (fun v σ' => ∃ n, v = .int n ∧ n < 2 ^ 62 ∧ -(2 ^ 62) < n ∧ ∀ ρ₁ s₁ s₂ it, Step [] ρ s.heap ρ₁ s₁.heap → Rel C ρ₁ σ' s₁ → s₁.heap.get? it = none → C.h₀.get? it = none → At C k sc A env fr ρ₁ σ' s₂ → Step [] ρ₁ s₁.heap ρ₁ s₂.heap → IsRangeIter s₂.heap it 0 (max n 0 - 0) 1 → Q (.ref it) s₂) (fun _ => False)) :
    wpAny (model C.prog C.w) A (eval (.Call (.Name "range" np) [e] [] pos) env) (fun x s₁ => wpAny (model C.prog C.w) A (pyIter x) Q E s₁) E s := by
  refine wpAny_Call_ofName (XhV a hg (v := .type "range") (by decide +kernel) (by decide +kernel) hsc (by decide +kernel) ?_)
  refine callWith_of (P := fun _ => True) (by rw [hp]; rfl) (fun _ _ => ⟨.machine, .inr (.inl rfl), Looks.of_pure rfl⟩) (Uw (hp env) ?_)
  rw [hq]
  show wpAny _ _ (spliced [(false, eval e env)]) _ _ _
  refine Calls.spliced_cons (hm a (h.mono (fun v σ₁ h₁ ρ₁ s₁ w st r vw => Calls.spliced_nil ⟨trivial, ?_⟩) fun _ x => x.elim))
  refine @cps _ fun Γ γ => ?_
  obtain ⟨n, rfl, n1, n2, h₁⟩ := h₁
  refine γ ?_; clear γ Γ
  simp only [VRel] at vw
  obtain ⟨t, rfl⟩ := vw
  obtain ⟨e1, e2⟩ := Xgz n1 n2
  refine call_range_1 (wpAny_pyIter_range (IsRange.new s₁.heap 0 n 1 _ t _) e1 ?_)
  rw [e2]
  have hn1 : s₁.heap.get? (s₁.heap.objs.size + 1) = none := by
    cases e : s₁.heap.get? (s₁.heap.objs.size + 1) with
    | none => rfl
    | some o => exact absurd (Heap.lt_size e) (Nat.not_lt.mpr (Nat.le_succ _))
  have hsz : (s₁.heap.push { cls := .type "range", data := .fields #[.int 0 s₁.toks, .int n t, .int 1 (s₁.toks + 1)] }).objs.size = s₁.heap.objs.size + 1 := Heap.size_push ..
  have st2 : Step [] ρ₁ s₁.heap ρ₁ ((s₁.heap.push { cls := .type "range", data := .fields #[.int 0 s₁.toks, .int n t, .int 1 (s₁.toks + 1)] }).push { cls := .type "range_iterator", data := .fields #[rawInt 0, rawInt (max n 0), rawInt 1] }) := (Step.push _ _).trans (Step.push _ _)
  rw [hsz]
  refine h₁ ρ₁ s₁ _ _ st r hn1 (Xak r.h hn1) ((a.next st r).next (s' := { s₁ with heap := _, toks := _ }) st2 (((r.push _).push _).toks _)) st2 ?_
  have := Heap.get?_push_size (s₁.heap.push { cls := .type "range", data := .fields #[.int 0 s₁.toks, .int n t, .int 1 (s₁.toks + 1)] }) (o := { cls := .type "range_iterator", data := .fields #[rawInt 0, rawInt (max n 0), rawInt 1] }) rfl
  rw [hsz] at this
  simpa using this
theorem XfV {C : Wd} {k : Nat} {sc : Scope} {target e : Expr} {body : List Stmt} {np p1 pos : Pos} {m : EM} {t : TM} {b : XM} (hg : nsIn C.K mainGlobals "range" = some none) (hm : ES C k sc e m) (ht : TS C k sc true target t) (hb : XSs C k sc body b) (hok : OkT target := by constructor)
    (hsc : sc.names.lookup ("range" : Str) = some .globalImplicit := by decide +kernel) (hp : ∀ env, (backTo p1 (starEach [e] env)).any (·.1) = false := by intro _; rfl) (hq : ∀ env, starEach [e] env = [(false, eval e env)] := by intro _; rfl) :
    XS C k sc (.For target (.Call (.Name "range" np) [e] [] p1) body [] pos) (Xa0 (fun fr σ => Zf (m fr σ)) t b) := by
  intro A env fr ρ σ s Q E a h
  unfold Xa0 at h
  rw [R.Ok_bind] at h
  refine wpAny_For (XeH a hm hg hsc hp hq ((VA h).mono (fun v σ₁ h₁ => ?_) fun _ x => x)) (by intro _; rfl)
  split at h₁
  · rename_i n
    split at h₁
    · rename_i hb2
      refine ⟨n, rfl, hb2.1, hb2.2, fun ρ₁ s₁ s₂ it st r hn h0 a2 st2 j => ?_⟩
      refine Xes (s := s₁) (ρ := ρ₁) Itr.range ht hb hok hn h0 a2 st2.w0 j (n := n.toNat + 1) ((XcW h₁).mono (fun _ _ y => QX.chain y st.w0) fun _ y => y) fun f s' y => y
    · exact h₁.elim
  · exact h₁.elim
noncomputable def WW (t : BM) (b : XM) : Nat → XM
  | 0 => Wa
  | n + 1 => fun fr σ => (Zf (t fr σ)).bind fun x σ => if x then (Zf (b fr σ)).bind fun r σ => match r with
      | (.next, fr) => WW t b n fr σ
      | (.cont, fr) => WW t b n fr σ
      | (.brk, fr) => .ok (.next, fr) σ
      | (.ret v, fr) => .ok (.ret v, fr) σ
    else .ok (.next, fr) σ
theorem Xgg {t : BM} {b : XM} {n : Nat} : WW t b (n + 1) = fun fr σ => (Zf (t fr σ)).bind fun x σ => if x then (Zf (b fr σ)).bind fun r σ => match r with
      | (.next, fr) => WW t b n fr σ
      | (.cont, fr) => WW t b n fr σ
      | (.brk, fr) => .ok (.next, fr) σ
      | (.ret v, fr) => .ok (.ret v, fr) σ
    else .ok (.next, fr) σ := rfl
theorem Xkh {C : Wd} {k : Nat} {sc : Scope} {test : Expr} {body : List Stmt} {pos : Pos} {t : BM} {b : XM} (n : Nat) (ht : BS C k sc test t) (hb : XSs C k sc body b) : XS C k sc (.While test body [] pos) (WW t b n) := by
  intro A env fr ρ σ s Q E a h
  refine wpAny_While (codeAny_whileLoop (fun m s' => ∃ fr' ρ' σ', At C k sc A env fr' ρ' σ' s' ∧ Step (XaP env) ρ s.heap ρ' s'.heap ∧ (WW t b m fr' σ').Ok (QX C k sc A env ρ s Q) (QEX C A env ρ s E)) (fun m s' z => ?_) n ⟨fr, ρ, σ, a, Step.refl .., h⟩)
  refine @cps _ fun Γ γ => ?_
  obtain ⟨fr', ρ', σ', a', st', q⟩ := z
  refine γ ?_; clear γ Γ
  cases m with
  | zero => exact q.elim
  | succ m =>
    rw [Xgg] at q
    rw [R.Ok_bind] at q
    have q := VA q
    refine ht a' (q.mono (fun x σ₁ h₁ ρ₁ s₁ st r => ?_) fun _ x => x.elim)
    have z := a'.stepX (b := true) st r
    cases x with
    | false => exact wpAny_execs_nil (h₁ _ _ _ (st'.trans z.1) z.2 rfl)
    | true =>
      simp only [if_true] at h₁
      rw [R.Ok_bind] at h₁
      have h₁ := VA h₁
      refine hb z.2 (h₁.mono (fun rr σ₂ z2 ρ₂ s₂ f st2 a2 hfl => ?_) fun _ x => x.elim)
      have st5 := (st'.trans z.1).trans st2
      obtain ⟨fl, fr4⟩ := rr
      cases fl with
      | next => simp only [VP] at hfl; subst hfl; exact ⟨m, Nat.lt_succ_self _, _, _, _, a2, st5, z2⟩
      | cont => simp only [VP] at hfl; subst hfl; exact ⟨m, Nat.lt_succ_self _, _, _, _, a2, st5, z2⟩
      | brk => simp only [VP] at hfl; subst hfl; exact z2 _ _ _ st5 a2 rfl
      | ret v => obtain ⟨w', rfl, vw'⟩ := hfl; exact z2 _ _ _ st5 a2 ⟨w', rfl, vw'⟩
noncomputable def XaN (cells : List (Str × Addr)) : List (Str × NameKind) → List (Str × Addr) → List (Str × Addr)
  | [], acc => acc
  | (n, k) :: r, acc => if k == .free then (match cells.lookup n with
    | some a => XaN cells r ((n, a) :: acc)
    | none => XaN cells r acc) else XaN cells r acc
theorem XfD {cells : List (Str × Addr)} {n : Str} {k : NameKind} {r : List (Str × NameKind)} {acc : List (Str × Addr)} : XaN cells ((n, k) :: r) acc = if k == .free then (match cells.lookup n with
    | some a => XaN cells r ((n, a) :: acc)
    | none => XaN cells r acc) else XaN cells r acc := rfl
theorem Xad (env : Env) (f : Str × NameKind → List (Str × Addr) → Sem (ForInStep (List (Str × Addr)))) (hf : ∀ n k cs, f (n, k) cs = if k == .free then (do let c ← cellOf env n; pure (.yield ((n, c) :: cs))) else pure (.yield cs)) :
    ∀ (names : List (Str × NameKind)) (acc : List (Str × Addr)), (∀ p ∈ names, p.2 = .free → (env.cells.lookup p.1).isSome = true) → (forIn names acc f : Sem (List (Str × Addr))) = pure (XaN env.cells names acc)
  | [], acc, _ => rfl
  | (n, k) :: r, acc, h => by
    have hr : ∀ p ∈ r, p.2 = .free → (env.cells.lookup p.1).isSome = true := fun p hp => h p (.tail _ hp)
    rw [List.forIn_cons, hf]
    rw [XfD]
    by_cases hk : (k == .free) = true
    · rw [if_pos hk, if_pos hk]
      obtain ⟨c, hc⟩ := Option.isSome_iff_exists.mp (h (n, k) (.head _) (by simpa using hk))
      have e : cellOf env n = pure c := by unfold cellOf; rw [hc]
      simp only at hc
      rw [e, hc]
      exact Xad env f hf r _ hr
    · rw [if_neg hk, if_neg hk]
      exact Xad env f hf r _ hr
theorem Xei {env : Env} {scope : Scope} (h : ∀ p ∈ scope.names, p.2 = .free → (env.cells.lookup p.1).isSome = true) : closureFor scope env = pure (XaN env.cells scope.names []) := by
  unfold closureFor
  have := Xad env (fun x cs => match x with | (name, kind) => if kind == .free then (do let c ← cellOf env name; pure (.yield ((name, c) :: cs))) else pure (.yield cs)) (fun _ _ _ => rfl) scope.names [] h
  exact congrArg (fun t => t >>= fun cs => pure cs) this
theorem Xgx {cells : List (Str × Addr)} {x : Str} {c : Addr} {names : List (Str × NameKind)} : ∀ {acc : List (Str × Addr)}, (XaN cells names acc).lookup x = some c → acc.lookup x = some c ∨ cells.lookup x = some c := by
  induction names with
  | nil =>
    intro acc h
    exact .inl h
  | cons q0 r ih =>
    obtain ⟨n, k⟩ := q0
    intro acc h
    rw [XfD] at h
    split at h
    · split at h
      · rename_i a e
        rcases ih h with h | h
        · simp only [List.lookup_cons] at h
          split at h
          · rename_i q
            cases h
            have : x = n := by simpa using q
            subst this
            exact .inr e
          · exact .inl h
        · exact .inr h
      · exact ih h
    · exact ih h
theorem XiO {cells : List (Str × Addr)} {x : Str} {names : List (Str × NameKind)} : ∀ {acc : List (Str × Addr)}, ((acc.lookup x).isSome = true ∨ ((x, NameKind.free) ∈ names ∧ (cells.lookup x).isSome = true)) → ((XaN cells names acc).lookup x).isSome = true := by
  induction names with
  | nil =>
    intro acc h
    exact h.elim id fun h => by cases h.1
  | cons q0 r ih =>
    obtain ⟨n, k⟩ := q0
    intro acc h
    rw [XfD]
    split
    · split
      · rename_i a e
        refine ih ?_
        by_cases hx : (x == n) = true
        · exact .inl (by simp [List.lookup_cons, hx])
        · refine h.imp (fun h => by simpa [List.lookup_cons, hx] using h) fun ⟨h1, h2⟩ => ⟨?_, h2⟩
          rcases List.mem_cons.mp h1 with e1 | h1
          · cases e1; simp at hx
          · exact h1
      · rename_i e
        refine ih (h.imp id fun ⟨h1, h2⟩ => ⟨?_, h2⟩)
        rcases List.mem_cons.mp h1 with e1 | h1
        · cases e1; rw [e] at h2; cases h2
        · exact h1
    · rename_i hk
      refine ih (h.imp id fun ⟨h1, h2⟩ => ⟨?_, h2⟩)
      rcases List.mem_cons.mp h1 with e1 | h1
      · cases e1; simp at hk
      · exact h1
theorem XjA {cells : List (Str × Addr)} {p : Str × Addr} {names : List (Str × NameKind)} : ∀ {acc : List (Str × Addr)}, p ∈ XaN cells names acc → p ∈ acc ∨ cells.lookup p.1 = some p.2 := by
  induction names with
  | nil =>
    intro acc h
    exact .inl h
  | cons q0 r ih =>
    obtain ⟨n, k⟩ := q0
    intro acc h
    rw [XfD] at h
    split at h
    · split at h
      · rename_i a e
        rcases ih h with h | h
        · rcases List.mem_cons.mp h with rfl | h
          · exact .inr e
          · exact .inl h
        · exact .inr h
      · exact ih h
    · exact ih h
noncomputable def UX (scope sc : Scope) : Scope :=
  { scope with names := scope.names.map fun (n, k) => if (k == .free && sc.kind == .function && sc.names.lookup n == some .cell) then (n, .cell) else (n, k) }
theorem XhD {scope sc : Scope} {x : Str} (hc : ∀ y ∈ scope.names, y.2 ≠ .cell) (h : (UX scope sc).names.lookup x = some .cell) : (x, NameKind.free) ∈ scope.names ∧ sc.names.lookup x = some .cell := by
  have hm := mem_of_lookup h
  simp only [UX, List.mem_map] at hm
  refine @cps _ fun Γ γ => ?_
  obtain ⟨⟨n, k⟩, hm, e⟩ := hm
  refine γ ?_; clear γ Γ
  dsimp only at e
  split at e
  · rename_i q
    simp only [Bool.and_eq_true, beq_iff_eq] at q
    cases e
    obtain ⟨⟨q1, q2⟩, q3⟩ := q
    subst q1
    exact ⟨hm, q3⟩
  · cases e
    exact absurd rfl (hc _ hm)
noncomputable def frC (fs : List Sy) (fr : Fr) : Fr := fs.filterMap fun x => (fr.lookup x).map (x, ·)
theorem Xha {fr : Fr} {x : Sy} {v : MV} {fs : List Sy} : (frC fs fr).lookup x = some v → x ∈ fs ∧ fr.lookup x = some v := by
  induction fs with
  | nil =>
    intro h
    simp [frC] at h
  | cons y fs ih =>
    intro h
    simp only [frC, List.filterMap_cons] at h
    split at h
    · obtain ⟨a, b⟩ := ih h
      exact ⟨.tail _ a, b⟩
    · rename_i p q
      obtain ⟨w, hw, rfl⟩ := Option.map_eq_some_iff.mp q
      simp only [List.lookup_cons] at h
      split at h
      · rename_i z
        cases h
        have : x = y := by simpa using z
        subst this
        exact ⟨.head _, hw⟩
      · obtain ⟨a, b⟩ := ih h
        exact ⟨.tail _ a, b⟩
structure CompOk (scope sc : Scope) (fs : List Sy) : Prop where
  kind : scope.kind = .function
  cell : ∀ y ∈ scope.names, y.2 ≠ .cell
  loc : ∀ y ∈ scope.names, y.2 = .local → scope.names.lookup y.1 = some .local
  free : ∀ y ∈ scope.names, y.2 = .free → sc.names.lookup y.1 = some .cell
  fs : ∀ x ∈ fs, (x.s, NameKind.free) ∈ scope.names ∧ (UX scope sc).names.lookup x.s = some .cell
noncomputable def Vo (acc : Nat) (x : MV) (σ : Sg) : R Unit := match σ[acc]? with
  | some (.list l) => VS (l.length) (.ok () (σ.set acc (.list (l ++ [x]))))
  | _ => .stuck
noncomputable def Uk (nx : Nat → Sg → Option (Option MV)) (t : TM) (p : BM) (e : EM) (acc : Nat) : Nat → Nat → Fr → Sg → R MV
  | 0, _, _, _ => .stuck
  | n + 1, k, fr, σ => match nx k σ with
    | none => .stuck
    | some none => .ok (.ref acc) σ
    | some (some v) => (Zf (t v fr σ)).bind fun fr σ => (Zf (p fr σ)).bind fun b σ => if b then (Zf (e fr σ)).bind fun x σ => (Vo acc x σ).bind fun _ σ => Uk nx t p e acc n (k + 1) fr σ else Uk nx t p e acc n (k + 1) fr σ
theorem Uu {nx : Nat → Sg → Option (Option MV)} {t : TM} {p : BM} {e : EM} {acc n k : Nat} {fr : Fr} {σ : Sg} : Uk nx t p e acc (n + 1) k fr σ = match nx k σ with
    | none => .stuck
    | some none => .ok (.ref acc) σ
    | some (some v) => (Zf (t v fr σ)).bind fun fr σ => (Zf (p fr σ)).bind fun b σ => if b then (Zf (e fr σ)).bind fun x σ => (Vo acc x σ).bind fun _ σ => Uk nx t p e acc n (k + 1) fr σ else Uk nx t p e acc n (k + 1) fr σ := rfl
noncomputable def PS (C : Wd) (k : Nat) (sc : Scope) (ifs : List Expr) (m : BM) : Prop :=
  ∀ ⦃A : Around⦄ ⦃env : Env⦄ ⦃fr : Fr⦄ ⦃ρ : List Loc⦄ ⦃σ : Sg⦄ ⦃s : Shared⦄ ⦃Q : Bool → Shared → Prop⦄ ⦃E : Value → Shared → Prop⦄, At C k sc A env fr ρ σ s → (m fr σ).Ok (QB C ρ s Q) (QE C A ρ s E) →
    wpAny (model C.prog C.w) A (forIn ifs true fun c r => if r = true then do let ok ← isTrue c env (eval c env); pure (ForInStep.yield ok) else pure (ForInStep.yield r)) Q E s
theorem Xaa {C : Wd} {k : Nat} {sc : Scope} : PS C k sc [] YU := fun _ _ _ _ _ _ _ _ a h => wpAny_tests_nil (h _ _ (Step.refl ..) a.rel)
theorem Xd2 {C : Wd} {k : Nat} {sc : Scope} {e : Expr} {m : BM} (he : BS C k sc e m) : PS C k sc [e] m := fun _ _ _ _ _ _ _ _ a h => wpAny_tests_one (he a h)
theorem XlG {C : Wd} {A : Around} {E : Value → Shared → Prop} {ρ : List Loc} {σ : Sg} {s : Shared} {acc : Nat} {D : Addr} {x : MV} {w : Value} {Q : Value → Shared → Prop} (r : Rel C ρ σ s) (hp : ρ[acc]? = some (D, D)) (v : VRel ρ s.heap x w)
    (h : (Vo acc x σ).Ok (fun _ σ' => ∀ s', Step [] ρ s.heap ρ s'.heap → Rel C ρ σ' s' → Q .none s') (fun _ => False)) : wpAny (model C.prog C.w) A (call (.builtin "list.append") [.ref D, w]) Q E s := by
  unfold Vo at h
  split at h
  · rename_i l q
    refine @cps _ fun Γ γ => ?_
    obtain ⟨hl, h⟩ := WC h
    obtain ⟨_, vs, ⟨n, g⟩, vv⟩ := r.h.objs acc _ _ hp q
    refine γ ?_; clear γ Γ
    have el := vv.length
    simp only [Array.length_toList] at el
    have hsz : vs.size ≤ sizeLine := by rw [el]; exact Nat.le_trans (Nat.le_of_lt hl) UE
    have g' : s.heap.get? D = some { cls := .type "list", dict := none, data := .seq vs n, slots := #[] } := g
    refine call_meets F.slot_list_append ⟨_, g', rfl⟩ F.entry_list_append (F.args_list_append_2 _ _) (PySem.list_append D vs n w hsz) ⟨g', ?_⟩
    obtain ⟨r', st'⟩ := Vi (tk := s.toks) (l' := l ++ [x]) (f := fun xs => xs.push w) r hp ⟨n, g'⟩ (by simpa using vv.append (VRels.one v))
    exact h _ st' r'
  · exact h.elim
theorem Xgt {prog : Program} {w : World} {A : Around} {s : Shared} {R : Result → Shared → Prop} {elt target iter : Expr} {ifs : List Expr} {scope : Scope} {pos : Pos} {it acc : Value} {env : Env} (I : Nat → Shared → Prop)
    (turn : ∀ n s, I n s → wpAny (model prog w) A (pyNext it) (fun r s₁ => match r with
      | none => R (.ok .next) s₁
      | some v => wpAny (model prog w) A (letOwnedTupleGo target it v) (fun _ s₁' => wpAny (model prog w) A (assign target env v) (fun _ s₂ =>
          wpAny (model prog w) A (forIn ifs true fun c r => if r = true then do let ok ← isTrue c env (eval c env); pure (ForInStep.yield ok) else pure (ForInStep.yield r)) (fun ok s₃ =>
            if ok = true then wpAny (model prog w) A (eval elt env) (fun x s₄ => wpAny (model prog w) A (call (.builtin "list.append") [acc, x]) (fun _ s₅ => ∃ m, m < n ∧ I m s₅) (fun _ _ => False) s₄) (fun _ _ => False) s₃
            else ∃ m, m < n ∧ I m s₃) (fun _ _ => False) s₂) (fun _ _ => False) s₁') (fun _ _ => False) s₁) (fun _ _ => False) s)
    (n : Nat) (h : I n s) : codeAny (model prog w) A (.compLoop (.ListComp elt [⟨target, iter, ifs, 0⟩] scope pos) 0 it acc env) R s := by
  refine codeAny_loop rfl I (fun n s hI => ?_) n h
  show wpAny _ A ((compTurn (.ListComp elt [⟨target, iter, ifs, 0⟩] scope pos) 0 it acc env).onRaise (fun x => do noteFrame x env; theTreesLotGoes x)) _ _ s
  refine wpAny_noted ?_
  rw [compTurn_list]
  refine wpAny_bind (wpAny_standAt (wpAny_bind (wpAny_mono (turn n s hI) (fun r s₁ h₁ => ?_) fun _ _ h' => h'.elim)))
  cases r with
  | none => exact wpAny_pure h₁
  | some v =>
    refine wpAny_bind (wpAny_mono h₁ (fun _ s₁' h₁' => ?_) fun _ _ h' => h'.elim)
    refine wpAny_bind (wpAny_mono h₁' (fun _ s₂ h₂ => wpAny_bind (wpAny_mono h₂ (fun ok s₃ h₃ => ?_) fun _ _ h' => h'.elim)) fun _ _ h' => h'.elim)
    cases ok with
    | false => exact wpAny_pure ⟨rfl, h₃⟩
    | true =>
      exact wpAny_bind (wpAny_bind (wpAny_mono h₃ (fun x s₄ h₄ => wpAny_bind (wpAny_mono h₄ (fun _ s₅ h₅ => wpAny_pure (wpAny_pure ⟨rfl, h₅⟩)) fun _ _ h' => h'.elim)) fun _ _ h' => h'.elim))
theorem Xba {C : Wd} {k : Nat} {sc : Scope} {A : Around} {env : Env} {fr : Fr} {ρ₁ : List Loc} {σ : Sg} {s₁ s₂ : Shared} {it : Addr} {nx : Nat → Sg → Option (Option MV)} {J : Nat → List Loc → Heap → Prop} {elt target iter : Expr} {ifs : List Expr} {scope : Scope} {pos : Pos} {fs : List Sy} {t : TM} {p : BM} {e : EM} {n : Nat}
    {PP : Sg → Prop} {RR : Value → Addr → Result → Shared → Prop}
    (I : Itr C it nx J) (ok : CompOk scope sc fs) (ht : TS C k (UX scope sc) false target t) (hp : PS C k (UX scope sc) ifs p) (he : ES C k (UX scope sc) elt e) (hok : OkT target) (hn : s₁.heap.get? it = none)
    (a : At C k sc A env fr ρ₁ σ s₂) (st : Step [] ρ₁ s₁.heap ρ₁ s₂.heap) (j : J 0 ρ₁ s₂.heap) (h : (Uk nx t p e σ.length n 0 (frC fs fr) (σ ++ [.list []])).Ok (fun v σ' => v = .ref σ.length → PP σ') (fun _ => False)) (hh : C.h₀.get? it = none)
    (hRR : ∀ D L ρ' σ' s' m, PP σ' → Step [] ρ₁ s₁.heap ρ' s'.heap → Rel C ρ' σ' s' → VRel ρ' s'.heap (.ref σ.length) (.ref D) → s'.heap.Ns L m → s₁.heap.get? L = none → ¬ In ρ' L → C.h₀.get? L = none → RR (.ref D) L (.ok .next) s') :
    wpAny (model C.prog C.w) A (newList []) (fun acc s₃ => wpAny (model C.prog C.w) A (newFunctionEnv scope env.globals (XaN env.cells scope.names []) [] env.qual none .none (some env)) (fun cenv s₄ =>
      codeAny (model C.prog C.w) A (.compStart (.ListComp elt [⟨target, iter, ifs, 0⟩] scope pos) 0 (.ref it) acc { cenv with scope := relabel scope env }) (RR acc cenv.locals) s₄) (fun _ _ => False) s₃) (fun _ _ => False) s₂ := by
  have hnew : ∀ (h : Heap) (st : Step [] ρ₁ s₁.heap ρ₁ h), s₁.heap.get? h.objs.size = none := fun h st => by
    cases z : s₁.heap.get? h.objs.size with
    | none => rfl
    | some o => obtain ⟨o', g, _⟩ := st.evo _ _ z; exact absurd (Heap.lt_size g) (Nat.lt_irrefl _)
  refine wpAny_newObj_type ?_
  obtain ⟨r₃, st₃, hacc⟩ := a.rel.newList (l := []) (ws := []) (by simp [VRels])
  have a₃ := a.next st₃ r₃
  have hD := hnew _ st
  have hDn := Heap.size_none s₂.heap
  refine wpAny_newFunctionEnv ok.cell (by intro y hy; simp at hy) (fun h₁ hns hsb => ?_) ok.kind
  have keep : ∀ b o, (s₂.heap.push { cls := .type "list", data := .seq ([] : List Value).toArray }).get? b = some o → h₁.get? b = some o := fun b o e => hsb.extBut b o (Nat.ne_of_lt (Heap.lt_size e)) (Heap.get?_push_of_some _ e)
  dsimp only
  generalize hL : (s₂.heap.push { cls := .type "list", dict := none, data := .seq ([] : List Value).toArray }).objs.size = L at hns hsb ⊢
  have hL1 : s₁.heap.get? L = none := by
    rw [← hL]
    cases z : s₁.heap.get? (s₂.heap.push { cls := .type "list", dict := none, data := .seq ([] : List Value).toArray }).objs.size with
    | none => rfl
    | some o => obtain ⟨o', g, _⟩ := (st.trans st₃).evo _ _ z; exact absurd (Heap.lt_size g) (Nat.lt_irrefl _)
  have hL3 : (s₂.heap.push { cls := .type "list", data := .seq ([] : List Value).toArray }).get? L = none := by rw [← hL]; exact Heap.size_none _
  have st₄ : Step [] (ρ₁ ++ [(s₂.heap.objs.size, s₂.heap.objs.size)]) (s₂.heap.push { cls := .type "list", data := .seq ([] : List Value).toArray }) (ρ₁ ++ [(s₂.heap.objs.size, s₂.heap.objs.size)]) h₁ := Step.keeps keep
  have r₄ : Rel C (ρ₁ ++ [(s₂.heap.objs.size, s₂.heap.objs.size)]) (σ ++ [.list []]) { s₂ with heap := h₁, toks := s₂.toks + ([] : List (Str × Value)).length } := r₃.keeps keep rfl rfl
  have a₄ := a₃.next (s' := { s₂ with heap := h₁, toks := s₂.toks + ([] : List (Str × Value)).length }) st₄ r₄
  have hLb : C.h₀.get? L = none := Xak r₃.h hL3
  have hLi : ¬ In (ρ₁ ++ [(s₂.heap.objs.size, s₂.heap.objs.size)]) L := r₃.h.inAlive hL3
  have hcl : ∀ x c, (XaN env.cells scope.names []).lookup x = some c → env.cells.lookup x = some c := fun x c e => (Xgx e).elim (fun z => by simp at z) id
  have hclf : ∀ x c, (x, NameKind.free) ∈ scope.names → env.cells.lookup x = some c → (XaN env.cells scope.names []).lookup x = some c := fun x c e1 e2 => by
    have := XiO (cells := env.cells) (x := x) (names := scope.names) (acc := []) (.inr ⟨e1, by rw [e2]; rfl⟩)
    obtain ⟨c', hc'⟩ := Option.isSome_iff_exists.mp this
    rw [hc', ← e2]; exact (hcl x c' hc').symm
  have hsce : relabel scope env = UX scope sc := by rw [← a.sc]; rfl
  have F : ∀ cenv : Env, cenv = { scope := relabel scope env, locals := L, globals := env.globals, cells := XaN env.cells scope.names [], qual := env.qual, func := none, code := env.code, frame := env.frame, builtins := env.builtins } →
      At C k (UX scope sc) A cenv (frC fs fr) (ρ₁ ++ [(s₂.heap.objs.size, s₂.heap.objs.size)]) (σ ++ [.list []]) { s₂ with heap := h₁, toks := s₂.toks + ([] : List (Str × Value)).length } := by
    intro cenv hc
    have hcs : cenv.scope = UX scope sc := by rw [hc]; exact hsce
    refine ⟨hcs, r₄, ⟨by rw [hcs]; exact ok.kind, by rw [hc]; exact a.fr.glob, by rw [hc]; exact a.fr.blt, by rw [hc]; exact hLi, by rw [hc]; exact hLb, ?_, ?_, ?_, ?_⟩, a₄.ax⟩
    · refine ⟨_, by rw [hc]; exact hns, fun x v e => ?_⟩
      refine @cps _ fun Γ γ => ?_
      obtain ⟨hx, e⟩ := Xha e
      obtain ⟨f1, f2⟩ := ok.fs x hx
      obtain ⟨m, hn, hv⟩ := a₄.fr.ns
      obtain ⟨w, vw, alt⟩ := hv x v e
      refine γ ?_; clear γ Γ
      have hk : env.kindOf x.s = some .cell := by show env.scope.names.lookup x.s = _; rw [a.sc]; exact ok.free _ f1 rfl
      refine ⟨w, vw, .inr ⟨.inl (by show cenv.scope.names.lookup x.s = _; rw [hcs]; exact f2), ?_⟩⟩
      rcases alt with ⟨z, _⟩ | ⟨_, c, hc1, hc2⟩
      · rw [hk] at z; cases z
      · exact ⟨c, by rw [hc]; exact hclf _ _ f1 hc1, hc2⟩
    · intro x y c e1 e2
      rw [hc] at e1 e2
      exact a.fr.inj x y c (hcl _ _ e1) (hcl _ _ e2)
    · intro c hc1
      rw [hc] at hc1
      obtain ⟨q, hq, rfl⟩ := List.mem_map.mp hc1
      rcases XjA hq with z | z
      · cases z
      · exact a₄.fr.cells _ (List.mem_map.mpr ⟨q, by have := mem_of_lookup z; exact this, rfl⟩)
    · intro x hx
      have hx' : (UX scope sc).names.lookup x = some .cell := by rw [← hcs]; exact hx
      obtain ⟨f1, f2⟩ := XhD ok.cell hx'
      obtain ⟨c, v, b1, b2, b3⟩ := a₄.fr.alive x (by show env.scope.names.lookup x = _; rw [a.sc]; exact f2)
      exact ⟨c, v, by rw [hc]; exact hclf _ _ f1 b1, b2, b3⟩
  have j₃ := I.frame _ _ _ (ρ₁ ++ [(s₂.heap.objs.size, s₂.heap.objs.size)]) h₁ j (fun i q z => st₃.incl i q z) (fun o g => keep _ _ (Heap.get?_push_of_some _ g))
  have st₅ : Step [] ρ₁ s₁.heap (ρ₁ ++ [(s₂.heap.objs.size, s₂.heap.objs.size)]) h₁ := (st.trans st₃).trans st₄
  have hstart : ∀ (cenv : Env) (s : Shared), cenv = { scope := relabel scope env, locals := L, globals := env.globals, cells := XaN env.cells scope.names [], qual := env.qual, func := none, code := env.code, frame := env.frame, builtins := env.builtins } → s = ({ s₂ with heap := h₁, toks := s₂.toks + ([] : List (Str × Value)).length } : Shared) → codeAny (model C.prog C.w) A (.compLoop (.ListComp elt [⟨target, iter, ifs, 0⟩] scope pos) 0 (.ref it) (.ref s₂.heap.objs.size) cenv)
      (RR (.ref s₂.heap.objs.size) L) s := by
    intro cenv s hc hs
    have F := F cenv hc
    have hh1 : s.heap = h₁ := by rw [hs]
    rw [← hs] at F
    rw [← hh1] at st₅ j₃
    have hcL : cenv.locals = L := by rw [hc]
    clear hs hc
    refine Xgt (fun m s' => ∃ i fr' ρ' σ', At C k (UX scope sc) A cenv fr' ρ' σ' s' ∧
      Step [] ρ₁ s₁.heap ρ' s'.heap ∧ J i ρ' s'.heap ∧ ρ'[σ.length]? = some (s₂.heap.objs.size, s₂.heap.objs.size) ∧ (Uk nx t p e σ.length m i fr' σ').Ok (fun v σ' => v = .ref σ.length → PP σ') (fun _ => False)) (fun m s' z => ?_) n
      ⟨0, frC fs fr, _, _, F, st₅, j₃, hacc, h⟩
    refine @cps _ fun Γ γ => ?_
    obtain ⟨i, fr', ρ', σ', a', st', j', hD', q⟩ := z
    refine γ ?_; clear γ Γ
    have dropL : ∀ {ρ₂ : List Loc} {h₂ : Heap}, Step [cenv.locals] ρ₁ s₁.heap ρ₂ h₂ → Step [] ρ₁ s₁.heap ρ₂ h₂ := fun x => x.drop fun b hb => .inr (by rw [List.mem_singleton.mp hb, hcL]; exact hL1)
    cases m with
    | zero => exact q.elim
    | succ m =>
      rw [Uu] at q
      have hf := I.fields _ _ _ j'
      split at q
      · exact q.elim
      · rename_i e1
        refine I.stop a'.ax.hd a'.rel j' e1 fun h' tk hs => ?_
        refine @cps _ fun Γ γ => ?_
        obtain ⟨a2, kp⟩ := a'.ext tk hh hf hs
        obtain ⟨mm, hn2, _⟩ := a2.fr.ns
        refine γ ?_; clear γ Γ
        rw [hcL] at hn2
        exact hRR _ L ρ' σ' _ mm (q rfl) (st'.ext hn hs) a2.rel (by simp only [VRel]; exact ⟨_, hD', rfl⟩) hn2 hL1 (by have := a2.fr.sep; rw [hcL] at this; exact this) hLb
      · rename_i v e1
        rw [R.Ok_bind] at q
        have q := VA q
        refine I.item a'.rel j' e1 fun h' tk w hs j2 vw => ?_
        obtain ⟨a2, kp⟩ := a'.ext tk hh hf hs
        have st2 := st'.ext hn hs
        refine I.go (s := { s' with heap := h', toks := tk }) j2 hok ?_
        refine ht a2 (vw.mono kp) (q.mono (fun fr2 σ2 z ρ3 s3 st3 a3 => ?_) fun _ x => x.elim)
        have j3 := I.frame _ _ _ ρ3 s3.heap j2 st3.incl (VH a2 st3 (I.fields _ _ _ j2))
        have st6 := dropL ((st2.w0).trans st3)
        have hD3 := st3.incl _ _ hD'
        rw [R.Ok_bind] at z
        have z := VA z
        refine hp a3 (z.mono (fun b σ4 z4 ρ4 s4 st4 r4 => ?_) fun _ x => x.elim)
        have a4 := a3.next st4 r4
        have j4 := I.frame _ _ _ ρ4 s4.heap j3 st4.incl (VH (b := true) a3 st4.w0 (I.fields _ _ _ j3))
        cases b with
        | false => exact ⟨m, Nat.lt_succ_self _, _, _, _, _, a4, st6.trans st4, j4, st4.incl _ _ hD3, z4⟩
        | true =>
          simp only [if_true] at z4 ⊢
          rw [R.Ok_bind] at z4
          have z4 := VA z4
          refine he a4 (z4.mono (fun x σ5 z5 ρ5 s5 w5 st5 r5 v5 => ?_) fun _ x => x.elim)
          have a5 := a4.next st5 r5
          have j5 := I.frame _ _ _ ρ5 s5.heap j4 st5.incl (VH (b := true) a4 st5.w0 (I.fields _ _ _ j4))
          have hD5 := st5.incl _ _ (st4.incl _ _ hD3)
          rw [R.Ok_bind] at z5
          refine XlG r5 hD5 v5 (z5.mono (fun _ σ6 z6 s6 st7 r6 => ?_) fun _ x => x)
          have a6 := a5.next st7 r6
          have j6 := I.frame _ _ _ ρ5 s6.heap j5 (fun _ _ z => z) (VH (b := true) a5 st7.w0 (I.fields _ _ _ j5))
          exact ⟨m, Nat.lt_succ_self _, _, _, _, _, a6, ((st6.trans st4).trans st5).trans st7, j6, hD5, z6⟩
  exact codeAny_compStart_list (hstart _ _ rfl rfl) (I.self j₃ (hstart _ _ rfl rfl))
theorem At.otherNs {C : Wd} {k : Nat} {sc : Scope} {A : Around} {env : Env} {fr : Fr} {ρ : List Loc} {σ : Sg} {s : Shared} {h' : Heap} {L : Addr} {m : Str → Option Value} (a : At C k sc A env fr ρ σ s) (hn : s.heap.Ns L m) (hi : ¬ In ρ L) (h0 : C.h₀.get? L = none) (hL : env.locals ≠ L)
    (hs : Heap.SameBut L s.heap h') (hax : Ax C k A ρ h') : At C k sc A env fr ρ σ { s with heap := h' } ∧ Kept ρ s.heap ρ h' := by
  have kp := WR (ρ := ρ) (XaF hn) hs
  have nc : ∀ c v, s.heap.IsCell c v → h'.IsCell c v := fun c v b => by
    have hne : c ≠ L := fun z => Xcc hn (z ▸ b)
    obtain ⟨o, g, d⟩ := b
    exact ⟨o, (hs.2 c hne).trans g, d⟩
  refine ⟨⟨a.sc, ⟨a.rel.h.other hi h0 (XaF hn) hs, a.rel.gens, a.rel.os⟩, ?_, hax⟩, kp⟩
  obtain ⟨mm, hm, hv⟩ := a.fr.ns
  refine ⟨a.fr.kind, a.fr.glob, a.fr.blt, a.fr.sep, a.fr.new, ⟨mm, hm.sameBut hs hL, fun x v e => ?_⟩, a.fr.inj, fun c hc => let ⟨v, b⟩ := a.fr.cells c hc; ⟨v, nc c v b⟩, fun x e => ?_⟩
  · obtain ⟨w, a1, b1⟩ := hv x v e
    exact ⟨w, a1.mono kp, b1.imp id fun ⟨b1, c, b2, b3⟩ => ⟨b1, c, b2, nc _ _ b3⟩⟩
  · obtain ⟨c, v, a1, b1, d1⟩ := a.fr.alive x e
    exact ⟨c, v, a1, nc _ _ b1, d1⟩
theorem Step.same {xs : List Addr} {ρ ρ' : List Loc} {h h₁ h' : Heap} {L : Addr} (st : Step xs ρ h ρ' h₁) (hn : h.get? L = none) (hs : Heap.SameBut L h₁ h') : Step xs ρ h ρ' h' := st.ext hn hs.extBut
theorem XdY {C : Wd} {A : Around} {E : Value → Shared → Prop} {ρ₁ : List Loc} {σ' : Sg} {s₁ s' : Shared} {ρ' : List Loc} {L : Addr} {m : Str → Option Value} {acc : Value} {Q : Value → Shared → Prop} {n : Nat} (h : QV C ρ₁ s₁ Q (.ref n) σ') (st : Step [] ρ₁ s₁.heap ρ' s'.heap) (r : Rel C ρ' σ' s') (v : VRel ρ' s'.heap (.ref n) acc)
    (hn : s'.heap.Ns L m) (h1 : s₁.heap.get? L = none) (hi : ¬ In ρ' L) (h0 : C.h₀.get? L = none) : compPost (model C.prog C.w) A E none Q acc L (.ok .next) s' :=
  ⟨m, hn, fun h' hs => h ρ' { s' with heap := h' } acc (st.same h1 hs) ⟨r.h.other hi h0 (XaF hn) hs, r.gens, r.os⟩ (v.mono (WR (XaF hn) hs))⟩
noncomputable def Zz (m : EM) (fs : List Sy) (t : TM) (p : BM) (e : EM) : EM := fun fr σ => (m fr σ).bind fun v σ => match v with
  | .ref i => match σ[i]? with
    | some (.list l) => Uk (nxL i) t p e σ.length (l.length + 1) 0 (frC fs fr) (σ ++ [.list []])
    | _ => .stuck
  | _ => .stuck
noncomputable def Vq (m : EM) (fs : List Sy) (t : TM) (p : BM) (e : EM) : EM := fun fr σ => (Zf (m fr σ)).bind fun v σ => match v with
  | .int n => if n < 2 ^ 62 ∧ -(2 ^ 62) < n then Uk (nxR n) t p e σ.length (n.toNat + 1) 0 (frC fs fr) (σ ++ [.list []]) else .stuck
  | _ => .stuck
theorem XbV {nx : Nat → Sg → Option (Option MV)} {t : TM} {p : BM} {e : EM} {acc : Nat} {P : MV → Sg → Prop} {X : Sg → Prop} {n : Nat} : ∀ {k : Nat} {fr : Fr} {σ : Sg}, (Uk nx t p e acc n k fr σ).Ok P X → (Uk nx t p e acc n k fr σ).Ok (fun v σ' => v = .ref acc → P (.ref acc) σ') (fun _ => False) := by
  induction n with
  | zero =>
    intro _ _ _ h
    exact h.elim
  | succ n ih =>
    intro k fr σ h
    rw [Uu] at h ⊢
    split at h
    · exact h.elim
    · exact fun _ => h
    · rw [R.Ok_bind] at h ⊢
      rename_i v ee
      revert h
      generalize t v fr σ = rr
      intro h
      cases rr with
      | stuck => exact h.elim
      | exc => exact h.elim
      | ok fr' σ' =>
        have h' : ((Zf (p fr' σ')).bind fun b σ => if b then (Zf (e fr' σ)).bind fun x σ => (Vo acc x σ).bind fun _ σ => Uk nx t p e acc n (k + 1) fr' σ else Uk nx t p e acc n (k + 1) fr' σ).Ok P X := h
        show ((Zf (p fr' σ')).bind fun b σ => if b then (Zf (e fr' σ)).bind fun x σ => (Vo acc x σ).bind fun _ σ => Uk nx t p e acc n (k + 1) fr' σ else Uk nx t p e acc n (k + 1) fr' σ).Ok _ _
        rw [R.Ok_bind] at h' ⊢
        revert h'
        generalize p fr' σ' = rr
        intro h'
        cases rr with
        | stuck => exact h'.elim
        | exc => exact h'.elim
        | ok b σ2 =>
          cases b with
          | false => exact ih (h' : (Uk nx t p e acc n (k + 1) fr' σ2).Ok P X)
          | true =>
            have h2 : ((Zf (e fr' σ2)).bind fun x σ => (Vo acc x σ).bind fun _ σ => Uk nx t p e acc n (k + 1) fr' σ).Ok P X := h'
            show ((Zf (e fr' σ2)).bind fun x σ => (Vo acc x σ).bind fun _ σ => Uk nx t p e acc n (k + 1) fr' σ).Ok _ _
            rw [R.Ok_bind] at h2 ⊢
            revert h2
            generalize e fr' σ2 = rr
            intro h2
            cases rr with
            | stuck => exact h2.elim
            | exc => exact h2.elim
            | ok x σ3 =>
              have h3 : ((Vo acc x σ3).bind fun _ σ => Uk nx t p e acc n (k + 1) fr' σ).Ok P X := h2
              show ((Vo acc x σ3).bind fun _ σ => Uk nx t p e acc n (k + 1) fr' σ).Ok _ _
              unfold Vo at h3 ⊢
              split at h3
              · unfold VS at h3 ⊢
                split at h3
                · rename_i hl
                  rw [if_pos hl]
                  exact ih (h3 : (Uk nx t p e acc n (k + 1) fr' _).Ok P X)
                · exact h3.elim
              · exact h3.elim
theorem Xa7 {α : Type} {M : Model} {A : Around} {t : Sem α} {Q : α → Shared → Prop} {E : Value → Shared → Prop} {s : Shared} (h : wpAny M A t Q (fun _ _ => False) s) : wpAny M A t Q E s := wpAny_mono h (fun _ _ x => x) fun _ _ x => x.elim
theorem Xfk {C : Wd} {k : Nat} {sc : Scope} {A : Around} {env : Env} {fr : Fr} {ρ : List Loc} {σ : Sg} {s : Shared} {scope : Scope} {fs : List Sy} (a : At C k sc A env fr ρ σ s) (ok : CompOk scope sc fs) : closureFor scope env = pure (XaN env.cells scope.names []) := Xei fun p hp e => by
  obtain ⟨c, v, b, _⟩ := a.fr.alive p.1 (by show env.scope.names.lookup p.1 = _; rw [a.sc]; exact ok.free p hp e)
  rw [b]; rfl
theorem Wi {C : Wd} {k : Nat} {sc : Scope} {elt target iter : Expr} {ifs : List Expr} {scope : Scope} {pos : Pos} {m : EM} {fs : List Sy} {t : TM} {p : BM} {e : EM} (ok : CompOk scope sc fs) (hm : ES C k sc iter m) (ht : TS C k (UX scope sc) false target t) (hp : PS C k (UX scope sc) ifs p) (he : ES C k (UX scope sc) elt e)
    (hok : OkT target := by constructor) (hs : ∀ env x, foldedSetIterable iter env x = pure x := by intro _ _; rfl) : ES C k sc (.ListComp elt [⟨target, iter, ifs, 0⟩] scope pos) (Zz m fs t p e) := by
  intro A env fr ρ σ s Q E a h
  unfold Zz at h
  rw [R.Ok_bind] at h
  rw [eval_ListComp]
  refine wpAny_comprehension_free (use := none) rfl (hs env) (Xfk a ok) ok.kind ok.loc (hm a (h.mono (fun v σ₁ h₁ ρ₁ s₁ w st r vw => ?_) fun _ x => x))
  split at h₁
  · split at h₁
    · rename_i i _ l q
      refine @cps _ fun Γ γ => ?_
      obtain ⟨a1, vs, rfl, p1, l1, vv⟩ := r.h.list q vw
      refine γ ?_; clear γ Γ
      refine wpAny_pyIter_list l1.isList ?_
      have hn := Heap.size_none s₁.heap
      have hne : a1 ≠ s₁.heap.objs.size := by obtain ⟨n, g⟩ := l1; exact Nat.ne_of_lt (Heap.lt_size g)
      have st1 : Step [] ρ₁ s₁.heap ρ₁ (s₁.heap.push { cls := .type "list_iterator", data := .fields #[.ref a1, .int 0 0] }) := Step.push _ _
      have a1' := a.next st r
      have core := Xba (RR := fun acc L => compPost (model C.prog C.w) A E none Q acc L) (pos := pos) (iter := iter) (s₁ := s₁) (n := l.length + 1) (PP := fun σ' => QV C ρ s Q (.ref σ₁.length) σ') (Itr.list hne) ok ht hp he hok hn (a1'.next (s' := { s₁ with heap := _ }) st1 (r.push _)) st1 ⟨⟨_, Heap.get?_push_size _ rfl, rfl, rfl⟩, p1⟩ (XbV h₁) (Xak r.h hn)
        (fun D L ρ' σ' s' mm PP st2 r2 v2 n2 h1 hi h0 => XdY (A := A) (E := E) (QV.chain PP st) st2 r2 v2 n2 h1 hi h0)
      exact wpAny_mono core (fun _ _ x => Xa7 x) fun _ _ x => x.elim
    · exact h₁.elim
  · exact h₁.elim
theorem Xf9 {C : Wd} {k : Nat} {sc : Scope} {elt target ie : Expr} {np p1 : Pos} {ifs : List Expr} {scope : Scope} {pos : Pos} {m : EM} {fs : List Sy} {t : TM} {p : BM} {e : EM} (hg : nsIn C.K mainGlobals "range" = some none) (ok : CompOk scope sc fs) (hm : ES C k sc ie m) (ht : TS C k (UX scope sc) false target t) (hp : PS C k (UX scope sc) ifs p) (he : ES C k (UX scope sc) elt e)
    (hok : OkT target := by constructor) (hsc : sc.names.lookup ("range" : Str) = some .globalImplicit := by decide +kernel) (hp1 : ∀ env, (backTo p1 (starEach [ie] env)).any (·.1) = false := by intro _; rfl) (hq : ∀ env, starEach [ie] env = [(false, eval ie env)] := by intro _; rfl) :
    ES C k sc (.ListComp elt [⟨target, .Call (.Name "range" np) [ie] [] p1, ifs, 0⟩] scope pos) (Vq m fs t p e) := by
  intro A env fr ρ σ s Q E a h
  unfold Vq at h
  rw [R.Ok_bind] at h
  rw [eval_ListComp]
  refine wpAny_comprehension_free (use := none) rfl (by intro _; rfl) (Xfk a ok) ok.kind ok.loc (XeH a hm hg hsc hp1 hq ((VA h).mono (fun v σ₁ h₁ => ?_) fun _ x => x))
  split at h₁
  · rename_i n
    split at h₁
    · rename_i hb2
      refine ⟨n, rfl, hb2.1, hb2.2, fun ρ₁ s₁ s₂ it st r hn h0 a2 st2 j => ?_⟩
      have core := Xba (RR := fun acc L => compPost (model C.prog C.w) A E none Q acc L) (pos := pos) (iter := .Call (.Name "range" np) [ie] [] p1) (s₁ := s₁) (n := n.toNat + 1) (PP := fun σ' => QV C ρ s Q (.ref σ₁.length) σ') Itr.range ok ht hp he hok hn a2 st2 j (XbV h₁) h0
        (fun D L ρ' σ' s' mm PP st2 r2 v2 n2 h1 hi h0 => XdY (A := A) (E := E) (QV.chain PP st) st2 r2 v2 n2 h1 hi h0)
      exact wpAny_mono core (fun _ _ x => Xa7 x) fun _ _ x => x.elim
    · exact h₁.elim
  · exact h₁.elim
noncomputable def XaM (comp : EM) (x : Sy) : XM := fun fr σ => (comp fr σ).bind fun v σ => .ok (.next, fset fr x v) σ
theorem Xet {C : Wd} {k : Nat} {sc : Scope} {A : Around} {env : Env} {fr : Fr} {E : Value → Shared → Prop} {ρ ρ₁ : List Loc} {σ σ₁ σ' : Sg} {s s₁ s' : Shared} {ρ' : List Loc} {L : Addr} {m : Str → Option Value} {acc : Value} {Q : Flow → Shared → Prop} {n : Nat} {x : Sy} {nm : Str} {pos : Pos} (hx : sc.names.lookup x.s = some .local) (hn : nm = x.s)
    (a₀ : At C k sc A env fr ρ σ s) (st₀ : Step [] ρ s.heap ρ₁ s₁.heap) (a : At C k sc A env fr ρ₁ σ₁ s₁) (h : QX C k sc A env ρ s Q (.next, fset fr x (.ref n)) σ') (st : Step [] ρ₁ s₁.heap ρ' s'.heap) (r : Rel C ρ' σ' s') (v : VRel ρ' s'.heap (.ref n) acc)
    (hns : s'.heap.Ns L m) (h1 : s₁.heap.get? L = none) (hi : ¬ In ρ' L) (h0 : C.h₀.get? L = none) : compPost (model C.prog C.w) A E (some fun v => assignAll v [assign (.Name nm pos) env]) (fun _ s => Q .next s) acc L (.ok .next) s' := by
  subst hn
  have a' := a.next st r
  show wpAny _ _ (assign (.Name x.s pos) env acc) _ _ _
  refine wpAny_assign_Name (Xbh (b := false) a' (.inl hx) v fun s'' st' a'' => ?_)
  have hL : env.locals ≠ L := fun z => by
    refine @cps _ fun Γ γ => ?_
    obtain ⟨mm, hn, _⟩ := a.fr.ns
    obtain ⟨o, es, ep, g, _⟩ := hn
    refine γ ?_; clear γ Γ
    rw [z, h1] at g; cases g
  refine @cps _ fun Γ γ => ?_
  obtain ⟨o, es, ep, g, d, hk, hf⟩ := id hns
  obtain ⟨o', g', _, z⟩ := st'.evo L o g
  refine γ ?_; clear γ Γ
  obtain ⟨sl, rfl, _⟩ := z hi (by simp only [xsB, List.mem_singleton]; exact fun q => hL q.symm)
  have hns2 : s''.heap.Ns L m := ⟨_, es, ep, g', d, hk, hf⟩
  refine ⟨m, hns2, fun h' hs => ?_⟩
  have st3 : Step (XaP env) ρ₁ s₁.heap ρ' h' := ((st.w0.trans st').same h1 hs).weaken Xb2
  exact h _ _ _ (st₀.w0.trans st3) (a''.otherNs hns2 hi h0 hL hs (a.ax.step st3 fun b hb o g => by
    have hne : b ≠ L := fun z => by obtain ⟨o, e⟩ := a.fr.ex b hb; rw [z, h1] at e; cases e
    exact a''.fr.odd b hb o ((hs.2 b hne).symm.trans g))).1 rfl
theorem Xie {env : Env} {sc : Scope} {nm : Str} {np pos : Pos} {elt : Expr} {gens : List Comprehension} {scope : Scope} {cp : Pos} (hsc : env.scope = sc) (hsw : ∀ env, env.scope = sc → swapsWithSole [.Name nm np] (.ListComp elt gens scope cp) pos.line env = pure true) :
    exec (.Assign [.Name nm np] (.ListComp elt gens scope cp) pos) env = (do
      standAt pos
      (do let _ ← comprehension (.ListComp elt gens scope cp) scope env (firstIterPos gens cp) (newList []) (firstAsync gens) (firstIter gens env) (some fun v => assignAll v [assign (.Name nm np) env]))
      pure .next) := by
  rw [arm_exec_Assign, hsw env hsc]
  rfl
theorem XgM {C : Wd} {k : Nat} {sc : Scope} {nm : Str} {np apos : Pos} {elt target iter : Expr} {ifs : List Expr} {scope : Scope} {pos : Pos} {m : EM} {fs : List Sy} {t : TM} {p : BM} {e : EM} {x : Sy} (ok : CompOk scope sc fs) (hm : ES C k sc iter m) (ht : TS C k (UX scope sc) false target t) (hp : PS C k (UX scope sc) ifs p) (he : ES C k (UX scope sc) elt e)
    (hx : sc.names.lookup x.s = some .local) (hsw : ∀ env, env.scope = sc → swapsWithSole [.Name nm np] (.ListComp elt [⟨target, iter, ifs, 0⟩] scope pos) apos.line env = pure true) (hn : nm = x.s := by rfl)
    (hok : OkT target := by constructor) (hs : ∀ env x, foldedSetIterable iter env x = pure x := by intro _ _; rfl) : XS C k sc (.Assign [.Name nm np] (.ListComp elt [⟨target, iter, ifs, 0⟩] scope pos) apos) (XaM (Zz m fs t p e) x) := by
  intro A env fr ρ σ s Q E a h
  unfold XaM Zz at h
  rw [R.Ok_bind, R.Ok_bind] at h
  rw [Xie a.sc hsw]
  refine wpAny_bind (wpAny_standAt (wpAny_bind (wpAny_bind (wpAny_mono (Q := fun _ s => Q .next s) (E := E) ?_ (fun _ _ x => wpAny_pure (wpAny_pure x)) fun _ _ x => x))))
  refine wpAny_comprehension_free rfl (hs env) (Xfk a ok) ok.kind ok.loc (hm a (h.mono (fun v σ₁ h₁ ρ₁ s₁ w st r vw => ?_) fun _ x => QEX.to0 x))
  split at h₁
  · split at h₁
    · rename_i i _ l q
      refine @cps _ fun Γ γ => ?_
      obtain ⟨a1, vs, rfl, p1, l1, vv⟩ := r.h.list q vw
      refine γ ?_; clear γ Γ
      refine wpAny_pyIter_list l1.isList ?_
      have hn1 := Heap.size_none s₁.heap
      have hne : a1 ≠ s₁.heap.objs.size := by obtain ⟨n, g⟩ := l1; exact Nat.ne_of_lt (Heap.lt_size g)
      have st1 : Step [] ρ₁ s₁.heap ρ₁ (s₁.heap.push { cls := .type "list_iterator", data := .fields #[.ref a1, .int 0 0] }) := Step.push _ _
      have a1' := a.next st r
      have core := Xba (RR := fun acc L => compPost (model C.prog C.w) A E (some fun v => assignAll v [assign (.Name nm np) env]) (fun _ s => Q .next s) acc L) (pos := pos) (iter := iter) (s₁ := s₁) (n := l.length + 1) (PP := fun σ' => QX C k sc A env ρ s Q (.next, fset fr x (.ref σ₁.length)) σ') (Itr.list hne) ok ht hp he hok hn1 (a1'.next (s' := { s₁ with heap := _ }) st1 (r.push _)) st1 ⟨⟨_, Heap.get?_push_size _ rfl, rfl, rfl⟩, p1⟩ (XbV h₁) (Xak r.h hn1)
        (fun D L ρ' σ' s' mm PP st2 r2 v2 n2 h1 hi h0 => Xet hx hn a st a1' PP st2 r2 v2 n2 h1 hi h0)
      exact wpAny_mono core (fun _ _ x => Xa7 x) fun _ _ x => x.elim
    · exact h₁.elim
  · exact h₁.elim
theorem XdM {C : Wd} {k : Nat} {sc : Scope} {nm : Str} {np1 apos : Pos} {elt target ie : Expr} {np p1 : Pos} {ifs : List Expr} {scope : Scope} {pos : Pos} {m : EM} {fs : List Sy} {t : TM} {p : BM} {e : EM} {x : Sy} (hg : nsIn C.K mainGlobals "range" = some none) (ok : CompOk scope sc fs) (hm : ES C k sc ie m) (ht : TS C k (UX scope sc) false target t) (hp : PS C k (UX scope sc) ifs p) (he : ES C k (UX scope sc) elt e)
    (hx : sc.names.lookup x.s = some .local) (hsw : ∀ env, env.scope = sc → swapsWithSole [.Name nm np1] (.ListComp elt [⟨target, .Call (.Name "range" np) [ie] [] p1, ifs, 0⟩] scope pos) apos.line env = pure true) (hn : nm = x.s := by rfl)
    (hok : OkT target := by constructor) (hsc : sc.names.lookup ("range" : Str) = some .globalImplicit := by decide +kernel) (hp1 : ∀ env, (backTo p1 (starEach [ie] env)).any (·.1) = false := by intro _; rfl) (hq : ∀ env, starEach [ie] env = [(false, eval ie env)] := by intro _; rfl) :
    XS C k sc (.Assign [.Name nm np1] (.ListComp elt [⟨target, .Call (.Name "range" np) [ie] [] p1, ifs, 0⟩] scope pos) apos) (XaM (Vq m fs t p e) x) := by
  intro A env fr ρ σ s Q E a h
  unfold XaM Vq at h
  rw [R.Ok_bind, R.Ok_bind] at h
  rw [Xie a.sc hsw]
  refine wpAny_bind (wpAny_standAt (wpAny_bind (wpAny_bind (wpAny_mono (Q := fun _ s => Q .next s) (E := E) ?_ (fun _ _ x => wpAny_pure (wpAny_pure x)) fun _ _ x => x))))
  refine wpAny_comprehension_free rfl (by intro _; rfl) (Xfk a ok) ok.kind ok.loc (XeH a hm hg hsc hp1 hq ((VA h).mono (fun v σ₁ h₁ => ?_) fun _ x => x))
  split at h₁
  · rename_i n
    split at h₁
    · rename_i hb2
      refine ⟨n, rfl, hb2.1, hb2.2, fun ρ₁ s₁ s₂ it st r hn2 h0 a2 st2 j => ?_⟩
      have core := Xba (RR := fun acc L => compPost (model C.prog C.w) A E (some fun v => assignAll v [assign (.Name nm np1) env]) (fun _ s => Q .next s) acc L) (pos := pos) (iter := .Call (.Name "range" np) [ie] [] p1) (s₁ := s₁) (n := n.toNat + 1) (PP := fun σ' => QX C k sc A env ρ s Q (.next, fset fr x (.ref σ₁.length)) σ') Itr.range ok ht hp he hok hn2 a2 st2 j (XbV h₁) h0
        (fun D L ρ' σ' s' mm PP st2 r2 v2 n2 h1 hi h0 => Xet hx hn a st (a.next st r) PP st2 r2 v2 n2 h1 hi h0)
      exact wpAny_mono core (fun _ _ x => Xa7 x) fun _ _ x => x.elim
    · exact h₁.elim
  · exact h₁.elim
noncomputable abbrev LM := Nat → List MV → List MV → Sg → R MV
noncomputable def LS (C : Wd) (id : String) (f : LM) : Prop :=
  ∀ ⦃A : Around⦄ ⦃ρ : List Loc⦄ ⦃σ : Sg⦄ ⦃s : Shared⦄ ⦃i : Nat⦄ ⦃l args : List MV⦄ ⦃a : Addr⦄ ⦃items : Array Value⦄ ⦃n : Nat⦄ ⦃vs : List Value⦄ ⦃Q : Value → Shared → Prop⦄ ⦃E : Value → Shared → Prop⦄, Rel C ρ σ s → Ax C 0 A ρ s.heap → σ[i]? = some (.list l) → ρ[i]? = some (a, a) →
    s.heap.get? a = some { cls := .type "list", dict := none, data := .seq items n, slots := #[] } → VRels ρ s.heap l items.toList → VRels ρ s.heap args vs → (f i l args σ).Ok (QV C ρ s Q) (QE C A ρ s E) →
    argsOk id ⟨.ref a :: vs, []⟩ ∧ ∃ B S, entryFor table id = some B ∧ MeetsIn C.prog C.w (B ⟨.ref a :: vs, []⟩) S ∧ S A (wants Q E) s
noncomputable def mLm (f : LM) (o : EM) (args : EMs) : EM := fun fr σ => (o fr σ).bind fun ov σ => match ov with
  | .ref i => match σ[i]? with
    | some (.list _) => (args fr σ).bind fun vs σ => match σ[i]? with
      | some (.list l) => f i l vs σ
      | _ => .stuck
    | _ => .stuck
  | _ => .stuck
theorem UR {C : Wd} {k : Nat} {sc : Scope} {o : Expr} {n : Str} {apos pos : Pos} {es : List Expr} {id : String} {f : LM} {mo : EM} {ms : EMs} (hf : LS C id f) (slot : Slot "list" n id) (hty : typeOf (.builtin id) = pure (.type "method_descriptor")) (ho : ES C k sc o mo) (hs : ESs C k sc es ms)
    (hbase : ∀ env, attributeBase o n env (eval o env) = eval o env := by intro _; rfl)
    (hfew : ∀ env, ((backTo pos (starEach es env)).all (fun x => !x.1) && (backToKw pos (keywordEach [] env)).all (fun x => x.1.isSome) && decide (es.length + ([] : List Keyword).length + (if ([] : List Keyword).isEmpty then 0 else 1) < 30)) = true := by intro _; rfl)
    (hline : (apos.endLine == pos.line) = true := by rfl)
    (hp : ∀ pos env, (backTo pos (starEach es env)).any (·.1) = false := by intro _ _; rfl) : ES C k sc (.Call (.Attribute o n apos) es [] pos) (mLm f mo ms) := by
  intro A env fr ρ σ s Q E a h
  unfold mLm at h
  rw [R.Ok_bind] at h
  refine wpAny_Call_method (hbase env) (hfew env) hline F.plainAttrs_list slot hty (ho a (h.mono (fun mv σ₁ h₁ ρ₁ s₁ w st r v => ?_) fun _ x => x))
  cases mv with
  | ref i =>
    obtain ⟨_, q, h₁⟩ := Xc1 (o := σ₁[i]?) (f := fun _ => (ms fr σ₁).bind fun vs σ => match σ[i]? with
      | some (.list l) => f i l vs σ
      | _ => .stuck) (show _ from h₁)
    rw [R.Ok_bind] at h₁
    refine @cps _ fun Γ γ => ?_
    obtain ⟨a1, xs, rfl, p1, l1, vv⟩ := r.h.list q v
    refine γ ?_; clear γ Γ
    refine ⟨l1.isList.typeIs, fun b e => ?_, ?_⟩
    · cases e
      obtain ⟨n, g⟩ := l1
      exact ⟨_, g, rfl⟩
    · have slot2 := slot
      refine Calls.callWith_builtin (hp pos env) (Uw (hp pos env) (hs pos (a.next st r) (h₁.mono (fun vs σ₂ h₂ ρ₂ s₂ ws st₂ r₂ vs' => ?_) fun _ x => QE.chain x st)))
      refine @cps _ fun Γ γ => ?_
      obtain ⟨l, q2, h₂⟩ := Xc1 (o := σ₂[i]?) (f := fun l => f i l vs σ₂) (show _ from h₂)
      have v2 := v.step r.h st₂
      obtain ⟨a2, xs2, e2, p2, ⟨n2, g2⟩, vv2⟩ := r₂.h.list q2 v2
      refine γ ?_; clear γ Γ
      cases e2
      refine @cps _ fun Γ γ => ?_
      obtain ⟨z1, B, S, z2, z3, z4⟩ := hf r₂ ((a.ax.step (st.trans st₂)).le (Nat.zero_le _)) q2 p2 g2 vv2 vs' (h₂.mono (fun _ _ z => QV.chain z (st.trans st₂)) fun _ z => QE.chain z (st.trans st₂))
      refine γ ?_; clear γ Γ
      exact call_meetsIn slot ⟨_, g2, rfl⟩ z2 z1 z3 z4
  | _ => exact h₁.elim
theorem VRels.two {ρ : List Loc} {h : Heap} {a : MV} {vs : List Value} (v : VRels ρ h [a] vs) : ∃ w, vs = [w] ∧ VRel ρ h a w := by
  simp only [VRels] at v
  refine @cps _ fun Γ γ => ?_
  obtain ⟨w, ws, rfl, x, rfl⟩ := v
  refine γ ?_; clear γ Γ
  exact ⟨w, rfl, x⟩
theorem Meets.inn {prog : Program} {w : World} {t : Sem Fin} {S : PySem.Spec} (h : Meets t S) : MeetsIn prog w t S := fun A R s q => h prog w A R s q
noncomputable def Yt : LM := fun i l args σ => match args with
  | [v] => VS (l.length + 1) (.ok .none (σ.set i (.list (l ++ [v]))))
  | _ => .stuck
theorem Zy {C : Wd} : LS C "list.append" Yt := by
  intro A ρ σ s i l args a items n vs Q E r ax q p g vl va h
  cases args with
  | nil => exact h.elim
  | cons v rest =>
    cases rest with
    | cons _ _ => exact h.elim
    | nil =>
      unfold Yt at h
      dsimp only at h
      refine @cps _ fun Γ γ => ?_
      obtain ⟨w, rfl, vw⟩ := va.two
      obtain ⟨hn, h⟩ := WC h
      refine γ ?_; clear γ Γ
      have el := vl.length
      simp only [Array.length_toList] at el
      refine ⟨F.args_list_append_2 _ _, _, _, F.entry_list_append, Meets.inn (list_append a items n w (Nat.le_trans (Nat.le_of_lt (by lia)) UE)), g, ?_⟩
      obtain ⟨r', st⟩ := Vi (tk := s.toks) (f := fun x => x.push w) r p ⟨n, g⟩ (by simpa using vl.append (VRels.one vw))
      exact h _ _ _ st r' (by simp [VRel])
noncomputable def XcU : LM := fun i l args σ => match args with
  | [.int k] => match l with
    | v :: l => if k = 0 then VS (l.length + 1) (.ok v (σ.set i (.list l))) else .stuck
    | [] => .stuck
  | _ => .stuck
theorem Xbm {C : Wd} : LS C "list.pop" XcU := by
  intro A ρ σ s i l args a items n vs Q E r ax q p g vl va h
  cases args with
  | nil => exact h.elim
  | cons x rest =>
    cases rest with
    | cons _ _ => cases x <;> exact h.elim
    | nil =>
      cases x with
      | int k =>
        cases l with
        | nil => exact h.elim
        | cons v l =>
          refine @cps _ fun Γ γ => ?_
          obtain ⟨rfl, h⟩ := Vr h
          obtain ⟨w, rfl, vw⟩ := va.two
          refine γ ?_; clear γ Γ
          simp only [VRel] at vw
          obtain ⟨u, rfl⟩ := vw
          obtain ⟨hn, h⟩ := WC h
          have el := vl.length
          simp only [Array.length_toList, List.length_cons] at el
          have vl' := vl
          simp only [VRels] at vl'
          refine @cps _ fun Γ γ => ?_
          obtain ⟨x, xs, e, vx, vxs⟩ := vl'
          refine γ ?_; clear γ Γ
          have ei : items = (x :: xs).toArray := by rw [← e]
          subst ei
          refine ⟨F.args_list_pop_2 _ _, _, _, F.entry_list_pop, Meets.inn (MeetsSeq.list_pop_at a (x :: xs).toArray n 0 u 0 x (by decide) (by simp [seqIndex?]) (by simp) (Nat.le_trans (Nat.le_of_lt (by lia)) UE)), g, ?_⟩
          obtain ⟨r', st⟩ := Vi (tk := s.toks) (f := fun xs => xs.eraseIdxIfInBounds 0) (l' := l) r p ⟨n, g⟩ (by simpa [Array.eraseIdxIfInBounds] using vxs)
          exact h _ _ _ st r' (vx.step r.h st)
      | _ => exact h.elim
noncomputable def XbW : LM := fun i l args σ => match args with
  | [.ref j] => if i = j then .stuck else match σ[j]? with
    | some (.list l') => VS (l.length + l'.length) (.ok .none (σ.set i (.list (l ++ l'))))
    | _ => .stuck
  | _ => .stuck
theorem Xiv {C : Wd} : LS C "list.extend" XbW := by
  intro A ρ σ s i l args a items n vs Q E r ax q p g vl va h
  cases args with
  | nil => exact h.elim
  | cons x rest =>
    cases x with
    | ref j =>
      cases rest with
      | cons _ _ => exact h.elim
      | nil =>
        unfold XbW at h
        dsimp only at h
        by_cases hij : i = j
        · rw [if_pos hij] at h; exact h.elim
        · rw [if_neg hij] at h
          refine @cps _ fun Γ γ => ?_
          obtain ⟨l', q2, h⟩ := Xc1 (o := σ[j]?) (f := fun l' => VS (l.length + l'.length) (R.ok MV.none (σ.set i (MO.list (l ++ l'))))) (show _ from h)
          obtain ⟨w, rfl, vw⟩ := va.two
          obtain ⟨a2, ys, rfl, p2, ⟨n2, g2⟩, v2⟩ := r.h.list q2 vw
          obtain ⟨hn, h⟩ := WC h
          refine γ ?_; clear γ Γ
          have el := vl.length
          have el2 := v2.length
          simp only [Array.length_toList] at el el2
          have hb := UE
          refine ⟨F.args_list_extend_2 _ _, _, _, F.entry_list_extend, Meets.inn (AutoSeq1.list_extend_list_list_0 a items n a2 ys n2 ?_ (by lia) (by lia)), g, g2, ?_⟩
          · simp [Builtin.List.listTooLong]; intro _; lia
          obtain ⟨r', st⟩ := Vi (tk := s.toks) (f := fun xs => xs ++ ys) (l' := l ++ l') r p ⟨n, g⟩ (by simpa using vl.append v2)
          exact h _ _ _ st r' (by simp [VRel])
    | _ => exact h.elim
noncomputable def XbL (σ : Sg) (v : MV) : List MV → Option Nat
  | [] => none
  | m :: ms => match Xc4 σ m v with
    | some true => some 0
    | some false => (XbL σ v ms).map (· + 1)
    | none => none
theorem XdE {σ : Sg} {v m : MV} {ms : List MV} : XbL σ v (m :: ms) = match Xc4 σ m v with
    | some true => some 0
    | some false => (XbL σ v ms).map (· + 1)
    | none => none := rfl
noncomputable def Xb9 : LM := fun i l args σ => match args with
  | [v] => match XbL σ v l with
    | some j => VS l.length (.ok .none (σ.set i (.list (l.eraseIdx j))))
    | none => .stuck
  | _ => .stuck
theorem XiV {σ : Sg} {v : MV} {l : List MV} : ∀ {j : Nat}, XbL σ v l = some j → ∃ m, l[j]? = some m ∧ Xc4 σ m v = some true ∧ ∀ i, i < j → ∃ m, l[i]? = some m ∧ Xc4 σ m v = some false := by
  induction l with
  | nil =>
    intro j h
    cases h
  | cons m ms ih =>
    intro j h
    rw [XdE] at h
    split at h
    · rename_i e; cases h; exact ⟨m, rfl, e, fun i hi => absurd hi (Nat.not_lt_zero _)⟩
    · rename_i e
      simp only [Option.map_eq_some_iff] at h
      refine @cps _ fun Γ γ => ?_
      obtain ⟨j', h, rfl⟩ := h
      obtain ⟨m', h1, h2, h3⟩ := ih h
      refine γ ?_; clear γ Γ
      refine ⟨m', by simpa using h1, h2, fun i hi => ?_⟩
      cases i with
      | zero => exact ⟨m, rfl, e⟩
      | succ i => obtain ⟨m'', h4, h5⟩ := h3 i (by lia); exact ⟨m'', by simpa using h4, h5⟩
    · cases h
theorem Xd8 {prog : Program} {w : World} {A : Around} {R : Result → Shared → Prop} {s : Shared} {l : Addr} {items : Array Value} {n : Nat} {x : Value} {e : Nat → Bool} {j : Nat} (hj : j < items.size) (hs1 : items.size ≤ sizeLine) (hit : e j = true)
    (he : ∀ m (hm : m < items.size), m ≤ j → SeqAt.EqAt A.in1 s items[m] x (e m)) (hl : s.heap.get? l = some { cls := .type "list", dict := none, data := .seq items n, slots := #[] })
    (h : R (.ok (.ret .none)) { s with heap := s.heap.update l (Obj.mapSeq fun xs => xs.eraseIdxIfInBounds j) })  (k : Nat) : ∀ i : Nat, i + k = j → (∀ m, i ≤ m → m < j → e m = false) →
    wpAny (model prog w) A.in1 (Builtin.«list.remove.loop» ⟨[.ref l, x, rawInt i], []⟩) (fun fin s' => match fin with | .done f => R (.ok f) s' | .again c' => c'.quiet = true ∧ codeAny (model prog w) A c' R s') (fun e s' => R (.error e) s') s := by
  induction k with
  | zero =>
    intro i hk hno
    refine @cps _ fun Γ γ => ?_
    obtain ⟨hp, g, d, tk, os⟩ := s
    refine γ ?_; clear γ Γ
    have hij' : i = j := hk
    subst hij'
    wp_walk using wpAny_loadPart' hl
    have hi : items[((i : Nat) : Int).toNat]? = some items[i] := by simp [hj]
    rw [hi]
    refine wpAny_bind (he _ hj (Nat.le_refl _) prog w _ _ ?_)
    rw [hit]
    have hz' : (items.eraseIdxIfInBounds i).size ≤ sizeLine + 1 := Nat.le_trans (MeetsSeq.size_erased items _) (Nat.le_succ_of_le hs1)
    wp_walk using (wpAny_updateSeq hl rfl (hz := hs1) (_hz' := hz')), wpAny_loadPart' hl
    simpa using h
  | succ k ih =>
    intro i hk hno
    have ih := fun hno => ih (i + 1) ((Nat.succ_add i k).trans hk) hno
    have hij : i < j := hk ▸ Nat.lt_add_of_pos_right (Nat.succ_pos k)
    refine @cps _ fun Γ γ => ?_
    obtain ⟨hp, g, d, tk, os⟩ := s
    refine γ ?_; clear γ Γ
    have hlt : i < items.size := Nat.lt_trans hij hj
    wp_walk using wpAny_loadPart' hl
    have hi : items[((i : Nat) : Int).toNat]? = some items[i] := by simp [hlt]
    have hc : ((i : Int) + 1) = ((i + 1 : Nat) : Int) := by push_cast; rfl
    rw [hi]
    refine wpAny_bind (he _ hlt (Nat.le_of_lt hij) prog w _ _ ?_)
    rw [hno i (Nat.le_refl _) hij]
    wp_walk
    rw [hc]
    exact ⟨plainId_quiet MeetsSeq.plain_remove_loop _, codeAny_builtin MeetsSeq.entry_remove_loop (by
      rw [Around.under_plainId MeetsSeq.plain_remove_loop _]
      exact ih (fun m h1 h2 => hno m (Nat.le_of_succ_le h1) h2))⟩
theorem VRels.eraseIdx {ρ : List Loc} {h : Heap} {l : List MV} : ∀ {ws : List Value} {j : Nat}, VRels ρ h l ws → VRels ρ h (l.eraseIdx j) (ws.eraseIdx j) := by
  induction l with
  | nil => intro ws j e; simp only [VRels] at e; subst e; simp [VRels]
  | cons m l ih =>
    intro ws j e
    simp only [VRels] at e
    refine @cps _ fun Γ γ => ?_
    obtain ⟨w, ws, rfl, x1, x2⟩ := e
    refine γ ?_; clear γ Γ
    cases j with
    | zero => simpa using x2
    | succ j => simp only [List.eraseIdx_cons_succ, VRels]; exact ⟨_, _, rfl, x1, ih x2⟩
theorem XiC {C : Wd} : LS C "list.remove" Xb9 := by
  intro A ρ σ s i l args a items n vs Q E r ax q p g vl va h
  have one : ∃ v, args = [v] := by
    cases args with
    | nil => exact h.elim
    | cons v rest =>
      cases rest with
      | nil => exact ⟨v, rfl⟩
      | cons _ _ => exact h.elim
  obtain ⟨v, rfl⟩ := one
  unfold Xb9 at h
  dsimp only at h
  cases ej : XbL σ v l with
  | none => rw [ej] at h; exact h.elim
  | some j =>
    rw [ej] at h
    refine @cps _ fun Γ γ => ?_
    obtain ⟨w, rfl, vw⟩ := va.two
    obtain ⟨hn, h⟩ := WC h
    refine γ ?_; clear γ Γ
    have el := vl.length
    simp only [Array.length_toList] at el
    refine @cps _ fun Γ γ => ?_
    obtain ⟨m, h1, h2, h3⟩ := XiV ej
    refine γ ?_; clear γ Γ
    have hjl : j < items.size := by rw [el]; exact (List.getElem?_eq_some_iff.mp h1).1
    have hsz : items.size ≤ sizeLine := Nat.le_trans (Nat.le_of_lt (by lia)) UE
    have hu := ax.units
    have EQ : ∀ m (hm : m < items.size) mv b, l[m]? = some mv → Xc4 σ mv v = some b → SeqAt.EqAt A.in1 s items[m] w b := fun m hm mv b e1 e2 => by
      obtain ⟨y, e3, vy⟩ := vl.get e1
      have : y = items[m] := by
        have := e3
        simp [hm] at this
        exact this.symm
      subst this
      refine @cps _ fun Γ γ => ?_
      obtain ⟨da, db, as, bs, ra, rb, ca, cb, dd, rfl⟩ := Xft r.h vy vw e2
      refine γ ?_; clear γ Γ
      exact SeqAt.eqAt_reads da db A.in1 s _ _ as bs ra rb ca cb (Xmb ax.units dd)
    obtain ⟨r', st⟩ := Vi (tk := s.toks) (f := fun xs => xs.eraseIdxIfInBounds j) (l' := l.eraseIdx j) r p ⟨n, g⟩ (by
      have e : (items.eraseIdxIfInBounds j).toList = items.toList.eraseIdx j := by
        simp [Array.eraseIdxIfInBounds, hjl]
      rw [e]
      exact vl.eraseIdx)
    refine ⟨F.args_list_remove_2 _ _, _, fun A' R s' => A' = A ∧ s' = s ∧ R = wants Q E, F.entry_list_remove, ?_, rfl, rfl, rfl⟩
    rintro A' R s' ⟨rfl, rfl, rfl⟩
    have fin : Q .none { s' with heap := s'.heap.update a (Obj.mapSeq fun xs => xs.eraseIdxIfInBounds j) } := h _ _ _ st r' (by simp [VRel])
    have key := Xd8 (prog := C.prog) (w := C.w) (A := A') (R := wants Q E) (s := s') (l := a) (items := items) (n := n) (x := w) (e := fun m => decide (m = j)) (j := j) hjl hsz (by simp) (fun m hm hmj => by
      by_cases q : m = j
      · subst q; simpa using EQ m hm _ _ h1 h2
      · obtain ⟨mv, e1, e2⟩ := h3 m (by lia)
        simpa [q] using EQ m hm _ _ e1 e2) g fin j 0 (Nat.zero_add j) (fun m _ hm => decide_eq_false (Nat.ne_of_lt hm))
    refine @cps _ fun Γ γ => ?_
    obtain ⟨hp, gg, d, tk, os⟩ := s'
    refine γ ?_; clear γ Γ
    wp_walk using wpAny_loadPart' g
    exact ⟨plainId_quiet MeetsSeq.plain_remove_loop _, codeAny_builtin MeetsSeq.entry_remove_loop (by
      rw [Around.under_plainId MeetsSeq.plain_remove_loop _]
      exact key)⟩
noncomputable def Xmx : MV → Sg → R MV := fun a σ => match a with
  | .int x => rI (-x) σ
  | _ => .stuck
noncomputable def Xf5 (m : EM) : EM := fun fr σ => (m fr σ).bind Xmx
theorem XhN {C : Wd} {k : Nat} {sc : Scope} {e : Expr} {pos : Pos} {m : EM} (he : ES C k sc e m) : ES C k sc (.UnaryOp .USub e pos) (Xf5 m) := by
  intro A env fr ρ σ s Q E a h
  unfold Xf5 at h
  rw [R.Ok_bind] at h
  refine UnaryOp_ (he a (h.mono (fun mv σ₁ h₁ ρ₁ s₁ w st r v => ?_) fun _ x => x))
  cases mv with
  | int x =>
    simp only [VRel] at v
    obtain ⟨t, rfl⟩ := v
    exact PyProof.Rows.neg_int (QV.int (QV.chain h₁ st) r)
  | _ => exact h₁.elim
noncomputable def Xlb : OpM := fun a b σ => match a, b with
  | .int x, .int y => if x = 10 ∧ y = 18 then rI 1000000000000000000 σ else .stuck
  | _, _ => .stuck
theorem XlZ {C : Wd} : OpS C .Pow Xlb := by
  intro A ρ σ s Q E a b x y r ax va vb h
  refine @cps _ fun Γ γ => ?_
  obtain ⟨i, j, t, u, rfl, rfl, h⟩ := XcZ (f := fun x y => if x = 10 ∧ y = 18 then rI 1000000000000000000 σ else .stuck) va vb h
  obtain ⟨⟨rfl, rfl⟩, h⟩ := Vr h
  refine γ ?_; clear γ Γ
  exact AutoIntOps.pow_4 (by decide) (by decide) (by decide) (by decide) (by decide) (QV.int h r)
noncomputable def Xbg (f g : OpM) (a b c : EM) : BM := fun fr σ => (a fr σ).bind fun x σ => (b fr σ).bind fun y σ => (WM (f x y σ)).bind fun t σ => if t then (c fr σ).bind fun z σ => WM (g y z σ) else .ok false σ
theorem XiZ {C : Wd} {k : Nat} {sc : Scope} {l r₁ r₂ : Expr} {op₁ op₂ : CmpOp} {pos : Pos} {f g : OpM} {ml m1 m2 : EM} (hf : Xce C op₁ f) (hg : Xce C op₂ g) (hl : ES C k sc l ml) (h1 : ES C k sc r₁ m1) (h2 : ES C k sc r₂ m2)
    (hm : lastMarks [op₁, op₂] [r₁, r₂] = false := by with_unfolding_all rfl) : BS C k sc (.Compare l [op₁, op₂] [r₁, r₂] pos) (Xbg f g ml m1 m2) := by
  intro A env fr ρ σ s Q E a h
  unfold Xbg at h
  rw [R.Ok_bind] at h
  refine isTrue_chain (hl a (h.mono (fun v σ₁ h₁ ρ₁ s₁ w st r v => ?_) fun _ x => x)) hm
  rw [R.Ok_bind] at h₁
  refine test_link (h1 (a.next st r) (h₁.mono (fun v' σ₂ h₂ ρ₂ s₂ w' st₂ r₂ v' => ?_) fun _ x => QE.chain x st))
  rw [R.Ok_bind] at h₂
  have h₂ := Xah h₂
  have st' := st.trans st₂
  refine hf r₂ ((a.ax.step st').le (Nat.zero_le _)) (v.step r.h st₂) v' (h₂.mono (fun tv σ₃ z ρ₃ s₃ w₃ st₃ r₃ v₃ => ?_) fun _ z => QE.chain z st')
  obtain ⟨t, rfl, z⟩ := z
  simp only [VRel] at v₃
  subst v₃
  refine wpAny_truthy_bool ?_
  have st3 := st'.trans st₃
  cases t with
  | false => exact z _ _ st3 r₃
  | true =>
    rw [if_pos rfl] at z
    rw [R.Ok_bind] at z
    refine test_last (h2 (a.next st3 r₃) (z.mono (fun v4 σ₄ z4 ρ₄ s₄ w₄ st₄ r₄ v4 => ?_) fun _ x => QE.chain x st3))
    have z4 := Xah z4
    have st4 := st3.trans st₄
    refine hg r₄ ((a.ax.step st4).le (Nat.zero_le _)) ((v'.step r₂.h st₃).step r₃.h st₄) v4 (z4.mono (fun tv σ₅ z5 ρ₅ s₅ w₅ st₅ r₅ v₅ => ?_) fun _ z => QE.chain z st4)
    obtain ⟨t, rfl, z5⟩ := z5
    simp only [VRel] at v₅
    subst v₅
    exact wpAny_truthy_bool (z5 _ _ (st4.trans st₅) r₅)
theorem Xi3 (n : Nat) (hn : 1 ≤ n) : Builtin.Slice.sliceAdjust (some ((1 : Nat) : Int)) (some (2 : Int)) 1 (n : Int) = (((1 : Nat) : Int), (((min 2 n : Nat)) : Int)) := by
  unfold Builtin.Slice.sliceAdjust
  have h1 : ¬ ((1 : Int) < 0) := by lia
  have h3 : ¬ ((2 : Int) < 0) := by lia
  simp [h1, h3]
  match n, hn with
  | 1, _ => exact ⟨rfl, rfl⟩
  | n + 2, _ =>
    have e : min 2 ((n + 2 : Nat) : Int) = 2 := Int.min_eq_left (Int.ofNat_le.mpr (Nat.le_add_left 2 n))
    exact ⟨Int.min_eq_left (Int.ofNat_le.mpr (Nat.le_add_left 1 (n + 1))), e.trans (congrArg Nat.cast (Nat.min_eq_left (Nat.le_add_left 2 n))).symm⟩
theorem Xi1 (n : Nat) (hn : 1 ≤ n) : Builtin.Slice.slicePlaces ((1 : Nat) : Int) (((min 2 n : Nat)) : Int) 1 = min 2 n - 1 := by
  unfold Builtin.Slice.slicePlaces
  have h1 : (1 : Int) > 0 := by lia
  simp only [h1, if_true, Int.ediv_one]
  have : min 2 n = 1 ∨ min 2 n = 2 := by
    match n, hn with
    | 1, _ => exact .inl rfl
    | n + 2, _ => exact .inr (Nat.min_eq_left (Nat.le_add_left 2 n))
  rcases this with h | h <;> rw [h] <;> rfl
theorem Xc6 {prog : Program} {w : World} {A : Around} {E : Value → Shared → Prop} {s : Shared} {sl : Addr} {n : Nat} {u v : Tok} {Q : Int × Int × Nat → Shared → Prop} (hs : s.heap.IsSliceOf sl (.int ((1 : Nat) : Int) u) (.int 2 v) .none) (ha : 1 ≤ n) (h : Q (((1 : Nat) : Int), 1, min 2 n - 1) s) :
    wpAny (model prog w) A (Builtin.Slice.sliceApplied (.ref sl) (pure (n : Int))) Q E s := by
  refine @cps _ fun Γ γ => ?_
  obtain ⟨os, hos, hcs, hds⟩ := id hs
  refine γ ?_; clear γ Γ
  unfold Builtin.Slice.sliceApplied Builtin.Slice.sliceFields
  refine wpAny_bind (wpAny_bind (wpAny_field hos hds (x := .int ((1 : Nat) : Int) u) rfl (wpAny_bind (wpAny_field hos hds (x := .int 2 v) rfl (wpAny_bind (wpAny_field hos hds (x := .none) rfl (wpAny_pure ?_)))))))
  refine wpAny_bind (slicePart_none ?_)
  show wpAny _ _ (if ((1 : Int) == 0) = true then _ else _) _ _ s
  rw [if_neg (by decide)]
  refine wpAny_bind (slicePart_int (wpAny_bind (slicePart_int (wpAny_bind (wpAny_pure ?_)))))
  show wpAny _ _ (match Builtin.Slice.sliceAdjust (some ((1 : Nat) : Int)) (some (2 : Int)) 1 (n : Int) with | (lo, hi) => pure (lo, (1 : Int), Builtin.Slice.slicePlaces lo hi 1)) _ _ s
  rw [Xi3 n ha]
  show wpAny _ _ (pure (((1 : Nat) : Int), (1 : Int), Builtin.Slice.slicePlaces ((1 : Nat) : Int) (((min 2 n : Nat)) : Int) 1)) _ _ s
  rw [Xi1 n ha]
  exact wpAny_pure h
theorem Xk1 (xs : Array Value) : ((List.range (min 2 xs.size - 1)).filterMap fun (k : Nat) => xs[(((1 : Nat) : Int) + (k : Int) * 1).toNat]?).toArray = ((xs.toList.drop 1).take 1).toArray := by
  obtain ⟨l⟩ := xs
  match l with
  | [] => rfl
  | [a] => rfl
  | a :: b :: r =>
    have : min 2 (List.toArray (a :: b :: r)).size - 1 = 1 := by simp
    rw [this]
    simp [List.range, List.range.loop]
theorem XcJ {prog : Program} {w : World} {A : Around} {E : Value → Shared → Prop} {s : Shared} {t sl : Addr} {items : Array Value} {u v : Tok} {Q : Value → Shared → Prop} (ht : IsTup s.heap t items) (hs : s.heap.IsSliceOf sl (.int ((1 : Nat) : Int) u) (.int 2 v) .none) (ha : 1 ≤ items.size)
    (h : Q (.ref s.heap.objs.size) { s with heap := s.heap.push { cls := .type "tuple", data := .seq ((items.toList.drop 1).take 1).toArray } }) : wpAny (model prog w) A (getItem (.ref t) (.ref sl)) Q E s := by
  have hdrop : sizeOk (.seq ((items.toList.drop 1).take 1).toArray) := by
    show ((items.toList.drop 1).take 1).toArray.size ≤ sizeLine
    have := UE
    rw [List.size_toArray, List.length_take]
    exact Nat.le_trans (Nat.min_le_left _ _) (Nat.le_trans (by decide) this)
  refine @cps _ fun Γ γ => ?_
  obtain ⟨os, hos, hcs, hds⟩ := id hs
  refine γ ?_; clear γ Γ
  have hTs : s.TypeIs (.ref sl) "slice" := ⟨os, hos, hcs⟩
  unfold getItem
  try with_reducible refine wpAny_holding ?_
  first | refine wpAny_bind (wpAny_pure ?_) | skip
  refine wpAny_bind (wpAny_sequenceKey ht.typeIs (by decide) ?_)
  refine wpAny_bind (wpAny_callSpecial?_slot (name := Str.ofString "__getitem__") ht.typeIs slot_tuple_getitem
    (wpAny_call_entry slot_tuple_getitem ht.typeIs entry_tuple_getitem ?_ (args_tuple_getitem _ _)))
  show wpAny _ _ (Builtin.Tuple.tupleItemsOf (.ref t) >>= _) _ _ s
  refine wpAny_bind (tupleItemsOf_ ht ?_)
  refine wpAny_bind (wpAny_typeOf hTs ?_)
  rw [if_pos (by decide)]
  refine wpAny_bind (Xc6 hs ha ?_)
  have hno : ¬ ((((1 : Nat) : Int) == 0 && (1 : Int) == 1 && (min 2 items.size - 1) == items.size) = true) := by
    simp
  show wpAny _ _ (if (((1 : Nat) : Int) == 0 && (1 : Int) == 1 && (min 2 items.size - 1) == items.size) = true then _ else _) _ _ s
  rw [if_neg hno, Xk1 items]
  first
    | exact wpAny_bind (m := Builtin.Tuple.tupleExact _) (wpAny_newObj_type (wpAny_pure ⟨_, rfl, wpAny_pure h⟩) hdrop)
    | exact wpAny_bind (m := Builtin.Tuple.tupleExact _) (wpAny_newObj_type (wpAny_bind (wpAny_pure (wpAny_pure ⟨_, rfl, wpAny_pure h⟩))) hdrop)
    | exact wpAny_bind (wpAny_bind (m := Builtin.Tuple.tupleExact _) (wpAny_newObj_type (wpAny_pure (wpAny_pure ⟨_, rfl, wpAny_pure h⟩)) hdrop))
    | exact wpAny_bind (wpAny_bind (m := Builtin.Tuple.tupleExact _) (wpAny_newObj_type (wpAny_pure ⟨_, rfl, wpAny_pure h⟩) hdrop))
noncomputable def o12 : MV → Sg → R MV := fun a σ => match a with
  | .tup (x :: l) => .ok (.tup (l.take 1)) σ
  | _ => .stuck
noncomputable def m12 (m : EM) : EM := fun fr σ => (m fr σ).bind o12
theorem Xoo {C : Wd} {k : Nat} {sc : Scope} {value : Expr} {x1 x2 : Nat} {p p' p'' pos : Pos} {m : EM} (hl : ES C k sc value m) : ES C k sc (.Subscript value (.Slice (some (.Constant (.int 1) x1 p')) (some (.Constant (.int 2) x2 p'')) none p) pos) (m12 m) := by
  intro A env fr ρ σ s Q E a h
  unfold m12 at h
  rw [R.Ok_bind] at h
  refine Subscript_ (hl a (h.mono (fun mv σ₁ h₁ ρ₁ s₁ w st r v => ?_) fun _ x => x))
  cases mv with
  | tup l0 =>
    cases l0 with
    | nil => exact h₁.elim
    | cons x l =>
      simp only [VRel] at v
      refine @cps _ fun Γ γ => ?_
      obtain ⟨a1, vs, rfl, t1, vv⟩ := v
      refine γ ?_; clear γ Γ
      have el := vv.length
      simp only [Array.length_toList, List.length_cons] at el
      refine wpAny_Slice (wpAny_Constant_int (k := x1) (pos := p') (wpAny_Constant_int (k := x2) (pos := p'') (wpAny_pure ?_)))
      have t2 : IsTup (s₁.heap.push { cls := .type "slice", data := .fields #[.int ((1 : Nat) : Int) s₁.toks, .int 2 (s₁.toks + 1), .none] }) a1 vs := t1.push _
      refine Xem t2.typeIs slot_tuple_getitem.lookup (XcJ t2 (Heap.IsSliceOf.new _ _ _ _) (by lia) ?_)
      refine h₁ ρ₁ _ _ (st.trans ((Step.push _ _).trans (Step.push _ _))) ?_ ?_
      · exact ((r.push _).toks _).push _
      · simp only [VRel]
        refine ⟨_, ((vs.toList.drop 1).take 1).toArray, rfl, IsTup.new _ _, ?_⟩
        simpa using (((vv.step r.h (Step.push _ _)).step (r.h.push _) (Step.push _ _)).drop 1).take 1
  | _ => exact h₁.elim
noncomputable def XiA (x : Int) : List Int → List Int
  | [] => [x]
  | y :: l => if x ≤ y then x :: y :: l else y :: XiA x l
theorem XjN {x y : Int} {l : List Int} : XiA x (y :: l) = if x ≤ y then x :: y :: l else y :: XiA x l := rfl
noncomputable def Xa5 : List Int → List Int
  | [] => []
  | x :: l => XiA x (Xa5 l)
theorem XcP (x : Int) : ∀ l : List Int, (XiA x l).Perm (x :: l)
  | [] => List.Perm.refl _
  | y :: l => by
    rw [XjN]
    split
    · exact List.Perm.refl _
    · exact ((XcP x l).cons y).trans (List.Perm.swap ..)
theorem XdF : ∀ l : List Int, (Xa5 l).Perm l
  | [] => List.Perm.refl _
  | x :: l => (XcP x _).trans ((XdF l).cons x)
theorem Xc0 (x : Int) : ∀ l : List Int, l.Pairwise (· ≤ ·) → (XiA x l).Pairwise (· ≤ ·)
  | [], _ => List.pairwise_singleton _ _
  | y :: l, h => by
    rw [List.pairwise_cons] at h
    rw [XjN]
    split
    · rename_i hx
      refine List.pairwise_cons.mpr ⟨fun z hz => ?_, List.pairwise_cons.mpr h⟩
      rcases List.mem_cons.mp hz with rfl | hz
      · exact hx
      · exact Int.le_trans hx (h.1 z hz)
    · rename_i hx
      refine List.pairwise_cons.mpr ⟨fun z hz => ?_, Xc0 x l h.2⟩
      rcases List.mem_cons.mp ((XcP x l).mem_iff.mp hz) with rfl | hz
      · lia
      · exact h.1 z hz
theorem Xb7 : ∀ l : List Int, (Xa5 l).Pairwise (· ≤ ·)
  | [] => List.Pairwise.nil
  | x :: l => Xc0 x _ (Xb7 l)
theorem Xcn {l l' : List Int} (p : l'.Perm l) (s : l'.Pairwise (· ≤ ·)) : l' = Xa5 l :=
  List.Perm.eq_of_pairwise (le := (· ≤ ·)) (fun _ _ _ _ h1 h2 => Int.le_antisymm h1 h2) s (Xb7 l) (p.trans (XdF l).symm)
noncomputable def XaJ : List MV → Sg → R MV := fun args σ => match args with
  | [.ref i] => match σ[i]? with
    | some (.list l) => match Xaf l with
      | some ns => if l.length < 64 then .ok (.ref σ.length) (σ ++ [.list ((Xa5 ns).map .int)]) else .stuck
      | none => .stuck
    | _ => .stuck
  | _ => .stuck
theorem XhL {ρ : List Loc} {h : Heap} {ns : List Int} : ∀ {vs : List Value}, IntsAre vs ns → VRels ρ h (ns.map .int) vs := by
  induction ns with
  | nil =>
    intro vs e
    cases e
    simp [VRels]
  | cons n ns ih =>
    intro vs e
    cases e with
    | cons _ t r =>
      simp only [List.map_cons, VRels, VRel]
      exact ⟨_, _, rfl, ⟨t, rfl⟩, ih r⟩
theorem Xi5 {C : Wd} {k : Nat} : CS C k (.builtin "sorted") XaJ := by
  intro A ρ σ s args vs Q E r ax v h
  have one : ∃ i, args = [.ref i] := by
    cases args with
    | nil => exact h.elim
    | cons x rest =>
      cases rest with
      | nil =>
        cases x with
        | ref i => exact ⟨i, rfl⟩
        | _ => exact h.elim
      | cons _ _ => cases x <;> exact h.elim
  obtain ⟨i, rfl⟩ := one
  obtain ⟨l, q, h⟩ := Xc1 (α := MV) (P := QV C ρ s Q) (X := QE C A ρ s E) (o := σ[i]?) (f := fun l => match Xaf l with
    | some ns => if l.length < 64 then R.ok (MV.ref σ.length) (σ ++ [.list ((Xa5 ns).map .int)]) else R.stuck
    | none => R.stuck) (by unfold XaJ at h; dsimp only at h; exact h)
  cases e : Xaf l with
  | none => rw [e] at h; exact h.elim
  | some ns =>
    rw [e] at h
    obtain ⟨hn, h⟩ := Vr h
    simp only [VRels] at v
    refine @cps _ fun Γ γ => ?_
    obtain ⟨w, ws, rfl, v1, rfl⟩ := v
    obtain ⟨a1, xs, rfl, p1, l1, vv⟩ := r.h.list q v1
    refine γ ?_; clear γ Γ
    have el := vv.length
    refine sorted_ints (vs := xs.toList) (by simpa using l1.isList) (Xel vv e) (by rw [el]; exact hn) fun out ns' i1 i2 i3 => ?_
    have e3 := Xcn i2 i3
    subst e3
    obtain ⟨ep, hat⟩ := sortedAll_at s.heap xs.toList out
    have kp : ∀ b o, s.heap.get? b = some o → (sortedAll s.heap xs.toList out).get? b = some o := fun b o e => sortedAll_old e
    have hp : ∀ a, Loc.has (s.heap.objs.size + 1, s.heap.objs.size + 1) a → s.heap.get? a = none := fun a ha => by
      have : a = s.heap.objs.size + 1 := ha.elim id id
      subst this
      cases z : s.heap.get? (s.heap.objs.size + 1) with
      | none => rfl
      | some o => exact absurd (Heap.lt_size z) (Nat.not_lt.mpr (Nat.le_succ _))
    have st : Step [] ρ s.heap (ρ ++ [(s.heap.objs.size + 1, s.heap.objs.size + 1)]) (sortedAll s.heap xs.toList out) := Step.grow1 kp hp
    refine h _ { s with heap := sortedAll s.heap xs.toList out } _ st ⟨r.h.grow kp hp ⟨rfl, out, ⟨ep, hat⟩, XhL i1⟩, r.gens, r.os⟩ ?_
    simp only [VRel]
    exact ⟨(s.heap.objs.size + 1, s.heap.objs.size + 1), by rw [← r.h.len]; simp, rfl⟩
noncomputable def DS (C : Wd) (k : Nat) (sc : Scope) (ks : List (Option Expr)) (es : List Expr) (names : List Sy) (m : EMs) : Prop :=
  ∀ ⦃A : Around⦄ ⦃env : Env⦄ ⦃fr : Fr⦄ ⦃ρ : List Loc⦄ ⦃σ : Sg⦄ ⦃s : Shared⦄ ⦃Q : List (Value × Value) → Shared → Prop⦄ ⦃E : Value → Shared → Prop⦄ (pos : Pos), At C k sc A env fr ρ σ s →
    (m fr σ).Ok (fun vs σ' => ∀ ρ' s' ps, Step [] ρ s.heap ρ' s'.heap → Rel C ρ' σ' s' → allStrKeys ps = true → (strPairs ps).map (·.1) = names.map Sy.s → VRels ρ' s'.heap vs ((strPairs ps).map (·.2)) → Q ps s') (QE C A ρ s E) →
    wpAny (model C.prog C.w) A (evalPairs (pairTrees ks es env pos)) Q E s
theorem Xnk {C : Wd} {k : Nat} {sc : Scope} : DS C k sc [] [] [] Xi := fun _ _ _ _ _ _ _ _ _ a h => pairTrees_nil_walk (h _ _ _ (Step.refl ..) a.rel rfl rfl (by simp [strPairs, VRels]))
theorem Wv {C : Wd} {k : Nat} {sc : Scope} {n : Str} {x : Sy} {x1 : Nat} {p : Pos} {e : Expr} {ks : List (Option Expr)} {es : List Expr} {names : List Sy} {m : EM} {ms : EMs} (he : ES C k sc e m) (hs : DS C k sc ks es names ms) (hn : n = x.s := by rfl) :
    DS C k sc (some (.Constant (.str n) x1 p) :: ks) (e :: es) (x :: names) (Xe m ms) := by
  subst hn
  intro A env fr ρ σ s Q E pos a h
  unfold Xe at h
  rw [R.Ok_bind] at h
  refine pairTrees_cons_walk (XH (C := C) (k := k) (sc := sc) (x := x) (n := x.s) (x1 := x1) (pos := p) rfl a (?_ : QV C ρ s _ _ _))
  intro ρ₀ s₀ w₀ st₀ r₀ v₀
  simp only [VRel] at v₀
  obtain ⟨t, rfl⟩ := v₀
  refine he (a.next st₀ r₀) (h.mono (fun v σ₁ h₁ ρ₁ s₁ w st r v => ?_) fun _ x => QE.chain x st₀)
  have st1 := st₀.trans st
  rw [R.Ok_bind] at h₁
  refine hs pos (a.next st1 r) (h₁.mono (fun vs σ₂ h₂ ρ₂ s₂ ps st₂ r₂ z1 z2 z3 => ?_) fun _ x => QE.chain x st1)
  exact h₂ _ _ _ (st1.trans st₂) r₂ (by simpa [allStrKeys] using z1) (by simp [strPairs, z2]) (by
    simp only [strPairs, List.map_cons, VRels]
    exact ⟨_, _, rfl, v.step r.h st₂, z3⟩)
noncomputable def Xid (names : List Sy) (m : EMs) : EM := fun fr σ => (m fr (σ ++ [.dict []])).bind fun vs σ' => match σ'[σ.length]? with
  | some (.dict l) => if l.isEmpty = true ∧ vs.length = names.length then .ok (.ref σ.length) (σ'.set σ.length (.dict (names.zip vs))) else .stuck
  | _ => .stuck
theorem Xl4 {C : Wd} {k : Nat} {sc : Scope} {ks : List (Option Expr)} {es : List Expr} {pos : Pos} {names : List Sy} {m : EMs} (hs : DS C k sc ks es names m) (hnd : names.Nodup := by decide) (hall : ks.all (·.isSome) = true := by rfl) (hl : ks.length = es.length := by rfl) (h0 : ks ≠ [] := by nofun) (hlen : ks.length ≤ 15 := by decide) :
    ES C k sc (.Dict ks es pos) (Xid names m) := by
  intro A env fr ρ σ s Q E a h
  unfold Xid at h
  rw [R.Ok_bind] at h
  have hp : ∀ a, Loc.has (s.heap.objs.size, s.heap.objs.size) a → s.heap.get? a = none := fun a ha => by
    have : a = s.heap.objs.size := ha.elim id id
    subst this; exact Heap.size_none _
  have st : Step [] ρ s.heap (ρ ++ [(s.heap.objs.size, s.heap.objs.size)]) (s.heap.push { cls := .type "dict", data := .dict #[] }) := Step.grow1 (VZ _ _) hp
  have r : Rel C (ρ ++ [(s.heap.objs.size, s.heap.objs.size)]) (σ ++ [.dict []]) { s with heap := s.heap.push { cls := .type "dict", data := .dict #[] } } := ⟨a.rel.h.grow (VZ _ _) hp ⟨rfl, [], Heap.DictOf.new _, rfl, by simp [VRels]⟩, a.rel.gens, a.rel.os⟩
  have hidx : (ρ ++ [(s.heap.objs.size, s.heap.objs.size)])[σ.length]? = some (s.heap.objs.size, s.heap.objs.size) := by rw [← a.rel.h.len]; simp
  refine wpAny_Dict_walk (knd := strKind C.prog C.w) hall hl h0 hlen (hs pos (a.next (s' := { s with heap := s.heap.push { cls := .type "dict", data := .dict #[] } }) st r) (h.mono (fun vs σ₁ h₁ ρ₁ s₁ ps st₁ r₁ z1 z2 z3 => ?_) fun _ x => QE.chain (s₁ := { s with heap := s.heap.push { cls := .type "dict", data := .dict #[] } }) x st))
  refine @cps _ fun Γ γ => ?_
  obtain ⟨l0, q, h₁⟩ := XmL (o := σ₁[σ.length]?) (f := fun l => if l.isEmpty = true ∧ vs.length = names.length then R.ok (MV.ref σ.length) (σ₁.set σ.length (.dict (names.zip vs))) else R.stuck) (show _ from h₁)
  obtain ⟨⟨hl0, hlen⟩, h₁⟩ := Vr h₁
  refine γ ?_; clear γ Γ
  rw [List.isEmpty_iff.mp hl0] at q
  have vref : VRel (ρ ++ [(s.heap.objs.size, s.heap.objs.size)]) (s.heap.push { cls := .type "dict", data := .dict #[] }) (.ref σ.length) (.ref s.heap.objs.size) := by simp only [VRel]; exact ⟨_, hidx, rfl⟩
  have vref1 := vref.step r.h st₁
  refine @cps _ fun Γ γ => ?_
  obtain ⟨a1, kvs, e1, p1, d1, k1, _⟩ := r₁.h.dict q vref1
  refine γ ?_; clear γ Γ
  cases e1
  have : kvs = [] := by simpa using k1
  subst this
  refine display_done_str z1 ?_ d1 fun h' hd hsb => ?_
  · rw [z2]; exact Xh3 hnd
  · have e3 : (names.zip vs).map (·.2) = vs := by
      rw [List.map_snd_zip]; lia
    have e4 : (names.zip vs).map (·.1.s) = names.map Sy.s := by
      have : (names.zip vs).map (·.1) = names := by rw [List.map_fst_zip]; lia
      have e5 := congrArg (List.map Sy.s) this
      rw [List.map_map] at e5
      exact e5
    obtain ⟨r2, st2⟩ := Xb4 (tk := s₁.toks + ps.length) r₁ p1 hd hsb (l' := names.zip vs) (z2.trans e4.symm) (by rw [e3]; exact z3)
    refine h₁ _ _ _ ((st.trans st₁).trans st2) r2 ?_
    exact vref1.step r₁.h st2
noncomputable def sc0 : Scope := ⟨.module, [], false, false, []⟩
noncomputable def fd0 : FuncData := ⟨"", "", ⟨[], [], none, [], [], none, []⟩, .stmts [], sc0, 0, [], .none, .none, .none, .none, none, .none, .none, 0⟩
noncomputable def Vd (K : Frag) (f : Addr) : FuncData := match K.lookup f with
  | some ⟨_, _, .func fd, _⟩ => fd
  | _ => fd0
noncomputable def stOf (fd : FuncData) : List Stmt := match fd.body with
  | .stmts b => b
  | _ => []
noncomputable def Xr (i : Nat) : Stmt := (PySem.Challenge.pw_on0027_01.main.body[i]?).getD (.Pass ⟨0, 0, 0, 0⟩)
noncomputable def Ye (s : Stmt) (j : Nat) : Stmt := match s with
  | .ClassDef _ _ _ body _ _ _ _ _ _ _ => (body[j]?).getD s
  | _ => s
noncomputable def scD : Stmt → Scope
  | .FunctionDef _ _ _ _ _ _ scope _ _ _ => scope
  | _ => sc0
noncomputable def bdD : Stmt → List Stmt
  | .FunctionDef _ _ body _ _ _ _ _ _ _ => body
  | _ => []
noncomputable def paD : Stmt → Arguments
  | .FunctionDef _ args _ _ _ _ _ _ _ _ => args
  | _ => ⟨[], [], none, [], [], none, []⟩
noncomputable def Xfl (K : Frag) (f : Addr) (xs : List Sy) : Bool := match K.lookup f with
  | some ⟨_, _, .func fd, _⟩ => (match fd.body with | .stmts _ => true | _ => false) && fd.closure.isEmpty && fd.globals == mainGlobals && fd.builtins == builtinsNs && codeIn K fd.code fd.qualname && xs.all (fun x => decide (fd.scope.names.lookup x.s = some .local)) &&
      decide xs.Nodup && decide ((cellsFrom 0 fd.scope.names []).map (·.1)).Nodup && !fd.scope.isCoroutine && !fd.scope.isGenerator && decide (fd.scope.kind = .function)
  | _ => false
theorem XlT {o : Option Obj} {g : FuncData → Bool} (h : (match (generalizing := false) o with
    | some ⟨_, _, .func fd, _⟩ => g fd
    | _ => false) = true) : ∃ oc od fd osl, o = some ⟨oc, od, .func fd, osl⟩ ∧ g fd = true := by
  split at h
  · exact ⟨_, _, _, _, rfl, h⟩
  · cases h
theorem Xk8 {fd : FuncData} (h : (match fd.body with | .stmts _ => true | _ => false) = true) : fd.body = .stmts (stOf fd) := by
  unfold stOf
  cases q : fd.body with
  | stmts b => rfl
  | _ => rw [q] at h; cases h
theorem Xdv {K : Frag} {f : Addr} {xs : List Sy} (ok : Xfl K f xs = true) : ∃ oc od fd osl, K.lookup f = some ⟨oc, od, .func fd, osl⟩ ∧ Vd K f = fd ∧ fd.body = .stmts (stOf fd) ∧ fd.closure = [] ∧ fd.globals = mainGlobals ∧ fd.builtins = builtinsNs ∧ codeIn K fd.code fd.qualname = true ∧ (∀ x ∈ xs, fd.scope.names.lookup x.s = some .local) ∧
    xs.Nodup ∧ ((cellsFrom 0 fd.scope.names []).map (·.1)).Nodup ∧ fd.scope.isCoroutine = false ∧ fd.scope.isGenerator = false ∧ fd.scope.kind = .function := by
  refine @cps _ fun Γ γ => ?_
  obtain ⟨oc, od, fd, osl, ho, ok⟩ := XlT (g := fun fd => _) ok
  refine γ ?_; clear γ Γ
  have e : Vd K f = fd := by unfold Vd; rw [ho]
  simp only [Bool.and_eq_true, List.isEmpty_iff, beq_iff_eq, List.all_eq_true, decide_eq_true_eq, Bool.not_eq_true'] at ok
  exact ⟨oc, od, fd, osl, ho, e, Xk8 ok.1.1.1.1.1.1.1.1.1.1, ok.1.1.1.1.1.1.1.1.1.2, ok.1.1.1.1.1.1.1.1.2, ok.1.1.1.1.1.1.1.2, ok.1.1.1.1.1.1.2, ok.1.1.1.1.1.2, ok.1.1.1.1.2, ok.1.1.1.2, ok.1.1.2, ok.1.2, ok.2⟩
theorem ZA {C : Wd} {k : Nat} {f : Addr} {m : XM} {sc : Scope} {bd : List Stmt} (ps ds : List Sy) (ok : Xfl C.K f (ps ++ ds) = true) (hsc : (Vd C.K f).scope = sc) (hbd : stOf (Vd C.K f) = bd) (hb : XSs C k sc bd m)
    (hbind : ∀ (s : Shared) (vs : List Value), vs.length = ps.length → C.K.In s.heap → BindsTo s (Vd C.K f) ⟨vs, []⟩ (((ps ++ ds).map Sy.s).zip (vs ++ ds.map fun _ => Value.none))) : FS C (k + 1) f (ZU ps ds m) := by
  refine @cps _ fun Γ γ => ?_
  obtain ⟨oc, od, fd, osl, ho, e, hb0, o2, o3, o4, o5, o6, o7, o8, o9, o10, o11⟩ := Xdv ok
  refine γ ?_; clear γ Γ
  rw [e] at hsc hbd hbind
  subst hsc hbd
  intro A ρ σ s args vs G r ax v q
  exact Xn6 ps ds ho hb0 hb hbind o2 o3 o4 o5 o6 o7 o8 o9 o10 o11 r ax v q
theorem Xoa {C : Wd} {k : Nat} {f : Addr} {m : XM} {sc : Scope} {bd : List Stmt} (ps ds : List Sy) (ok : Xfl C.K f (ps ++ ds) = true) (hsc : (Vd C.K f).scope = sc) (hbd : stOf (Vd C.K f) = bd) (hb : Xhz C k sc bd m)
    (hbind : ∀ (s : Shared) (vs : List Value), vs.length = ps.length → C.K.In s.heap → BindsTo s (Vd C.K f) ⟨vs, []⟩ (((ps ++ ds).map Sy.s).zip (vs ++ ds.map fun _ => Value.none))) : FS C (k + 1) f (ZU ps ds m) := by
  refine @cps _ fun Γ γ => ?_
  obtain ⟨oc, od, fd, osl, ho, e, hb0, o2, o3, o4, o5, o6, o7, o8, o9, o10, o11⟩ := Xdv ok
  refine γ ?_; clear γ Γ
  rw [e] at hsc hbd hbind
  subst hsc hbd
  intro A ρ σ s args vs G r ax v q
  exact Xii ps ds ho hb0 hb hbind o2 o3 o4 o5 o6 o7 o8 o9 o10 o11 r ax v q
theorem Xdg {fd : FuncData} {pa : Arguments} {d : Value} (h1 : fd.params = pa) (h2 : fd.defaults = d) : fd = { fd with params := pa, defaults := d } := by
  cases fd; simp only at h1 h2; subst h1 h2; rfl
theorem XK {s : Shared} {fd : FuncData} {pa : Arguments} {args : Args} {bs : List (Str × Value)} (h1 : fd.params = pa) (h2 : fd.defaults = .none) (h : ∀ fd : FuncData, bindArgs { fd with params := pa, defaults := .none } args = pure bs) : BindsTo s fd args bs := by
  rw [Xdg h1 h2]; exact .of_eq (h fd)
theorem Xok {K : Frag} {s : Shared} {fd : FuncData} {pa : Arguments} {args : Args} {bs : List (Str × Value)} {k : Option (Array Value) → Sem (List (Str × Value))} {T : Addr} {cl : Value} {od : Option Addr} {ep : Nat} {sl : Array (Option Value)} (X : K.In s.heap) (h1 : fd.params = pa) (h2 : fd.defaults = .ref T) (hT : K.lookup T = some ⟨cl, od, .seq #[.none] ep, sl⟩)
    (h : ∀ fd : FuncData, bindArgs { fd with params := pa, defaults := .ref T } args = seqItems? (.ref T) >>= k) (hk : k (some #[.none]) = pure bs) : BindsTo s fd args bs := by
  have e := Xdg h1 h2
  rw [e]
  exact BindsTo.of_defaults rfl (X _ _ hT) rfl (h fd) hk
theorem Yi {C : Wd} {c : Cl} {f : Sy} (h1 : findIn C.K (.ref c.addr) "__getattribute__" = some (some (.builtin "object.__getattribute__"))) (h2 : hasDictIn C.K c.addr = true) (h3 : findIn C.K (.ref c.addr) f.s = some none) : AttrOk C c f := ⟨h1, h2, none, h3, rfl⟩
theorem ZR {C : Wd} {c : Cl} {f : Sy} (h1 : findIn C.K (.ref c.addr) "__setattr__" = some (some (.builtin "object.__setattr__"))) (h2 : plainOver C.K c.addr = true) (h3 : takerIn C.K c.addr f.s = some none) (h4 : hasDictIn C.K c.addr = true) : SetOk C c f := ⟨h1, h2, h3, h4⟩
theorem FS.le {C : Wd} {j k : Nat} {f : Addr} {m : List MV → Sg → R MV} (h : FS C j f m) (e : j ≤ k := by decide) : FS C k f m := fun _ _ _ _ _ _ _ r ax v q => h r (ax.le e) v q
theorem CS.le {C : Wd} {j k : Nat} {f : Value} {m : List MV → Sg → R MV} (h : CS C j f m) (e : j ≤ k := by decide) : CS C k f m := fun _ _ _ _ _ _ _ _ r ax v q => h r (ax.le e) v q
theorem XpK {vs : List Value} (h : vs.length = 0) : vs = [] := List.length_eq_zero_iff.mp h
theorem Xbq {vs : List Value} (h : vs.length = 1) : ∃ a, vs = [a] := List.length_eq_one_iff.mp h
theorem Xay {vs : List Value} (h : vs.length = 2) : ∃ a b, vs = [a, b] := by
  refine @cps _ fun Γ γ => ?_
  obtain ⟨a, l, rfl⟩ := List.exists_cons_of_length_eq_add_one h
  obtain ⟨b, rfl⟩ := Xbq (Nat.succ.inj h)
  refine γ ?_; clear γ Γ
  exact ⟨a, b, rfl⟩
theorem Xg5 {vs : List Value} (h : vs.length = 3) : ∃ a b c, vs = [a, b, c] := by
  refine @cps _ fun Γ γ => ?_
  obtain ⟨a, l, rfl⟩ := List.exists_cons_of_length_eq_add_one h
  obtain ⟨b, c, rfl⟩ := Xay (Nat.succ.inj h)
  refine γ ?_; clear γ Γ
  exact ⟨a, b, c, rfl⟩
theorem Xoz {vs : List Value} (h : vs.length = 4) : ∃ a b c d, vs = [a, b, c, d] := by
  refine @cps _ fun Γ γ => ?_
  obtain ⟨a, l, rfl⟩ := List.exists_cons_of_length_eq_add_one h
  obtain ⟨b, c, d, rfl⟩ := Xg5 (Nat.succ.inj h)
  refine γ ?_; clear γ Γ
  exact ⟨a, b, c, d, rfl⟩
noncomputable def XmN (scope sc : Scope) (fs : List Sy) : Bool := decide (scope.kind = .function) && scope.names.all (fun y => decide (y.2 ≠ .cell) && (decide (y.2 ≠ .local) || decide (scope.names.lookup y.1 = some .local)) && (decide (y.2 ≠ .free) || decide (sc.names.lookup y.1 = some .cell))) &&
  fs.all (fun x => scope.names.any (fun y => decide (y.1 = x.s) && decide (y.2 = .free)) && decide ((UX scope sc).names.lookup x.s = some .cell))
theorem cok {scope sc : Scope} {fs : List Sy} (h : XmN scope sc fs = true) : CompOk scope sc fs := by
  unfold XmN at h
  simp only [Bool.and_eq_true, List.all_eq_true, decide_eq_true_eq, Bool.or_eq_true, List.any_eq_true] at h
  obtain ⟨⟨h1, h2⟩, h3⟩ := h
  refine ⟨h1, fun y hy => (h2 y hy).1.1, fun y hy e => ?_, fun y hy e => ?_, fun x hx => ⟨?_, (h3 x hx).2⟩⟩
  · exact ((h2 y hy).1.2).resolve_left fun z => z e
  · exact ((h2 y hy).2).resolve_left fun z => z e
  · obtain ⟨y, hy, e1, e2⟩ := (h3 x hx).1
    have : y = (x.s, NameKind.free) := by rw [← e1, ← e2]
    rw [← this]; exact hy
noncomputable def XjM (K : Frag) (a : Addr) (n : Str) : Prop := ∃ d t ep sl, K.lookup a = some ⟨.type "tuple", d, .seq #[.str n t] ep, sl⟩
theorem TopIs.tupAt {C : Wd} {a : Addr} {x : Sy} (h : XjM C.K a x.s) : TopIs C (.ref a) (.tup [.str x]) := by
  refine @cps _ fun Γ γ => ?_
  obtain ⟨d, t, ep, sl, e⟩ := h
  refine γ ?_; clear γ Γ
  exact TopIs.tup1 e rfl rfl
theorem Xja {s : Shared} (fd : FuncData) (q1 q2 q3 : Pos) (d : List PySem.Expr) {T : Addr} {cl : Value} {od : Option Addr} {ep : Nat} {sl : Array (Option Value)} (a b : Value) (hT : s.heap.get? T = some ⟨cl, od, .seq #[.none] ep, sl⟩) :
    BindsTo s { fd with params := ⟨[], [⟨"self", none, q1⟩, ⟨"number", none, q2⟩, ⟨"answer", none, q3⟩], none, [], [], none, d⟩, defaults := .ref T } ⟨[a, b], []⟩ [(("self" : Str), a), (("number" : Str), b), (("answer" : Str), Value.none)] :=
  BindsTo.of_defaults rfl hT rfl (by with_unfolding_all rfl) (by with_unfolding_all rfl)
theorem Xln : ∃ q1 q2 q3 d, paD (Ye (Xr 12) 5) = ⟨[], [⟨"self", none, q1⟩, ⟨"number", none, q2⟩, ⟨"answer", none, q3⟩], none, [], [], none, d⟩ := ⟨_, _, _, _, by with_unfolding_all rfl⟩
theorem XhO {K : Frag} {s : Shared} {fd : FuncData} {T : Addr} {cl : Value} {od : Option Addr} {ep : Nat} {sl : Array (Option Value)} {a b : Value} (X : K.In s.heap) (h1 : fd.params = paD (Ye (Xr 12) 5)) (h2 : fd.defaults = .ref T) (hT : K.lookup T = some ⟨cl, od, .seq #[.none] ep, sl⟩) :
    BindsTo s fd ⟨[a, b], []⟩ [(("self" : Str), a), (("number" : Str), b), (("answer" : Str), Value.none)] := by
  refine @cps _ fun Γ γ => ?_
  obtain ⟨q1, q2, q3, d, e⟩ := Xln
  refine γ ?_; clear γ Γ
  rw [Xdg (h1.trans e) h2]
  exact Xja fd q1 q2 q3 d a b (X _ _ hT)
theorem UL {n : Str} (h : (Sy.list.all fun y => y.s != n) = true) : Xod n none := h
noncomputable def XeD : XM := fun _ σ => .exc σ
section
open Builtin Builtin.ObjectAttr
structure ExcCls (K : Frag) (C : Addr) (cd : ClassData) : Prop where
  cls : clsIn K C = some cd
  dict : cd.hasDict = true
  mro : ∃ a b, cd.mro = [.ref a, .ref b, .type "Exception", .type "BaseException", .type "object"]
  set : findIn K (.ref C) "__setattr__" = some (some (.builtin "object.__setattr__"))
theorem Xmy {prog : Program} {w : World} {A : Around} {E : Value → Shared → Prop} {K : Frag} {C x : Addr} {cd : ClassData} {s : Shared} {name : Str} {v : Value} {mA : Str → Option Value} {ns : List Str} {Q : Unit → Shared → Prop} (X : K.In s.heap) (Y : ExcCls K C cd) (ht : takerIn K C name = some none) (I : s.heap.Inst x C mA)
    (hw : Within mA ns) (hsz : ns.length < 100)
    (hq : ∀ h' tk', h'.Inst x C (fun y => if y = name then some v else mA y) → (∀ b o, b ≠ x → (∀ o₀ dx, s.heap.get? x = some o₀ → o₀.dict = some dx → b ≠ dx) → s.heap.get? b = some o → h'.get? b = some o) →
      (∀ o₀, s.heap.get? x = some o₀ → ∃ o₁, h'.get? x = some o₁ ∧ o₁.cls = o₀.cls ∧ o₁.data = o₀.data ∧ ∀ dx, o₁.dict = some dx → o₀.dict = some dx ∨ s.heap.get? dx = none) → Q () { s with heap := h', toks := tk' }) :
    wpAny (model prog w) A (setAttr (.ref x) name v) Q E s := by
  refine @cps _ fun Γ γ => ?_
  obtain ⟨hc, hdict, ⟨c1, c2, hmro⟩, hs⟩ := Y
  obtain ⟨o, hx, hcl, hnc, hd⟩ := I
  refine γ ?_; clear γ Γ
  have hno : PySem.W.notCls o = true := by
    unfold PySem.W.notCls
    split
    · rename_i c q; exact absurd q (hnc c)
    · rfl
  obtain ⟨od, I⟩ : ∃ od, PySem.W.InstAt s.heap x o C od := by
    rcases hd with ⟨hdn, _⟩ | ⟨d, hdn, _, od, es, ep, g, _⟩
    · exact ⟨none, hx, hcl, hno, by rw [hdn]; trivial⟩
    · exact ⟨some od, hx, hcl, hno, by rw [hdn]; exact g⟩
  have SF := PySem.F.store_Exception
  have ne : cd.mro.isEmpty = false := by rw [hmro]; rfl
  refine set_plain X I hs ?_
  have X1 : K.In ({ s with toks := s.toks + 1 } : Shared).heap := X
  have I1 : PySem.W.InstAt ({ s with toks := s.toks + 1 } : Shared).heap x o C od := I
  have hx1 : ({ s with toks := s.toks + 1 } : Shared).heap.get? x = some o := hx
  have sub : Looks (model prog w) ({ s with toks := s.toks + 1 } : Shared).heap (isInstance (.ref x) (.type "object")) true := I1.type.andThen (looks_mroIn X1 (by unfold mroIn; rw [hc, Option.bind_some, if_neg (by rw [ne]; decide), hmro]; rfl))
  refine codeAny_call_builtin SF.slot.plain SF.entry (@check_slot (model prog w) _ _ ({ s with toks := s.toks + 1 } : Shared) "object.__setattr__" "object" "__setattr__" (.ref x) [.str name s.toks, v] [] _ SF.kind SF.split sub (SF.args (.ref x) (.str name s.toks) v) ?_)
  obtain ⟨attr, ha, hr⟩ := Option.bind_eq_some_iff.mp ht
  have hm : Looks (model prog w) ({ s with toks := s.toks + 1 } : Shared).heap (mroOf (.ref C)) cd.mro := (looks_clsIn X1 hc).andThen .now
  have L3 : Looks (model prog w) ({ s with toks := s.toks + 1 } : Shared).heap (storeTaker? attr) none := by
    cases attr with
    | none => exact .now
    | some a =>
      obtain ⟨b, hb, e⟩ := Option.map_eq_some_iff.mp hr
      refine (looks_takesIn X1 hb).andThen ?_
      cases b
      · exact .now
      · cases e
  rw [osa_eq, refuse_eq]
  refine wpAny_bind (wpAny_bind (I1.type.here (wpAny_bind (hm.here ?_))))
  rw [hmro, refuseLoop_ref, refuseLoop_ref, SF.passes]
  refine wpAny_pure (wpAny_bind (I1.type.here (wpAny_bind ((looks_findIn X1 ha).here (wpAny_bind (L3.here ?_))))))
  dsimp only
  generalize hb : attr.isSome = b
  refine @cps _ fun Γ γ => ?_
  obtain ⟨oc, odi, oda, osl⟩ := o
  refine γ ?_; clear γ Γ
  dsimp only at hcl hnc hd
  subst hcl
  refine wpAny_bind (wpAny_pure (wpAny_bind (wpAny_bind (wpAny_loadPart hx1 (wpAny_bind ((looks_clsIn X1 hc).here ?_))))))
  rw [hdict]
  rcases hd with ⟨hdn, hmA⟩ | ⟨dx, hdn, hne, hns⟩
  · subst hdn
    rw [if_neg (by decide)]
    dsimp only
    rw [if_neg (by simp [typeHasDict])]
    split
    · exact absurd rfl (hnc _)
    · have hx2 : (s.heap.push { cls := .type "dict", data := .dict #[] }).get? x = some ⟨.ref C, none, oda, osl⟩ := Heap.get?_push_of_some _ hx
      have hxs : x ≠ s.heap.objs.size := Nat.ne_of_lt (Heap.lt_size hx)
      refine wpAny_bind (wpAny_alloc' ?_)
      refine wpAny_bind (wpAny_update' hx2 ?_)
      refine wpAny_pure (wpAny_bind (wpAny_pure ?_))
      have hgd : ((s.heap.push { cls := .type "dict", data := .dict #[] }).update x fun o => { cls := o.cls, dict := some s.heap.objs.size, data := o.data, slots := o.slots }).get? s.heap.objs.size = some { cls := .type "dict", data := .dict #[] } :=
        (Heap.get?_update_ne _ _ _ _ hxs.symm).trans (Heap.get?_push_at rfl rfl)
      have hnd : ((s.heap.push { cls := .type "dict", data := .dict #[] }).update x fun o => { cls := o.cls, dict := some s.heap.objs.size, data := o.data, slots := o.slots }).Ns s.heap.objs.size (fun _ => none) :=
        ⟨_, #[], _, hgd, rfl, fun e he => absurd he (by simp), fun _ => rfl⟩
      refine wpAny_bind (wpAny_nsSet1 (Heap.Ns1.of_empty hnd) fun h' hn' hs' => ?_)
      refine @cps _ fun Γ γ => ?_
      obtain ⟨oD, esD, epD, hoD, hdD, hcD⟩ := hn'.count (Within.cons name v Within.nil)
      refine γ ?_; clear γ Γ
      refine wpAny_bind (wpAny_lookBehind hoD (by rw [hdD]; exact pastItsLine_dict (Nat.le_trans hcD (by rw [List.length_cons, List.length_nil, sizeLine_eq]; lia))) ?_)
      have hx' : h'.get? x = some { cls := .ref C, dict := some s.heap.objs.size, data := oda, slots := osl } := by
        refine (hs'.2 x hxs).trans (Heap.get?_update_self _ hx2 ?_)
        have hfr := (Heap.get?_some_iff.mp hx).2
        cases oda <;> first | rfl | exact hfr
      refine wpAny_pure (hq h' _ ⟨_, hx', rfl, hnc, .inr ⟨s.heap.objs.size, rfl, hxs.symm, ?_⟩⟩ (fun b ob hbx _ hb => ?_)
        (fun o₀ h₀ => by rw [hx] at h₀; cases h₀; exact ⟨_, hx', rfl, rfl, fun dx e => by cases e; exact .inr (Heap.get?_none_of_le (Nat.le_refl _))⟩))
      · obtain ⟨o', es, ep, e1, e2, e3, eu, e4⟩ := hn'
        exact ⟨o', es, ep, e1, e2, e3, eu, fun y => by rw [e4 y]; by_cases hy : y = name <;> simp [hy, hmA]⟩
      · exact (hs'.2 b (Nat.ne_of_lt (Heap.lt_size hb))).trans ((Heap.get?_update_ne _ _ _ _ hbx).trans (Heap.get?_push_of_some _ hb))
  · subst hdn
    refine wpAny_pure (a := some dx) (wpAny_bind (wpAny_pure ?_))
    refine wpAny_bind (wpAny_nsSet1 (s := { s with toks := s.toks + 1 }) hns fun h' hn' hs' => ?_)
    refine @cps _ fun Γ γ => ?_
    obtain ⟨oD, esD, epD, hoD, hdD, hcD⟩ := hn'.count (Within.cons name v hw)
    refine γ ?_; clear γ Γ
    refine wpAny_bind (wpAny_lookBehind hoD (by rw [hdD]; exact pastItsLine_dict (Nat.le_trans hcD (by rw [List.length_cons, sizeLine_eq]; lia))) ?_)
    refine wpAny_pure (hq h' _ ⟨_, (hs'.2 x hne.symm).trans hx, rfl, hnc, .inr ⟨dx, rfl, hne, hn'⟩⟩ (fun b ob _ hbd hb => ?_)
      (fun o₀ h₀ => ⟨o₀, (hs'.2 x hne.symm).trans h₀, rfl, rfl, fun _ e => .inl e⟩))
    exact (hs'.2 b (hbd _ dx hx rfl)).trans hb
end
section
open Builtin Builtin.ObjectAttr
section
variable {prog : Program} {w : World} {A : Around} {E : Value → Shared → Prop} {h : Heap} {g : Array GenState} {d : Drawn} {t : Nat} {os : OsState}
variable {nm q : Str} {C N c2 : Addr} {bs bm : List Value} {hdct : Bool} {sn : List Str} {sub : List Value} {ab : Bool} {col : Option Bool} {dd : Option Addr} {k0 k1 k2 k3 k5 : Option Value}
theorem XcD (c2 : Addr) {X : String} {b : Bool} (e : [Value.type "Exception", .type "BaseException", .type "object"].contains (.type X) = b) : (Value.ref C :: [.ref c2, .type "Exception", .type "BaseException", .type "object"]).contains (.type X) = b := by
  rw [List.contains_cons, List.contains_cons, e]; rfl
theorem Xeh {rest : List Value} {Q : Unit → Shared → Prop} (hC : h.get? C = some (excClassObj nm q C N bs [.ref c2, .type "Exception", .type "BaseException", .type "object"] hdct sn sub ab col dd k0 k1 k2 k3 k5 "Exception.__new__"))
    (hq : Q () ⟨h, g, d, t, os⟩) : wpAny (model prog w) A (checkBuiltinCall "Exception.__new__" ⟨.ref C :: rest, []⟩) Q E ⟨h, g, d, t, os⟩ := by
  have F := PySem.F.excBase_Exception
  have hcont := XcD (C := C) c2 F.hasB
  have hstar := F.noStar
  simp only [checkBuiltinCall, F.newKind, F.newSplit, F.newRow]
  repeat (first | refine wpAny_loadPart_at hC ?_ | (refine wpAny_isSubtype_exc hC ?_; rw [hcont]) | refine wpAny_staticBase_exc hC ?_ | refine wpAny_madeBy_exc hC ?_ | simp only [bne_self_eq_false, Bool.false_eq_true, if_false] | wp_step)
  exact hq
theorem XlF {R : Result → Shared → Prop} {rest : List Value} (hC : h.get? C = some (excClassObj nm q C N bs [.ref c2, .type "Exception", .type "BaseException", .type "object"] hdct sn sub ab col dd k0 k1 k2 k3 k5 "Exception.__new__"))
    (hq : R (.ok (.ret (.ref (h.objs.size + 1)))) ⟨(h.push { cls := .type "tuple", data := .seq rest.toArray }).push
      { cls := .ref C, data := .fields #[.ref h.objs.size, .none, .none, .none, .bool false, .none] }, g, d, t, os⟩) (hrest : rest.length ≤ sizeLine) :
    codeAny (model prog w) A (.builtin "Exception.__new__" ⟨.ref C :: rest, []⟩) R ⟨h, g, d, t, os⟩ := by
  have F := PySem.F.excBase_Exception
  have hends := F.ends
  have hcB := XcD (C := C) c2 F.hasB
  have hcA := XcD (C := C) c2 F.noAttr
  have hcN := XcD (C := C) c2 F.noName
  refine codeAny_builtinAt F.entry ?_
  unfold Builtin.«BaseException.__new__»
  refine PySem.wpAt_bind ?_
  show PySem.wpAt _ _ _ (stack >>= _) _ _ _
  refine PySem.wpAt_bind (PySem.wpAt_stack fun p below => PySem.wpAt_of_wpAny ?_)
  wp_walk
  refine PySem.wpAt_of_wpAny ?_
  rw [F.owner]
  repeat (first | with_reducible refine wpAny_madeHere_exc F.canon hC ?_ | with_reducible refine wpAny_loadPart_at hC ?_ | (with_reducible refine wpAny_isSubtype_exc hC ?_; first | rw [hcB] | rw [hcA] | rw [hcN]) | wp_step)
  show R _ _
  rw [Heap.size_push]
  exact hq
theorem Xd7 {K : Frag} {fI : Addr} {rest : List Value} {Q : Fin → Shared → Prop} (X : K.In h)
    (hC : h.get? C = some (excClassObj nm q C N bs [.ref c2, .type "Exception", .type "BaseException", .type "object"] hdct sn sub ab col dd k0 k1 k2 k3 k5 "Exception.__new__"))
    (hi : findIn K (.ref C) "__init__" = some (some (.ref fI))) (hf : typeIn K (.ref fI) = some (.type "function"))
    (hq : ∀ h' e, Heap.MadeExcOf h h' e (.ref C) rest →
      wpAny (model prog w) A (call (.ref fI) (.ref e :: rest)) (fun r s' => r = .none ∧ Q (.done (.ret (.ref e))) s') E ⟨h', g, d, t, os⟩) (hrest : rest.length ≤ sizeLine) :
    wpAny (model prog w) A (Builtin.«type.__call__» ⟨.ref C :: rest, []⟩) Q E ⟨h, g, d, t, os⟩ := by
  have F := PySem.F.excBase_Exception
  repeat (first | with_reducible refine wpAny_loadPart_at hC ?_ | with_reducible refine wpAny_madeBy_exc hC ?_ | wp_step)
  refine codeAny_call_builtin_code (Code.quiet_builtin _ F.quiet) (Xeh hC ?_)
  refine XlF hC ?_ hrest
  show wpAny _ _ _ _ _ _
  have kp : ∀ b o, h.get? b = some o → ((h.push { cls := .type "tuple", data := .seq rest.toArray }).push { cls := .ref C, data := .fields #[.ref h.objs.size, .none, .none, .none, .bool false, .none] }).get? b = some o :=
    fun b o e => Heap.get?_push_of_some _ (Heap.get?_push_of_some _ e)
  have hC₁ := kp _ _ hC
  have X₁ := X.keeps kp
  have hget : ((h.push { cls := .type "tuple", data := .seq rest.toArray }).push
      { cls := .ref C, data := .fields #[.ref h.objs.size, .none, .none, .none, .bool false, .none] }).get? (h.objs.size + 1) = some
      { cls := .ref C, data := .fields #[.ref h.objs.size, .none, .none, .none, .bool false, .none] } := by heap_get
  have hcC : (Value.ref C :: [.ref c2, .type "Exception", .type "BaseException", .type "object"]).contains (.ref C) = true := by simp
  unfold isInstance
  repeat (first | with_reducible refine wpAny_loadPart_at hget ?_ | (with_reducible refine wpAny_isSubtype_exc hC₁ ?_; rw [hcC]) | wp_step)
  show wpAny _ _ (typeLookup (.ref C) _) _ _ _
  refine (looks_findIn X₁ hi).at ?_
  refine wpAny_holding (wpAny_bind ?_)
  refine (bind_fn X₁ _ hf).at ?_
  refine wpAny_bind (wpAny_mono (hq _ (h.objs.size + 1) ⟨kp, Heap.get?_none_of_le (Nat.le_succ _), h.objs.size, hget, Heap.get?_none_of_le (Nat.le_refl _), ?_⟩) (fun r s' hr => ?_) fun _ _ x => x)
  · exact Heap.get?_push_of_some _ (Heap.get?_push_at rfl rfl)
  · obtain ⟨rfl, hQ⟩ := hr
    wp_walk
    exact hQ
theorem XjZ {K : Frag} {fI : Addr} {rest : List Value} {Q : Value → Shared → Prop} (X : K.In h)
    (hC : h.get? C = some (excClassObj nm q C N bs [.ref c2, .type "Exception", .type "BaseException", .type "object"] hdct sn sub ab col dd k0 k1 k2 k3 k5 "Exception.__new__"))
    (hi : findIn K (.ref C) "__init__" = some (some (.ref fI))) (hf : typeIn K (.ref fI) = some (.type "function"))
    (hq : ∀ h' e, Heap.MadeExcOf h h' e (.ref C) rest →
      wpAny (model prog w) (A.under (.builtin "type.__call__" ⟨.ref C :: rest, []⟩)) (call (.ref fI) (.ref e :: rest)) (fun r s' => r = .none ∧ Q (.ref e) s') E ⟨h', g, d, t, os⟩) (hrest : rest.length ≤ sizeLine) :
    wpAny (model prog w) A (call (.ref C) rest) Q E ⟨h, g, d, t, os⟩ := by
  have f1 := tc_lookup
  have f2 := tc_bind (.ref C)
  have hT : (⟨h, g, d, t, os⟩ : Shared).TypeIs (.ref C) "type" := ⟨_, hC, rfl⟩
  refine wpAny_call (codeAny_of_tree ?_)
  show wpAny _ _ (callAny (.ref C) _) _ _ _
  repeat (any_goals (first | assumption | with_reducible refine wpAny_loadPart_at hC ?_ | wp_step))
  refine ⟨rfl, ?_⟩
  exact codeAny_call_builtin_at (Code.quiet_builtin _ (by decide +kernel)) entry_typeCall (wpAny_check_type_call_sub hC (Xd7 (hrest := hrest) X hC hi hf fun h' e hm => hq h' e hm))
end
end
section
open Builtin Builtin.ObjectAttr
structure Fx (C : Wd) (sc : Scope) (env : Env) (m : Str → Option Value) (h : Heap) : Prop where
  sc : env.scope = sc
  kind : env.scope.kind = .function
  glob : env.globals = mainGlobals
  blt : env.builtins = builtinsNs
  stays : C.h₀.StaysIn h
  ns : h.Ns env.locals m
section
variable {C : Wd} {sc : Scope} {env : Env} {m : Str → Option Value} {h h' : Heap} {M : Model} {A : Around} {E : Value → Shared → Prop} {s : Shared} {Q : Value → Shared → Prop} {n : Str} {pos : Pos} {v : Value}
theorem Fx.keeps (F : Fx C sc env m h) (k : ∀ b o, h.get? b = some o → h'.get? b = some o) : Fx C sc env m h' :=
  ⟨F.sc, F.kind, F.glob, F.blt, fun b o e => k b o (F.stays b o e), F.ns.keeps k⟩
theorem Fx.K (F : Fx C sc env m h) : C.K.In h := fun a o e => F.stays _ _ (C.X a o e)
theorem Fx.loc (F : Fx C sc env m s.heap) (hm : m n = some v) (q : Q v s) (hk : sc.names.lookup n = some .local := by decide +kernel) (hd : (n == ("__debug__" : Str)) = false := by decide +kernel) : wpAny M A (eval (.Name n pos) env) Q E s :=
  wpAny_Name (wpAny_loadName_local F.kind (by show env.scope.names.lookup n = _; rw [F.sc]; exact hk) F.ns hm q) hd
theorem Fx.top (F : Fx C sc env m s.heap) (hg : nsIn C.K mainGlobals n = some (some v)) (q : Q v s) (hk : sc.names.lookup n = some .globalImplicit := by decide +kernel) (hd : (n == ("__debug__" : Str)) = false := by decide +kernel) : wpAny M A (eval (.Name n pos) env) Q E s := by
  refine Calls.Name_function_global F.kind (by rw [← F.sc] at hk; exact hk) (Calls.loadGlobal_global ?_ (mg_of C.X C.g hg) q) hd
  rw [F.glob]; exact C.g.keeps F.stays
theorem Fx.blt_ (F : Fx C sc env m s.heap) (hg : nsIn C.K mainGlobals n = some none) (hb : bootBuiltins n = some v) (hn : n ≠ "__name__") (q : Q v s) (hk : sc.names.lookup n = some .globalImplicit := by decide +kernel) (hd : (n == ("__debug__" : Str)) = false := by decide +kernel) : wpAny M A (eval (.Name n pos) env) Q E s := by
  refine Calls.Name_function_global F.kind (by rw [← F.sc] at hk; exact hk) (Calls.loadGlobal_builtin (mg := C.mg) (mb := C.mb) ?_ (mg_none_of C.X C.g hg) ?_ ((C.bi n hn).trans hb) q) hd
  · rw [F.glob]; exact C.g.keeps F.stays
  · rw [F.blt]; exact C.b.keeps F.stays
end
theorem XfP {C : Wd} {f : Addr} {sc : Scope} {bd : List Stmt} {A : Around} {s : Shared} {vs : List Value} {bs : List (Str × Value)} {G : Result → Shared → Prop} (ok : Xfl C.K f [] = true) (hsc : (Vd C.K f).scope = sc) (hbd : stOf (Vd C.K f) = bd) (st : C.h₀.StaysIn s.heap) (hd : A.depth < recursionLimit)
    (hbind : BindsTo s (Vd C.K f) ⟨vs, []⟩ bs) (hn : (bs.map (·.1)).Nodup) (hl : ∀ b ∈ bs.map (·.1), sc.names.lookup b = some .local)
    (h : ∀ env m h₁ tk, (∀ b o, s.heap.get? b = some o → h₁.get? b = some o) → env.frame = some env.locals → s.heap.get? env.locals = none → Fx C sc env m h₁ → (∀ y v, (y, v) ∈ bs → m y = some v) →
      wpAny (model C.prog C.w) (A.deeper env) (execs bd env) (fun fl s' => G (.ok (.ret (match fl with | .ret v => v | _ => .none))) s') (fun _ _ => False) { s with heap := h₁, toks := tk }) :
    codeAny (model C.prog C.w) A (.call (.ref f) ⟨vs, []⟩) G s := by
  refine @cps _ fun Γ γ => ?_
  obtain ⟨oc, od, fd, osl, ho, e, hbody, o2, o3, o4, o5, o6, o7, o8, o9, o10, o11⟩ := Xdv ok
  refine γ ?_; clear γ Γ
  rw [e] at hsc hbd hbind
  rw [hbd] at hbody
  have X : C.K.In s.heap := fun a o e => st _ _ (C.X a o e)
  have hlim := C.nolimit.keeps st
  refine codeAny_call_function hd (X _ _ ho) rfl o9 o10 hbody (codeRec_of X o5) (hbind _ _ _ _ ?_)
  rw [o2]
  refine wpAny_newFunctionEnv_cells o11 (fun x hx => .inl (by rw [hsc]; exact hl _ (List.mem_map_of_mem hx))) fun env he s₁ I => ⟨hlim.keeps I.toInCall.keep, ?_⟩
  obtain ⟨h₁, tk, rfl⟩ := I.toInCall.same
  have hL : env.locals = s.heap.objs.size := by rw [he]; rfl
  have hes : env.scope = fd.scope := by rw [he]; rfl
  refine codeAny_func (wpAny_mono (h env _ h₁ tk I.toInCall.keep (by rw [he]; rfl) (by rw [hL]; exact Heap.size_none _) ⟨hes.trans hsc, by rw [hes]; exact o11, by rw [he]; exact o3, by rw [he]; exact o4, fun b o e => I.toInCall.keep b o (st b o e), I.toInCall.ns⟩ (fun y v hy => ?_)) (fun _ _ z => z) fun _ _ z => z.elim)
  exact XdO hn (fun b hb => by show env.scope.names.lookup b.1 = _; rw [hes, hsc]; exact hl _ (List.mem_map_of_mem hb)) hy
end
section
open Builtin Builtin.ObjectAttr
structure ExcAt (h : Heap) (e : Addr) (mA : Str → Option Value) : Prop where
  inst : h.Inst e 78 mA
  flds : ∃ dd vs sl, h.get? e = some ⟨.ref 78, dd, .fields vs, sl⟩ ∧ vs[1]? = some .none ∧ ∃ a, vs[0]? = some (.ref a)
structure Aft (h : Heap) (e : Addr) (h' : Heap) : Prop where
  keep : ∀ b o, b ≠ e → (∀ o₀ dx, h.get? e = some o₀ → o₀.dict = some dx → b ≠ dx) → h.get? b = some o → h'.get? b = some o
  own : ∀ o₀ o₁ dx, h.get? e = some o₀ → h'.get? e = some o₁ → o₁.dict = some dx → o₀.dict = some dx ∨ h.get? dx = none
theorem Aft.refl {h : Heap} {e : Addr} : Aft h e h := ⟨fun _ _ _ _ z => z, fun o₀ o₁ dx a b c => .inl (by rw [a] at b; cases b; exact c)⟩
theorem Aft.trans {h h₁ h₂ : Heap} {e : Addr} {o : Obj} (a : Aft h e h₁) (b : Aft h₁ e h₂) (ho : h.get? e = some o) (hx : ∃ o₁, h₁.get? e = some o₁) : Aft h e h₂ := by
  obtain ⟨o₁, h1⟩ := hx
  refine ⟨fun c oc n1 n2 g => ?_, fun o₀ o₂ dx g g2 d => ?_⟩
  · refine b.keep c oc n1 (fun o₀ dx g1 d z => ?_) (a.keep c oc n1 n2 g)
    subst z
    rcases a.own o o₀ c ho g1 d with w | w
    · exact n2 o c ho w rfl
    · rw [w] at g; cases g
  · rcases b.own o₁ o₂ dx h1 g2 d with w | w
    · exact a.own o₀ o₁ dx g h1 w
    · cases z : h.get? dx with
      | none => exact .inr rfl
      | some oz =>
        by_cases q1 : dx = e
        · subst q1; rw [h1] at w; cases w
        · by_cases q2 : o₀.dict = some dx
          · exact .inl q2
          · exfalso
            have := a.keep dx oz q1 (fun o' dx' g' d' z' => by subst z'; rw [g] at g'; cases g'; exact q2 d') z
            rw [w] at this; cases this
theorem Aft.stays {B h h' : Heap} {e : Addr} (a : Aft h e h') (st : B.StaysIn h) (hn : B.get? e = none) (hd : ∀ o₀ dx, h.get? e = some o₀ → o₀.dict = some dx → B.get? dx = none) : B.StaysIn h' := fun b o g =>
  a.keep b o (fun z => by subst z; rw [hn] at g; cases g) (fun o₀ dx h1 h2 z => by subst z; rw [hd o₀ b h1 h2] at g; cases g) (st b o g)
section
variable {prog : Program} {w : World} {A : Around} {E : Value → Shared → Prop} {K : Frag} {cd : ClassData} {s : Shared} {e : Addr} {v : Value} {mA : Str → Option Value} {ns : List Str}
theorem XdI {n : Str} {Q : Unit → Shared → Prop} (X : K.In s.heap) (Y : ExcCls K 78 cd) (ht : takerIn K 78 n = some none) (I : ExcAt s.heap e mA) (hw : Within mA ns) (hsz : ns.length < 100)
    (hq : ∀ h' tk, ExcAt h' e (fun y => if y = n then some v else mA y) → Aft s.heap e h' → Q () { s with heap := h', toks := tk }) : wpAny (model prog w) A (setAttr (.ref e) n v) Q E s := by
  refine @cps _ fun Γ γ => ?_
  obtain ⟨dd, vs, sl, g, v1, v0⟩ := I.flds
  refine γ ?_; clear γ Γ
  refine Xmy X Y ht I.inst hw hsz fun h' tk I' k1 k2 => ?_
  refine @cps _ fun Γ γ => ?_
  obtain ⟨o₁, g1, c1, d1, e1⟩ := k2 _ g
  refine γ ?_; clear γ Γ
  refine hq h' tk ⟨I', o₁.dict, vs, o₁.slots, ?_, v1, v0⟩ ⟨k1, fun o₀ o₂ dx a b c => ?_⟩
  · rw [g1]; obtain ⟨c, d, dt, sl⟩ := o₁; simp only at c1 d1; subst c1 d1; rfl
  · rw [g] at a; cases a; rw [g1] at b; cases b; exact e1 dx c
noncomputable def GpObj (K : Frag) (cd : ClassData) : Prop := ∃ nm q N bs c2 sn sub ab col dd k0 k1 k2 k3 k5, K.lookup 78 = some (excClassObj nm q 78 N bs [.ref c2, .type "Exception", .type "BaseException", .type "object"] true sn sub ab col dd k0 k1 k2 k3 k5 "Exception.__new__") ∧
  cd = { name := nm, bases := bs, mro := .ref 78 :: [.ref c2, .type "Exception", .type "BaseException", .type "object"], ns := N, qualname := q, hasDict := true, slotNames := sn, subclasses := sub, abstract := ab, collection := col, hasDel := false }
theorem GpObj.exc (Y : GpObj K cd) (hs : findIn K (.ref 78) "__setattr__" = some (some (.builtin "object.__setattr__"))) : ExcCls K 78 cd := by
  refine @cps _ fun Γ γ => ?_
  obtain ⟨nm, q, N, bs, c2, sn, sub, ab, col, dd, k0, k1, k2, k3, k5, hC, rfl⟩ := Y
  refine γ ?_; clear γ Γ
  exact ⟨by unfold clsIn; rw [hC], rfl, ⟨_, _, rfl⟩, hs⟩
theorem Xjn {msg : Value} {Q : Value → Shared → Prop} (X : K.In s.heap) (Y : GpObj K cd) (I : ExcAt s.heap e mA)
    (hq : ∀ h', ExcAt h' e mA → Aft s.heap e h' → Q .none { s with heap := h' }) : wpAny (model prog w) A (call (.builtin "Exception.__init__") [.ref e, msg]) Q E s := by
  refine @cps _ fun Γ γ => ?_
  obtain ⟨dd, vs, sl, g, v1, a0, v0⟩ := I.flds
  have F := PySem.F.excBase_Exception
  obtain ⟨nm, q, N, bs, c2, sn, sub, ab, col, dd', k0, k1, k2, k3, k5, hC, rfl⟩ := Y
  refine γ ?_; clear γ Γ
  have hC := X _ _ hC
  refine wpAny_call (codeAny_call_builtin F.init.plain F.initEntry ?_)
  have chk : ∀ {Q' : Unit → Shared → Prop} {E' : Value → Shared → Prop}, Q' () s → wpAny (model prog w) A.in1 (checkBuiltinCall "Exception.__init__" ⟨[.ref e, msg], []⟩) Q' E' s := fun {Q' E'} qq => by
    have hcB := XcD (C := 78) c2 F.hasB
    have hshort := F.noStar
    refine @cps _ fun Γ γ => ?_
    obtain ⟨h, gg, d, t, os⟩ := s
    refine γ ?_; clear γ Γ
    simp only [checkBuiltinCall, F.initKind, F.initSplit, F.initRow]
    repeat (first | (with_reducible refine wpAny_loadPart_at g ?_) | with_reducible refine wpAny_loadPart_at hC ?_ | (with_reducible refine wpAny_isSubtype_exc hC ?_; rw [hcB]) | wp_step)
    exact qq
  refine chk ?_
  unfold Builtin.«BaseException.__init__»
  dsimp only
  rw [if_neg (by simp)]
  unfold newTuple Builtin.BaseException.bexcPut
  have hsz : 0 < vs.size := (Array.getElem?_eq_some_iff.mp v0).1
  have g1 := Heap.get?_push_of_some (h := s.heap) { cls := .type "tuple", data := .seq [msg].toArray } g
  refine wpAny_bind (wpAny_newObj_type (wpAny_bind (wpAny_bind (wpAny_field g1 rfl v0 (wpAny_bind (wpAny_setField g1 rfl hsz ?_))))) (by size_fits))
  refine wpAny_letGo (wpAny_pure ?_)
  have g2 : ((s.heap.push { cls := .type "tuple", data := .seq [msg].toArray }).update e (Obj.mapFields (·.setIfInBounds 0 (.ref s.heap.objs.size)))).get? e = some ⟨.ref 78, dd, .fields (vs.setIfInBounds 0 (.ref s.heap.objs.size)), sl⟩ := Heap.get?_update_self _ g1 rfl
  have hne : e ≠ s.heap.objs.size := Nat.ne_of_lt (Heap.lt_size g)
  refine @cps _ fun Γ γ => ?_
  obtain ⟨o, hx, hc, hnc, hd⟩ := I.inst
  refine γ ?_; clear γ Γ
  rw [g] at hx
  cases hx
  have keep : ∀ b o, b ≠ e → s.heap.get? b = some o → ((s.heap.push { cls := .type "tuple", data := .seq [msg].toArray }).update e (Obj.mapFields (·.setIfInBounds 0 (.ref s.heap.objs.size)))).get? b = some o :=
    fun b o hb h => (Heap.get?_update_ne _ _ _ _ hb).trans (Heap.get?_push_of_some _ h)
  refine hq _ ⟨⟨_, g2, rfl, fun c => Data.noConfusion, ?_⟩, dd, vs.setIfInBounds 0 (.ref s.heap.objs.size), sl, g2, ?_, s.heap.objs.size, ?_⟩ ⟨fun b o n1 _ h => keep b o n1 h, fun o₀ o₁ dx a b c => ?_⟩
  · rcases hd with ⟨z1, z2⟩ | ⟨d, z1, z2, z3⟩
    · exact .inl ⟨z1, z2⟩
    · exact .inr ⟨d, z1, z2, z3.at fun o z => keep d o z2 z⟩
  · rw [Array.getElem?_setIfInBounds_ne (by decide)]; exact v1
  · rw [Array.getElem?_setIfInBounds_self_of_lt hsz]
  · rw [g] at a; cases a; rw [g2] at b; cases b; exact .inl c
end
end
section
open Builtin Builtin.ObjectAttr
structure KR (K : Frag) : Prop where
  panic : nsIn K mainGlobals "GoPanic" = some (some (.ref 78))
  exm : exmOne K (.ref 78) (.ref 78) = some true
  rp : nsIn K mainGlobals "runtime_panic" = some (some (.ref 88))
  rpk : keepIn K (.ref 88) = true
  rpo : Xfl K 88 [] = true
  rps : (Vd K 88).scope = scD (Xr 6)
  rpb : stOf (Vd K 88) = bdD (Xr 6)
  rpp : (Vd K 88).params = paD (Xr 6)
  rpd : (Vd K 88).defaults = .none
  re : ∃ v, nsIn K mainGlobals "RUNTIME_ERROR" = some (some v)
  gpo : ∃ cd, GpObj K cd
  gpk : keepIn K (.ref 78) = true
  gpi : findIn K (.ref 78) "__init__" = some (some (.ref 75))
  gpf : typeIn K (.ref 75) = some (.type "function")
  gps : findIn K (.ref 78) "__setattr__" = some (some (.builtin "object.__setattr__"))
  gio : Xfl K 75 [] = true
  gis : (Vd K 75).scope = scD (Ye (Xr 4) 0)
  gib : stOf (Vd K 75) = bdD (Ye (Xr 4) 0)
  gip : (Vd K 75).params = paD (Ye (Xr 4) 0)
  gid : (Vd K 75).defaults = .none
  ce : ∃ c mc, nsIn K mainGlobals "ChanError" = some (some (.ref c)) ∧ readsIn K c mc = true ∧ specialIn K (.ref c) "__getattribute__" = some (some (.builtin "type.__getattribute__")) ∧ findCls K (.ref c) mc "__init__" = some (.val (.ref 36))
  cik : keepIn K (.ref 36) = true
  cio : Xfl K 36 [] = true
  cis : (Vd K 36).scope = scD (Ye (Xr 2) 0)
  cib : stOf (Vd K 36) = bdD (Ye (Xr 2) 0)
  cip : (Vd K 36).params = paD (Ye (Xr 2) 0)
  cid : ∃ T cl od t ep sl, (Vd K 36).defaults = .ref T ∧ K.lookup T = some ⟨cl, od, .seq #[.int 0 t] ep, sl⟩
  ex : nsIn K mainGlobals "Exception" = some none
  tkm : takerIn K 78 "message" = some none
  tks : takerIn K 78 "spot" = some none
  tkv : takerIn K 78 "value" = some none
section
variable {C : Wd} {sc : Scope} {env : Env} {m : Str → Option Value} {h₁ h : Heap} {A : Around} {E : Value → Shared → Prop} {s : Shared} {e : Addr} {vs : Array Value} {sl : Array (Option Value)}
theorem Fx.aft (F : Fx C sc env m h₁) (a : Aft h₁ e h) (g0 : h₁.get? e = some ⟨.ref 78, none, .fields vs, sl⟩) (he0 : C.h₀.get? e = none) : Fx C sc env m h := by
  refine ⟨F.sc, F.kind, F.glob, F.blt, a.stays F.stays he0 (fun o₀ dx g d => by rw [g0] at g; cases g; cases d), ?_⟩
  refine @cps _ fun Γ γ => ?_
  obtain ⟨o, es, ep, g, d, r⟩ := F.ns
  refine γ ?_; clear γ Γ
  exact ⟨o, es, ep, a.keep _ _ (fun z => by rw [z, g0] at g; cases g; cases d) (fun o₀ dx g d => by rw [g0] at g; cases g; cases d) g, d, r⟩
theorem XhJ {x n : Str} {v ev : Value} {p1 p2 p3 p : Pos} {Q : Flow → Shared → Prop} (F : Fx C sc env m s.heap) (h1 : m "self" = some ev) (h2 : m x = some v)
    (hset : wpAny (model C.prog C.w) A (setAttr ev n v) (fun _ s' => Q .next s') E s) (hk1 : sc.names.lookup ("self" : Str) = some .local := by decide +kernel) (hk2 : sc.names.lookup x = some .local := by decide +kernel) (hd : (x == ("__debug__" : Str)) = false := by decide +kernel)
    (hs : ∀ env, swapsWithSole [.Attribute (.Name "self" p1) n p2] (.Name x p3) p.line env = pure false := by intro _; rfl) (hw : ∀ env, env.scope = sc → swappedStores [.Attribute (.Name "self" p1) n p2] (.Name x p3) env = pure none := by intro _ _; rfl) :
    wpAny (model C.prog C.w) A (exec (.Assign [.Attribute (.Name "self" p1) n p2] (.Name x p3) p) env) Q E s := by
  rw [arm_exec_Assign, hs env, hw env F.sc]
  refine wpAny_bind (wpAny_standAt (wpAny_bind (wpAny_pure ?_)))
  show wpAny _ _ (eval (.Name x p3) env >>= _) _ _ _
  refine wpAny_bind (F.loc h2 ?_ hk2 hd)
  refine wpAny_bind (wpAny_pure ?_)
  show wpAny _ _ (assign (.Attribute (.Name "self" p1) n p2) env v >>= fun _ => pure Flow.next) _ _ _
  refine wpAny_bind ?_
  rw [assign_Attribute]
  refine wpAny_bind (wpAny_holding (F.loc h1 ?_ hk1))
  refine wpAny_bind (wpAny_standAt (wpAny_bind (wpAny_holding (wpAny_mono hset (fun _ s' hs' => PyProof.Rows.wpAny_release' (wpAny_pure hs')) fun _ _ z => z))))
end
end
section
open Builtin Builtin.ObjectAttr
theorem Vy {M : Model} {A : Around} {E : Value → Shared → Prop} {s : Shared} {env : Env} {pos : Pos} {e : Expr} {es : List Expr} {Q : List Value → Shared → Prop} (hq : starEach (e :: es) env = (false, eval e env) :: starEach es env)
    (h : wpAny M A (eval e env) (fun v s₁ => wpAny M A (spliced (backTo pos (starEach es env))) (fun vs s₂ => Q (v :: vs) s₂) E s₁) E s) : wpAny M A (spliced (backTo pos (starEach (e :: es) env))) Q E s := by
  rw [hq]
  show wpAny _ _ (do
    let v ← eval e env
    let here ← pure [v]
    return here ++ (← holding here (spliced (backTo pos (starEach es env))))) _ _ _
  exact wpAny_bind (wpAny_mono h (fun v s₁ h₁ => wpAny_bind (wpAny_pure (wpAny_bind (wpAny_holding (wpAny_mono h₁ (fun vs s₂ h₂ => wpAny_pure h₂) fun _ _ z => z))))) fun _ _ z => z)
theorem Xbo {M : Model} {A : Around} {E : Value → Shared → Prop} {s : Shared} {env : Env} {pos : Pos} {Q : List Value → Shared → Prop} (h : Q [] s) : wpAny M A (spliced (backTo pos (starEach [] env))) Q E s := wpAny_pure h
theorem Xeg : findCls [] (.type "Exception") (.type "type") ("__init__" : Str) = some (.val (.builtin "Exception.__init__")) := by kernel_rfl
theorem Xki : Manifest.isStub "Exception" = false := by decide +kernel
theorem Xji : typeOf (.type "Exception") = pure (.type "type") := by first | rfl | kernel_rfl
noncomputable def Xps : List Stmt := [.Expr (.Call (.Attribute (.Name "Exception" ⟨8, 8, 8, 17⟩) "__init__" ⟨8, 8, 8, 26⟩) [.Name "self" ⟨8, 27, 8, 31⟩, .Name "message" ⟨8, 33, 8, 40⟩] [] ⟨8, 8, 8, 41⟩) ⟨8, 8, 8, 41⟩,
  .Assign [.Attribute (.Name "self" ⟨9, 8, 9, 12⟩) "message" ⟨9, 8, 9, 20⟩] (.Name "message" ⟨9, 23, 9, 30⟩) ⟨9, 8, 9, 30⟩,
  .Assign [.Attribute (.Name "self" ⟨10, 8, 10, 12⟩) "spot" ⟨10, 8, 10, 17⟩] (.Name "spot" ⟨10, 20, 10, 24⟩) ⟨10, 8, 10, 24⟩]
theorem XlW : bdD (Ye (Xr 2) 0) = Xps := by with_unfolding_all rfl
noncomputable def XpD : List Stmt := [.Expr (.Call (.Attribute (.Name "ChanError" ⟨19, 8, 19, 17⟩) "__init__" ⟨19, 8, 19, 26⟩) [.Name "self" ⟨19, 27, 19, 31⟩, .Constant (.str "panic") 0 ⟨19, 33, 19, 40⟩] [] ⟨19, 8, 19, 41⟩) ⟨19, 8, 19, 41⟩,
  .Assign [.Attribute (.Name "self" ⟨20, 8, 20, 12⟩) "value" ⟨20, 8, 20, 18⟩] (.Name "value" ⟨20, 21, 20, 26⟩) ⟨20, 8, 20, 26⟩]
theorem Xmt : bdD (Ye (Xr 4) 0) = XpD := by with_unfolding_all rfl
noncomputable def XpA : List Stmt := [.Return (some (.Call (.Name "GoPanic" ⟨23, 11, 23, 18⟩) [.Tuple [.Constant (.str "face") 0 ⟨23, 20, 23, 26⟩, .Name "RUNTIME_ERROR" ⟨23, 28, 23, 41⟩, .Call (.Attribute (.Name "text" ⟨23, 43, 23, 47⟩) "encode" ⟨23, 43, 23, 54⟩) [.Constant (.str "ascii") 0 ⟨23, 55, 23, 62⟩] [] ⟨23, 43, 23, 63⟩] 0 ⟨23, 19, 23, 64⟩] [] ⟨23, 11, 23, 65⟩)) ⟨23, 4, 23, 65⟩]
theorem Xlq : bdD (Xr 6) = XpA := by with_unfolding_all rfl
section
variable {C : Wd} {A : Around} {s : Shared} {e : Addr} {vs : Array Value} {sl : Array (Option Value)} {msg : Value} {G : Result → Shared → Prop}
theorem Xn4 (R : KR C.K) (X : C.K.In s.heap) {a b : Value} : ∃ d, BindsTo s (Vd C.K 36) ⟨[a, b], []⟩ [(("self" : Str), a), (("message" : Str), b), (("spot" : Str), d)] := by
  refine @cps _ fun Γ γ => ?_
  obtain ⟨T, cl, od, t, ep, sl, h1, h2⟩ := R.cid
  refine γ ?_; clear γ Γ
  have e := Xdg R.cip h1
  rw [e]
  exact ⟨.int 0 t, BindsTo.of_defaults rfl (X _ _ h2) rfl (by with_unfolding_all rfl) (by with_unfolding_all rfl)⟩
theorem Xlr (R : KR C.K) (st : C.h₀.StaysIn s.heap) (hd : A.depth < recursionLimit) (he0 : C.h₀.get? e = none) (g0 : s.heap.get? e = some ⟨.ref 78, none, .fields vs, sl⟩) (I : ExcAt s.heap e (fun _ => none))
    (hq : ∀ h' tk mA' ns, ExcAt h' e mA' → Within mA' ns → ns.length ≤ 2 → Aft s.heap e h' → G (.ok (.ret .none)) { s with heap := h', toks := tk }) : codeAny (model C.prog C.w) A (.call (.ref 36) ⟨[.ref e, msg], []⟩) G s := by
  have X : C.K.In s.heap := fun a o e => st _ _ (C.X a o e)
  obtain ⟨d, hb⟩ := Xn4 (a := .ref e) (b := msg) R X
  obtain ⟨cd, GP⟩ := R.gpo
  have Y := GP.exc R.gps
  refine XfP R.cio R.cis (R.cib.trans XlW) st hd hb (show ([("self" : Str), "message", "spot"]).Nodup from by decide +kernel) (show ∀ b ∈ [("self" : Str), "message", "spot"], _ from by decide +kernel) fun env m h₁ tk₁ kp hfr hnew F hm => ?_
  have m1 := hm _ _ (.head _)
  have m2 := hm _ _ (.tail _ (.head _))
  have m3 := hm _ _ (.tail _ (.tail _ (.head _)))
  have g1 := kp _ _ g0
  have I1 : ExcAt h₁ e (fun _ => none) := by
    refine @cps _ fun Γ γ => ?_
    obtain ⟨dd, vs', sl', g, w⟩ := I.flds
    refine γ ?_; clear γ Γ
    rw [g0] at g; cases g
    exact ⟨⟨_, g1, rfl, fun c => Data.noConfusion, .inl ⟨rfl, fun _ => rfl⟩⟩, none, _, _, g1, w⟩
  have fin : ∀ h' , Aft h₁ e h' → Aft s.heap e h' := fun h' a => ⟨fun b o n1 n2 g => a.keep b o n1 (fun o₀ dx z1 z2 => by rw [g1] at z1; cases z1; cases z2) (kp b o g), fun o₀ o₁ dx z1 z2 z3 => by
    rw [g0] at z1; cases z1
    rcases a.own _ o₁ dx g1 z2 z3 with w | w
    · exact .inl w
    · cases q : s.heap.get? dx with
      | none => exact .inr rfl
      | some o => rw [kp _ _ q] at w; cases w⟩
  refine wpAny_execs_cons ?_
  refine wpAny_Expr_any ?_ (by unfold interactive; rw [F.kind]; rfl) (by rfl)
  refine methodCall_KW (F.blt_ (v := .type "Exception") R.ex (by kernel_rfl) (by decide +kernel) ?_)
  refine method_type (K := []) (h₀ := {}) (L := env.locals) (m := m) ⟨F.ns, fun b o e => by simp [Heap.get?] at e, Nat.zero_le _⟩ (fun a o e => by cases e) Xji Xki Xeg rfl ?_
  refine Calls.callWith_builtin (by rfl) (Uw (by rfl) (Vy (by rfl) (F.loc m1 (Vy (by rfl) (F.loc m2 (Xbo ?_))))))
  refine Xjn (s := { s with heap := h₁, toks := tk₁ + 1 }) F.K GP I1 fun h₂ I2 a2 => ?_
  have F2 := F.aft a2 g1 he0
  refine wpAny_execs_cons (XhJ F2 m1 m2 (XdI F2.K Y R.tkm I2 Within.nil (by decide) fun h₃ tk₃ I3 a3 => ?_))
  have a3' := a2.trans a3 g1 ⟨_, I2.inst.choose_spec.1⟩
  have F3 := F.aft a3' g1 he0
  refine wpAny_execs_cons (XhJ F3 m1 m3 (XdI F3.K Y R.tks I3 (Within.cons _ _ Within.nil) (by decide) fun h₄ tk₄ I4 a4 => ?_))
  have a4' := a3'.trans a4 g1 ⟨_, I3.inst.choose_spec.1⟩
  exact wpAny_pure (hq _ _ _ _ I4 (Within.cons _ _ (Within.cons _ _ Within.nil)) (by decide) (fin _ a4'))
end
end
section
open Builtin Builtin.ObjectAttr
section
variable {C : Wd} {A : Around} {s : Shared} {e : Addr} {vs : Array Value} {sl : Array (Option Value)} {val : Value} {G : Result → Shared → Prop}
theorem Xk7 (R : KR C.K) (st : C.h₀.StaysIn s.heap) (hd : A.depth + 1 < recursionLimit) (he0 : C.h₀.get? e = none) (g0 : s.heap.get? e = some ⟨.ref 78, none, .fields vs, sl⟩) (I : ExcAt s.heap e (fun _ => none))
    (hq : ∀ h' tk mA', ExcAt h' e mA' → Aft s.heap e h' → G (.ok (.ret .none)) { s with heap := h', toks := tk }) : codeAny (model C.prog C.w) A (.call (.ref 75) ⟨[.ref e, val], []⟩) G s := by
  have X : C.K.In s.heap := fun a o e => st _ _ (C.X a o e)
  have hb : BindsTo s (Vd C.K 75) ⟨[.ref e, val], []⟩ [(("self" : Str), .ref e), (("value" : Str), val)] := XK R.gip R.gid (fun fd => by with_unfolding_all rfl)
  refine @cps _ fun Γ γ => ?_
  obtain ⟨cd, GP⟩ := R.gpo
  obtain ⟨c, mc, ce1, ce2, ce3, ce4⟩ := R.ce
  refine γ ?_; clear γ Γ
  have Y := GP.exc R.gps
  refine XfP R.gio R.gis (R.gib.trans Xmt) st (by lia) hb (show ([("self" : Str), "value"]).Nodup from by decide +kernel) (show ∀ b ∈ [("self" : Str), "value"], _ from by decide +kernel) fun env m h₁ tk₁ kp hfr hnew F hm => ?_
  have m1 := hm _ _ (.head _)
  have m2 := hm _ _ (.tail _ (.head _))
  have g1 := kp _ _ g0
  have I1 : ExcAt h₁ e (fun _ => none) := by
    refine @cps _ fun Γ γ => ?_
    obtain ⟨dd, vs', sl', g, w⟩ := I.flds
    refine γ ?_; clear γ Γ
    rw [g0] at g; cases g
    exact ⟨⟨_, g1, rfl, fun c => Data.noConfusion, .inl ⟨rfl, fun _ => rfl⟩⟩, none, _, _, g1, w⟩
  have fin : ∀ h' , Aft h₁ e h' → Aft s.heap e h' := fun h' a => ⟨fun b o n1 n2 g => a.keep b o n1 (fun o₀ dx z1 z2 => by rw [g1] at z1; cases z1; cases z2) (kp b o g), fun o₀ o₁ dx z1 z2 z3 => by
    rw [g0] at z1; cases z1
    rcases a.own _ o₁ dx g1 z2 z3 with w | w
    · exact .inl w
    · cases q : s.heap.get? dx with
      | none => exact .inr rfl
      | some o => rw [kp _ _ q] at w; cases w⟩
  refine wpAny_execs_cons ?_
  refine wpAny_Expr_any ?_ (by unfold interactive; rw [F.kind]; rfl) (by rfl)
  refine methodCall_KW (F.top ce1 ?_)
  refine method_cls F.K ce3 (cls_value F.K ce2 ce4 rfl ?_)
  refine callWith_of (P := C.K.In) (by rfl) (keeps_K R.cik) (Uw (by rfl) (Vy (by rfl) (F.loc m1 (Vy (by rfl) (Calls.Constant_str (Xbo ?_))))))
  refine ⟨F.K, wpAny_call (Xlr (s := { s with heap := h₁, toks := tk₁ + 1 + 1 }) R F.stays hd he0 g1 I1 fun h₂ tk₂ mA ns I2 hw hsz a2 => ?_)⟩
  have F2 := F.aft a2 g1 he0
  refine wpAny_execs_cons (XhJ F2 m1 m2 (XdI F2.K Y R.tkv I2 hw (by lia) fun h₃ tk₃ I3 a3 => ?_))
  have a3' := a2.trans a3 g1 ⟨_, I2.inst.choose_spec.1⟩
  exact wpAny_pure (hq _ _ _ I3 (fin _ a3'))
theorem XpC (t u : Tok) : Builtin.«str.encode» ⟨[.str (Str.ofString "unlock of unlocked mutex") t, .str (Str.ofString "ascii") u], []⟩ = (do ret (← mkBytes (Array.mk ("unlock of unlocked mutex".toList.map fun c => c.toNat.toUInt8)))) := by
  kernel_rfl
theorem Xpy (t u : Tok) : Builtin.«str.encode» ⟨[.str (Str.ofString "negative WaitGroup counter") t, .str (Str.ofString "ascii") u], []⟩ = (do ret (← mkBytes (Array.mk ("negative WaitGroup counter".toList.map fun c => c.toNat.toUInt8)))) := by
  kernel_rfl
theorem Xpl {n : Str} (hn : n = "unlock of unlocked mutex" ∨ n = "negative WaitGroup counter") (t u : Tok) : ∃ bs : Array UInt8, bs.size ≤ sizeLine ∧ Builtin.«str.encode» ⟨[.str n t, .str (Str.ofString "ascii") u], []⟩ = (do ret (← mkBytes bs)) := by
  rcases hn with rfl | rfl
  · exact ⟨_, by decide +kernel, XpC t u⟩
  · exact ⟨_, by decide +kernel, Xpy t u⟩
theorem XjT {E : Value → Shared → Prop} {n : Str} {t u : Tok} {Q : Value → Shared → Prop} (hn : n = "unlock of unlocked mutex" ∨ n = "negative WaitGroup counter") (h : ∀ b tk, Q (.bytes b tk) { s with toks := s.toks + 1 }) :
    wpAny (model C.prog C.w) A (call (.builtin "str.encode") [.str n t, .str (Str.ofString "ascii") u]) Q E s := by
  obtain ⟨bs, hbs, e⟩ := Xpl hn t u
  refine wpAny_call_entry PySem.F.slot_str_encode (T := "str") rfl PySem.F.entry_str_encode ?_ (PySem.F.args_str_encode_2 _ _)
  rw [e]
  unfold mkBytes
  rw [if_neg (by lia)]
  exact wpAny_bind (wpAny_bind (wpAny_fresh (wpAny_pure (wpAny_pure ⟨_, rfl, h _ _⟩))))
theorem XlE (R : KR C.K) (st : C.h₀.StaysIn s.heap) (hd : A.depth + 3 < recursionLimit) {n : Str} {t : Tok} (hn : n = "unlock of unlocked mutex" ∨ n = "negative WaitGroup counter")
    (hq : ∀ h' tk e mA, (∀ b o, s.heap.get? b = some o → h'.get? b = some o) → s.heap.get? e = none → ExcAt h' e mA → G (.ok (.ret (.ref e))) { s with heap := h', toks := tk }) : codeAny (model C.prog C.w) A (.call (.ref 88) ⟨[.str n t], []⟩) G s := by
  have X : C.K.In s.heap := fun a o e => st _ _ (C.X a o e)
  have hb : BindsTo s (Vd C.K 88) ⟨[.str n t], []⟩ [(("text" : Str), .str n t)] := XK R.rpp R.rpd (fun fd => by with_unfolding_all rfl)
  obtain ⟨cd, GP⟩ := R.gpo
  obtain ⟨re, hre⟩ := R.re
  refine XfP R.rpo R.rps (R.rpb.trans Xlq) st (by lia) hb (show ([("text" : Str)]).Nodup from by decide +kernel) (show ∀ b ∈ [("text" : Str)], _ from by decide +kernel) fun env m h₁ tk₁ kp hfr hnew F hm => ?_
  have m1 := hm _ _ (.head _)
  refine wpAny_execs_cons (wpAny_Return_some ?_)
  refine wpAny_Call_ofName (F.top R.panic ?_)
  refine callWith_of (P := fun h => C.h₀.StaysIn h ∧ C.K.In h) (by rfl) (fun h X => keeps_K R.gpk h X.2) (Uw (by rfl) (Vy (by rfl) (wpAny_Tuple_spliced ?_)))
  refine Vy (by rfl) (Calls.Constant_str ?_)
  refine Vy (by rfl) (F.top hre ?_)
  refine Vy (by rfl) ?_
  refine wpAny_Call_method (T := "str") (id := "str.encode") (by rfl) (by rfl) (by rfl) PySem.F.plainAttrs_str PySem.F.slot_str_encode PySem.F.type_str_encode (F.loc m1 ⟨rfl, fun a e => by (cases e), ?_⟩)
  refine Calls.callWith_builtin (by rfl) (Uw (by rfl) (Vy (by rfl) (Calls.Constant_str (Xbo ?_))))
  refine XjT hn fun bt tk => ?_
  refine Xbo ⟨by (show 3 ≤ sizeLine; decide), ?_⟩
  refine Xbo ?_
  have kp2 : ∀ {o : Obj} (b : Addr) (ob : Obj), h₁.get? b = some ob → (h₁.push o).get? b = some ob := fun b ob e => Heap.get?_push_of_some _ e
  have F2 := F.keeps (kp2 (o := { cls := .type "tuple", data := .seq [Value.str "face" tk₁, re, Value.bytes bt tk].toArray }))
  have up : ∀ a, (h₁.push { cls := .type "tuple", data := .seq [Value.str "face" tk₁, re, Value.bytes bt tk].toArray }).get? a = none → s.heap.get? a = none := fun a e => by
    cases z : s.heap.get? a with
    | none => rfl
    | some o => rw [kp2 _ _ (kp _ _ z)] at e; cases e
  refine ⟨⟨F2.stays, F2.K⟩, ?_⟩
  refine @cps _ fun Γ γ => ?_
  obtain ⟨nm, q, N, bs, c2, sn, sub, ab, col, dd, k0, k1, k2, k3, k5, hC, rfl⟩ := GP
  refine γ ?_; clear γ Γ
  refine XjZ F2.K (F2.K _ _ hC) R.gpi R.gpf (fun h' e me => ?_) (by (show 1 ≤ sizeLine; decide))
  have he0 : C.h₀.get? e = none := by
    cases z : C.h₀.get? e with
    | none => rfl
    | some o => have := F2.stays _ _ z; rw [me.new] at this; cases this
  refine @cps _ fun Γ γ => ?_
  obtain ⟨tt, ht1, ht2, ht3⟩ := me.there
  refine γ ?_; clear γ Γ
  have I0 : ExcAt h' e (fun _ => none) := ⟨⟨_, ht1, rfl, fun c => Data.noConfusion, .inl ⟨rfl, fun _ => rfl⟩⟩, none, _, _, ht1, rfl, tt, rfl⟩
  refine wpAny_call (Xk7 R (fun b o g => me.keeps b o (F2.stays b o g)) (by show A.depth + 1 + 1 + 1 < _; lia) he0 ht1 I0 fun h₃ tk₃ mA I3 a3 => ⟨rfl, ?_⟩)
  exact hq _ _ e mA (fun b o g => a3.keep b o (fun z => by subst z; rw [up _ me.new] at g; cases g) (fun o₀ dx g1 d => by rw [ht1] at g1; cases g1; cases d) (me.keeps _ _ (kp2 _ _ (kp _ _ g)))) (up _ me.new) I3
end
end
noncomputable def Xer (t1 : BM) (e1 : EM) (t2 : BM) (e2 e3 : EM) (x : Sy) : XM := fun fr σ => (t1 fr σ).bind fun b σ => if b then (e1 fr σ).bind fun v σ => .ok (.ret v, fr) σ else (t2 fr σ).bind fun b σ => if b then (e2 fr σ).bind fun v σ => .ok (.ret v, fr) σ else
  (e3 fr σ).bind fun v σ => .ok (.next, fset fr x v) σ
noncomputable def Xk2 (m : XM) : XM := fun fr σ => match m fr σ with
  | .exc σ' => .ok (.ret (.ref σ'.length), fr) (σ' ++ [.list [.tup [.str 14, .str 0]]])
  | r => r
theorem Xa8 {C : Wd} {k : Nat} {sc : Scope} {e : Stmt} {es : List Stmt} {m ms : XM} (he : XS C k sc e m) (hs : Xhz C k sc es ms) : Xhz C k sc (e :: es) (Xo m ms) := by
  intro A env fr ρ σ s Q E tf a h
  unfold Xo at h
  rw [R.Ok_bind] at h
  refine wpAny_execs_cons (he a (h.mono (fun r σ₁ h₁ ρ₁ s₁ f st a₁ hf => ?_) fun _ x => x))
  obtain ⟨fl, fr₁⟩ := r
  cases fl with
  | next =>
    simp only [VP] at hf
    subst hf
    exact hs tf a₁ (h₁.mono (fun _ _ z => QX.chain z st) fun _ z => QEX.chain0 z st)
  | brk => simp only [VP] at hf; subst hf; exact h₁ _ _ _ st a₁ rfl
  | cont => simp only [VP] at hf; subst hf; exact h₁ _ _ _ st a₁ rfl
  | ret v =>
    obtain ⟨w, rfl, vw⟩ := hf
    exact h₁ _ _ _ st a₁ ⟨w, rfl, vw⟩
noncomputable def hwo (h : Heap) (ls : List Addr) : Heap := { h with objs := h.objs.mapIdx fun i o => if i ∈ ls then { o with data := .freed } else o }
theorem WV {h : Heap} {ls : List Addr} (a : Addr) : (hwo h ls).get? a = if a ∈ ls then none else h.get? a := by
  unfold hwo Heap.get?
  rw [Array.getElem?_mapIdx]
  cases h.objs[a]? with
  | none => exact (ite_self (c := a ∈ ls) (none : Option Obj)).symm
  | some o =>
    rw [Option.map_some]
    by_cases m : a ∈ ls
    · rw [if_pos m, if_pos m]
    · rw [if_neg m, if_neg m]
theorem RelH.wo {C : Wd} {ρ : List Loc} {σ : Sg} {h : Heap} {ls : List Addr} (r : RelH C ρ σ h) (hl : ∀ L ∈ ls, C.h₀.get? L = none ∧ ¬ In ρ L ∧ ∀ o, h.get? L = some o → Odd o) : RelH C ρ σ (hwo h ls) := by
  have kp : Kept ρ h ρ (hwo h ls) := by
    refine ⟨fun _ _ e => e, fun a vs t => ?_, fun a vs n t => ⟨n, ?_⟩⟩
    · obtain ⟨o, g, c, n, d⟩ := t
      exact ⟨o, by rw [WV, if_neg fun z => (hl a z).2.2 o g _ _ d]; exact g, c, n, d⟩
    · obtain ⟨o, g, c, n, d⟩ := t
      exact ⟨o, by rw [WV, if_neg fun z => (hl a z).2.2 o g _ _ d]; exact g, c, n, d⟩
  refine ⟨fun b o e => ?_, r.len, fun j q o e1 e2 => (r.objs j q o e1 e2).mono kp fun b ob hb e => ?_, r.own, r.above⟩
  · rw [WV, if_neg fun z => by rw [(hl b z).1] at e; cases e]; exact r.stays b o e
  · rw [WV, if_neg fun z => (hl b z).2.1 ⟨j, q, e1, hb⟩]; exact e
theorem XeR {base h h' : Heap} {ls : List Addr} (k : ∀ b o, h.get? b = some o → h'.get? b = some o) {l : List Env} : (∀ L ∈ l.filterMap (·.frame), L ∈ ls) → h.FunFrames base l → h'.FunFrames (hwo h ls) l := by
  induction l with
  | nil =>
    intro _ _
    exact trivial
  | cons env l ih =>
    rintro hm ⟨hk, ⟨L, o, hf, hb, ho, hd⟩, hr⟩
    refine ⟨hk, ⟨L, o, hf, ?_, k _ _ ho, hd⟩, ih (fun L hL => hm L ?_) hr⟩
    · rw [WV, if_pos (hm L (by rw [List.filterMap_cons_some hf]; exact .head _))]
    · rw [List.filterMap_cons_some hf]; exact .tail _ hL
theorem Xed {K : Frag} {cd : ClassData} {M : Model} {A : Around} {env : Env} {E : Value → Shared → Prop} {s : Shared} {x : Sem Value} {Q : Flow → Shared → Prop} (GP : GpObj K cd) (hh : A.handled = none)
    (h : wpAny M A x (fun v s₁ => ∃ e mA, v = .ref e ∧ K.In s₁.heap ∧ ExcAt s₁.heap e mA ∧ E (.ref e) s₁) E s) : wpAny M A (raiseStmt env (some x) none) Q E s := by
  refine @cps _ fun Γ γ => ?_
  obtain ⟨nm, q, N, bs, c2, sn, sub, ab, col, dd, k0, k1, k2, k3, k5, hC, rfl⟩ := GP
  refine γ ?_; clear γ Γ
  have hcB := XcD (C := 78) c2 (PySem.F.excBase_Exception.hasBase)
  unfold raiseStmt
  refine wpAny_bind (wpAny_mono h (fun v s₁ h₁ => ?_) fun _ _ x => x)
  refine @cps _ fun Γ γ => ?_
  obtain ⟨e, mA, rfl, X, ⟨_, dd', vs, sl, he, v1, a0, v0⟩, hE⟩ := h₁
  have hC := X _ _ hC
  obtain ⟨hp, g, d, tk, os⟩ := s₁
  refine γ ?_; clear γ Γ
  repeat (first | with_reducible refine wpAny_loadPart_at he ?_ | with_reducible refine wpAny_loadPart_at hC ?_ | (with_reducible refine wpAny_isSubtype_exc hC ?_; rw [hcB]) | wp_step)
  rw [v1]
  refine wpAny_pure ?_
  rw [if_neg (by decide)]
  exact wpAny_pure (wpAny_raiseNew_none hh hE)
theorem XgB {C : Wd} (R : KR C.K) {k : Nat} {sc : Scope} {n : Str} {x1 : Nat} {np p1 p2 pos : Pos} (hs : sc.names.lookup ("runtime_panic" : Str) = some .globalImplicit := by decide +kernel)
    (hn : n = "unlock of unlocked mutex" ∨ n = "negative WaitGroup counter" := by decide +kernel) : XS C (k + 4) sc (.Raise (some (.Call (.Name "runtime_panic" np) [.Constant (.str n) x1 p1] [] p2)) none pos) XeD := by
  intro A env fr ρ σ s Q E a h
  refine @cps _ fun Γ γ => ?_
  obtain ⟨cd, GP⟩ := R.gpo
  obtain ⟨l, hA, hFF, hL⟩ := a.ax.fr
  refine γ ?_; clear γ Γ
  have fin : ∀ h' tk e mA, (∀ b o, s.heap.get? b = some o → h'.get? b = some o) → s.heap.get? e = none → ExcAt h' e mA → E (.ref e) { s with heap := h', toks := tk } := fun h' tk e mA kp he I => by
    have hl : ∀ L ∈ l.filterMap (·.frame), C.h₀.get? L = none ∧ ¬ In ρ L ∧ ∀ o, s.heap.get? L = some o → Odd o := fun L m => ⟨(WL hFF L m).1, hL L m⟩
    refine @cps _ fun Γ γ => ?_
    obtain ⟨dd, vs, sl, g, v1, a0, v0⟩ := I.flds
    refine γ ?_; clear γ Γ
    refine h _ _ ⟨ρ, hwo s.heap (l.filterMap (·.frame)), l, e, hA, rfl, .inl ⟨fun b o z => ?_, ?_, XeR kp (fun L m => m) hFF, _, vs, _, g, rfl, rfl, v1, v0⟩, a.rel.h.wo hl, Step.keeps kp, a.rel.gens, a.rel.os, fun b o z _ _ nf => ?_⟩
    · rw [WV] at z
      split at z
      · cases z
      · exact kp b o z
    · rw [WV]; split
      · rfl
      · exact he
    · exact ⟨o.slots, by rw [WV, if_neg nf]; exact z, fun _ => rfl⟩
  rw [arm_exec_Raise]
  rw [arm_evalOpt_some]
  refine wpAny_bind (wpAny_standAt (Xed (K := C.K) GP a.ax.hd ?_))
  refine wpAny_bind (wpAny_mono (wpAny_Call_ofName (XdR a R.rp hs (by decide +kernel) ?_)) (fun v s₃ h₃ => wpAny_bind (wpAny_standAt (wpAny_pure h₃))) fun _ _ x => x)
  refine callWith_of (P := fun h => C.h₀.StaysIn h ∧ C.K.In h) (by rfl) (fun h X => keeps_K R.rpk h X.2) (Uw (by rfl) (Vy (by rfl) (Calls.Constant_str (Xbo ?_))))
  exact ⟨⟨a.rel.h.stays, a.rel.h.K⟩, wpAny_call (XlE (s := { s with toks := s.toks + 1 }) R a.rel.h.stays (by have := a.ax.depth; lia) hn fun h' tk e mA kp he I => ⟨e, mA, rfl, a.rel.h.K.keeps kp, I, fin _ _ _ _ kp he I⟩)⟩
@[irreducible] noncomputable def mWh (t : BM) (b : XM) (n : Nat) : XM := WW t b n
theorem XoL {C : Wd} {k : Nat} {sc : Scope} {test : Expr} {body : List Stmt} {pos : Pos} {t : BM} {b : XM} (n : Nat) (ht : BS C k sc test t) (hb : XSs C k sc body b) : XS C k sc (.While test body [] pos) (mWh t b n) := by
  unfold mWh; exact Xkh n ht hb
theorem Xgq {M : Model} {A : Around} {E : Value → Shared → Prop} {s : Shared} {env : Env} {body orelse : Sem Flow} {h₀ : ExceptHandler} {hs : List ExceptHandler} {Q : Flow → Shared → Prop}
    (h : wpAny M A body (fun f s₁ => match f with | .next => wpAny M A orelse Q E s₁ | f => Q f s₁) (fun e s₁ => wpAny M A (leaving env e) (fun _ s₃ => wpAny M A (handleBy e env (h₀ :: hs)) Q E s₃) E s₁) s) :
    wpAny M A (tryStmt false body (h₀ :: hs) orelse [] env) Q E s := by
  delta tryStmt
  show wpAny M A (body.attempt >>= _) Q E s
  refine wpAny_bind (wpAny_attempt (wpAny_mono h (fun f s₁ h₁ => ?_) fun e s₁ h₁ => ?_))
  · cases f <;> first | exact h₁ | exact wpAny_pure h₁
  · have : (do noteFrame e env; setFlight e none; handleBy e env (h₀ :: hs)) = (leaving env e >>= fun _ => handleBy e env (h₀ :: hs)) := by
      unfold leaving; simp only [bind_assoc]
    show wpAny M A (do noteFrame e env; setFlight e none; handleBy e env (h₀ :: hs)) Q E s₁
    rw [this]
    exact wpAny_bind h₁
theorem Xe9 {C : Wd} {M : Model} {A : Around} {env : Env} {outer : List Env} {ρ : List Loc} {h : Heap} {s' : Shared} {σ' : Sg} {e : Value} {Q : Unit → Shared → Prop} {E : Value → Shared → Prop} (hfr : A.frames = some (env :: outer)) (hframe : env.frame = some env.locals)
    (x : EPost C A [] ρ h σ' e s') (hQ : ∀ h₂ ρ' a B a0, e = .ref a → B.StaysIn h₂ → h₂.FunFrames B outer → h₂.TracedW B a (.ref gp) a0 → (∀ h₃, B.StaysIn h₃ → h₂.UpToSlots h₃ → Step [] ρ h ρ' h₃ ∧ RelH C ρ' σ' h₃) → s'.gens = #[] → s'.os = C.os → Q () { s' with heap := h₂ }) :
    wpAny M A (leaving env e) Q E s' := by
  refine @cps _ fun Γ γ => ?_
  obtain ⟨ρ', B, l, a, f, rfl, ex, r, st, g, o, k⟩ := x
  refine γ ?_; clear γ Γ
  rw [hfr] at f
  cases f
  have hF : Heap.FunFrames s'.heap B (env :: outer) := by
    rcases ex with ⟨_, _, q, _⟩ | ⟨_, _, _, q, _⟩ <;> exact q
  have up_step : ∀ h₃, B.StaysIn h₃ → s'.heap.UpToSlots h₃ → Step [] ρ h ρ' h₃ ∧ RelH C ρ' σ' h₃ := fun h₃ fl up => by
    refine ⟨⟨st.grow, fun b ob hb => ?_⟩, r.keeps fl⟩
    by_cases hin : In ρ b
    · have hin' : In ρ' b := by
        obtain ⟨ext, rfl, _⟩ := st.grow
        exact in_append.mpr (.inl hin)
      refine @cps _ fun Γ γ => ?_
      obtain ⟨o2, g2, _, _, d2⟩ := r.kind hin'
      refine γ ?_; clear γ Γ
      exact ⟨o2, fl _ _ g2, fun _ => d2, fun z => absurd hin z⟩
    · obtain ⟨o1, g1, d1, z1⟩ := st.evo b ob hb
      obtain ⟨sl, rfl, f1⟩ := z1 hin (by simp)
      by_cases hfld : ∃ vs, ob.data = .fields vs
      · obtain ⟨vs, hvs⟩ := hfld
        have nf : b ∉ (env :: outer).filterMap (·.frame) := fun hm => by
          refine @cps _ fun Γ γ => ?_
          obtain ⟨_, o3, g3, d3⟩ := hF.mem hm
          refine γ ?_; clear γ Γ
          rw [g1] at g3; cases g3; exact d3 vs hvs
        obtain ⟨sl', gB, f2⟩ := k b ob hb hin (by simp) nf
        exact ⟨_, fl _ _ gB, fun z => z, fun _ _ => ⟨sl', rfl, f2⟩⟩
      · obtain ⟨sl', g2⟩ := up b _ g1 (fun vs z => hfld ⟨vs, z⟩)
        exact ⟨_, g2, fun z => z, fun _ _ => ⟨sl', rfl, fun z => absurd z hfld⟩⟩
  have fin : ∀ h₂ a0, B.StaysIn h₂ → h₂.FunFrames B outer → h₂.TracedW B a (.ref gp) a0 → s'.heap.UpToSlots h₂ → Q () { s' with heap := h₂ } := fun h₂ a0 k1 k2 k3 up => by
    refine hQ h₂ ρ' a B a0 rfl k1 k2 k3 (fun h₃ k4 up' => up_step h₃ k4 fun b ob hb hn => ?_) g o
    obtain ⟨sl, g2⟩ := up b ob hb hn
    obtain ⟨sl', g3⟩ := up' b _ g2 hn
    exact ⟨sl', g3⟩
  rcases ex with ⟨e1, e2, e3, oe, vs, a0, e4, e5, e6, e7, e8⟩ | ⟨a0, fl⟩
  · refine wpAny_leaving_firstW hfr e3 hframe e4 e1 e2 e6 e7 e8 fun h' hL' => ?_
    refine @cps _ fun Γ γ => ?_
    obtain ⟨k1, ⟨_, _, k2⟩, k3, k4⟩ := hL'
    refine γ ?_; clear γ Γ
    rw [e5] at k3
    exact fin h' a0 k1 k2 k3 k4
  · exact wpAny_leaves_onW hfr hframe fl fun h' fl' up => fin h' a0 fl'.1 fl'.2.2.1 fl'.2.2.2 up
theorem XiK {C : Wd} {M : Model} {A A' : Around} {E : Value → Shared → Prop} {Q : Value → Shared → Prop} {k : Nat} {sc : Scope} {env : Env} {fr : Fr} {ρ : List Loc} {σ : Sg} {s : Shared} {n : Str} {pos : Pos} {v : Value}
    (a : At C k sc A' env fr ρ σ s) (hg : nsIn C.K mainGlobals n = some (some v)) (hs : sc.names.lookup n = some .globalImplicit) (hd : (n == ("__debug__" : Str)) = false) (h : Q v s) : wpAny M A (eval (.Name n pos) env) Q E s := by
  refine Calls.Name_function_global a.fr.kind (by rw [← a.sc] at hs; exact hs) (Calls.loadGlobal_global ?_ (mg_of C.X C.g hg) h) hd
  rw [a.fr.glob]; exact C.g.keeps a.rel.h.stays
theorem Xjt {C : Wd} (kr : KR C.K) {k : Nat} {sc : Scope} {t1 t2 e1 e2 e3 : Expr} {x : Sy} {nm : Str} {p1 p2 p3 p4 p5 p6 p7 p8 p9 p10 p11 p12 p13 p14 : Pos} {x1 x2 x3 : Nat} {rest : List Stmt} {m1 m2 : BM} {n1 n2 n3 : EM} {ms : XM} (q1 : BS C k sc t1 m1) (r1 : ES C k sc e1 n1) (q2 : BS C k sc t2 m2) (r2 : ES C k sc e2 n2) (r3 : ES C k sc e3 n3) (hr : XSs C k sc rest ms)
    (hx : sc.names.lookup x.s = some .local := by decide +kernel) (hn : nm = x.s := by rfl) (hs : sc.names.lookup ("GoPanic" : Str) = some .globalImplicit := by decide +kernel) (hq : ∀ env, env.scope = sc → swapsWithSole [.Name nm p5] e3 p6.line env = pure false := by intro _ _; rfl)
    (hw : ∀ env, env.scope = sc → swappedStores [.Name nm p5] e3 env = pure none := by intro _ _; rfl) :
    Xhz C k sc (.Try [.If t1 [.Return (some e1) p1] [] p2, .If t2 [.Return (some e2) p3] [] p4, .Assign [.Name nm p5] e3 p6] [.ExceptHandler (some (.Name "GoPanic" p7)) none [.Return (some (.List [.Tuple [.Constant (.str "panic") x1 p8, .Constant (.str "") x2 p9] x3 p10] p11)) p12] p13] [] [] p14 :: rest) (Xo (Xk2 (Xer m1 n1 m2 n2 n3 x)) ms) := by
  subst hn
  intro A env fr ρ σ s Q E tf a h
  obtain ⟨outer, hfr, hframe⟩ := tf
  have body : ∀ {Q' : Flow → Shared → Prop} {E' : Value → Shared → Prop}, (Xer m1 n1 m2 n2 n3 x fr σ).Ok (QX C k sc A env ρ s Q') (QE C A ρ s E') → wpAny (model C.prog C.w) A (execs [.If t1 [.Return (some e1) p1] [] p2, .If t2 [.Return (some e2) p3] [] p4, .Assign [.Name x.s p5] e3 p6] env) Q' E' s := by
    intro Q' E' h
    unfold Xer at h
    rw [R.Ok_bind] at h
    refine wpAny_execs_cons (wpAny_If (q1 a (h.mono (fun b σ₁ h₁ ρ₁ s₁ st r => ?_) fun _ y => y)))
    have z := a.stepX (b := true) st r
    cases b with
    | true =>
      rw [if_pos rfl] at h₁
      rw [R.Ok_bind] at h₁
      refine wpAny_execs_cons (wpAny_Return_some (r1 z.2 (h₁.mono (fun v σ₂ h₂ ρ₂ s₂ w st₂ r₂ v => ?_) fun _ y => QE.chain y st)))
      have z2 := z.2.stepX (b := true) st₂ r₂
      exact h₂ _ _ _ (z.1.trans z2.1) z2.2 ⟨w, rfl, v⟩
    | false =>
      rw [if_neg Bool.false_ne_true] at h₁
      rw [R.Ok_bind] at h₁
      refine wpAny_execs_nil (wpAny_execs_cons (wpAny_If (q2 z.2 (h₁.mono (fun b σ₂ h₂ ρ₂ s₂ st₂ r₂ => ?_) fun _ y => QE.chain y st))))
      have z2 := z.2.stepX (b := true) st₂ r₂
      cases b with
      | true =>
        rw [if_pos rfl] at h₂
        rw [R.Ok_bind] at h₂
        refine wpAny_execs_cons (wpAny_Return_some (r2 z2.2 (h₂.mono (fun v σ₃ h₃ ρ₃ s₃ w st₃ r₃ v => ?_) fun _ y => QE.chain y (st.trans st₂))))
        have z3 := z2.2.stepX (b := true) st₃ r₃
        exact h₃ _ _ _ ((z.1.trans z2.1).trans z3.1) z3.2 ⟨w, rfl, v⟩
      | false =>
        rw [if_neg Bool.false_ne_true] at h₂
        rw [R.Ok_bind] at h₂
        refine wpAny_execs_nil (wpAny_execs_cons ?_)
        rw [arm_exec_Assign, hq env a.sc, hw env a.sc]
        refine wpAny_bind (wpAny_standAt (wpAny_bind (wpAny_pure ?_)))
        show wpAny _ _ (eval e3 env >>= _) _ _ _
        refine wpAny_bind (r3 z2.2 (h₂.mono (fun v σ₃ h₃ ρ₃ s₃ w st₃ r₃ v => ?_) fun _ y => QE.chain y (st.trans st₂)))
        have z3 := z2.2.stepX (b := true) st₃ r₃
        refine wpAny_bind (wpAny_pure ?_)
        show wpAny _ _ (assign (.Name x.s p5) env w >>= fun _ => pure Flow.next) _ _ _
        refine wpAny_bind (wpAny_assign_Name (Xbh (b := true) z3.2 (.inl hx) v fun s' st' a' => wpAny_pure (wpAny_execs_nil ?_)))
        exact h₃ _ _ _ (((z.1.trans z2.1).trans z3.1).trans st') a' rfl
  unfold Xo Xk2 at h
  refine wpAny_execs_cons ?_
  rw [arm_exec_Try]
  refine wpAny_bind (wpAny_standAt (Xgq (body ?_)))
  cases hm : Xer m1 n1 m2 n2 n3 x fr σ with
  | stuck => rw [hm] at h; exact h.elim
  | ok r σ' =>
    rw [hm] at h
    obtain ⟨fl, fr'⟩ := r
    show QX C k sc A env ρ s _ (fl, fr') σ'
    intro ρ' s' f st a' hf
    cases fl with
    | next =>
      simp only [VP] at hf
      subst hf
      refine wpAny_execs_nil ?_
      exact hr a' (R.Ok.mono (r := ms fr' σ') h (fun _ _ z => QX.chain z st) fun _ z => QEX.chain0 z st)
    | brk => simp only [VP] at hf; subst hf; exact h _ _ _ st a' rfl
    | cont => simp only [VP] at hf; subst hf; exact h _ _ _ st a' rfl
    | ret v => obtain ⟨w, rfl, vw⟩ := hf; exact h _ _ _ st a' ⟨w, rfl, vw⟩
  | exc σ' =>
    rw [hm] at h
    have h : QX C k sc A env ρ s Q (.ret (.ref σ'.length), fr) (σ' ++ [.list [.tup [.str 14, .str 0]]]) := h
    show QE C A ρ s _ σ'
    intro e s' ep
    refine Xe9 hfr hframe ep fun h₂ ρ' a1 B a0 he k1 k2 k3 up hg ho => ?_
    subst he
    refine @cps _ fun Γ γ => ?_
    obtain ⟨st2, r2⟩ := up h₂ k1 fun b o e _ => ⟨o.slots, e⟩
    have at2 : At C k sc A env fr ρ' σ' { s' with heap := h₂ } := a.next (s' := { s' with heap := h₂ }) st2 ⟨r2, hg, ho⟩
    obtain ⟨oe, vs, T, oT, ts, t1', ⟨t2', t2''⟩, t3'⟩ := id k3
    refine γ ?_; clear γ Γ
    refine wpAny_handleBy_cons (codeAny_handlers_test (XiK at2 kr.panic hs (by decide +kernel) ?_)) (by intro q; cases q)
    have LT : Looks (model C.prog C.w) h₂ (typeOf (.ref a1)) (.ref gp) := by
      rw [← t2']
      exact (Looks.ld t1').andThen .now
    refine (exm_one (r2.K) LT kr.exm).here (s := { s' with heap := h₂ }) ?_
    show codeAny _ _ _ _ _
    refine codeAny_handlers_suite (wpAny_setFlight_noneW k1 k2 k3 fun h₃ j1 j2 j3 j4 => ?_)
    obtain ⟨st3, r3'⟩ := up h₃ j1 fun b o e hn => ⟨o.slots, j4 b o e hn⟩
    have at3 : At C k sc A env fr ρ' σ' { s' with heap := h₃ } := a.next (s' := { s' with heap := h₃ }) st3 ⟨r3', hg, ho⟩
    refine wpAny_execs_cons (wpAny_Return_some (wpAny_List_spliced ?_))
    show wpAny _ _ (spliced [(false, eval (.Tuple [.Constant (.str "panic") x1 p8, .Constant (.str "") x2 p9] x3 p10) env)]) _ _ _
    refine Calls.spliced_cons (wpAny_Tuple_spliced ?_)
    show wpAny _ _ (spliced [(false, eval (.Constant (.str "panic") x1 p8) env), (false, eval (.Constant (.str "") x2 p9) env)]) _ _ _
    refine Calls.spliced_cons (Calls.Constant_str (Calls.spliced_cons (Calls.Constant_str (Calls.spliced_nil ⟨Nat.le_trans (show _ ≤ 1000000 by simp) UE, Calls.spliced_nil ⟨Nat.le_trans (show _ ≤ 1000000 by simp) UE, ?_⟩⟩))))
    have r4 : ∀ t, Rel C ρ' σ' { s' with heap := h₃, toks := t } := fun t => ⟨r3', hg, ho⟩
    have st4 : Step [] ρ s.heap ρ' (h₃.push { cls := .type "tuple", data := .seq [Value.str ("panic" : Str) s'.toks, Value.str ("" : Str) (s'.toks + 1)].toArray }) := st3.trans (Step.push _ _)
    have vs : VRels ρ' (h₃.push { cls := .type "tuple", data := .seq [Value.str ("panic" : Str) s'.toks, Value.str ("" : Str) (s'.toks + 1)].toArray }) [.tup [.str 14, .str 0]] [.ref h₃.objs.size] := by
      simp only [VRels, VRel]
      exact ⟨_, [], rfl, ⟨_, [Value.str ("panic" : Str) s'.toks, Value.str ("" : Str) (s'.toks + 1)].toArray, rfl, IsTup.new _ _, _, [Value.str ("" : Str) (s'.toks + 1)], rfl, ⟨s'.toks, rfl⟩, _, [], rfl, ⟨s'.toks + 1, rfl⟩, rfl⟩, rfl⟩
    obtain ⟨r5, st5, e5⟩ := ((r4 (s'.toks + 2)).push { cls := .type "tuple", data := .seq [Value.str ("panic" : Str) s'.toks, Value.str ("" : Str) (s'.toks + 1)].toArray }).newList vs
    exact h _ _ _ (st4.trans st5).w0 (a.next (st4.trans st5) r5) ⟨_, rfl, by simp only [VRel]; exact ⟨_, e5, rfl⟩⟩
section
section
variable {α β : Type} {fr : Fr} {σ : Sg} {v x y : MV} {b : Bool} {l : List MV}
noncomputable def XmV (σ : Sg) (o : Option MV) : R MV := match o with
  | some v => .ok v σ
  | none => .stuck
theorem Xk {x : Sy} : Xc x fr σ = XmV σ (fr.lookup x) := rfl
theorem Xj : XmV σ (some v) = .ok v σ := rfl
theorem Xm : Xd v fr σ = .ok v σ := rfl
noncomputable def Xjo (f : OpM) (x : MV) (r : R MV) : R MV := r.bind fun y σ => f x y σ
noncomputable def Xk6 (f : OpM) (b : EM) (fr : Fr) (r : R MV) : R MV := r.bind fun x σ => Xjo f x (b fr σ)
theorem YT {f : OpM} {a b : EM} : YI f a b fr σ = Xk6 f b fr (a fr σ) := rfl
theorem XE {f : OpM} {b : EM} : Xk6 f b fr (.ok x σ) = Xjo f x (b fr σ) := rfl
theorem Xt {f : OpM} : Xjo f x (.ok y σ) = f x y σ := rfl
theorem Ym {a b : EM} : XI a b fr σ = Xk6 Zx b fr (a fr σ) := rfl
theorem XF {f : OpM} {a b : EM} : XN f a b fr σ = WM (Xk6 f b fr (a fr σ)) := rfl
theorem Xz : WM (.ok (.bool b) σ) = .ok b σ := rfl
theorem YS {m : EM} : UI m fr σ = WM (m fr σ) := rfl
noncomputable def Xov (r : R Bool) : R Bool := r.bind fun b σ => .ok (!b) σ
theorem Vm {m : BM} : Xi8 m fr σ = Xov (m fr σ) := rfl
theorem VD : Xov (.ok b σ) = .ok (!b) σ := rfl
noncomputable def Xnr (b : BM) (fr : Fr) (r : R Bool) : R Bool := r.bind fun x σ => if x then b fr σ else .ok false σ
noncomputable def kOr (b : BM) (fr : Fr) (r : R Bool) : R Bool := r.bind fun x σ => if x then .ok true σ else b fr σ
theorem Ui {a b : BM} : UO a b fr σ = Xnr b fr (a fr σ) := rfl
theorem VM {a b : BM} : mOr a b fr σ = kOr b fr (a fr σ) := rfl
theorem Ze {b : BM} : Xnr b fr (.ok true σ) = b fr σ := rfl
theorem Zc {b : BM} : Xnr b fr (.ok false σ) = .ok false σ := rfl
theorem UA {b : BM} : kOr b fr (.ok true σ) = .ok true σ := rfl
theorem ZY {b : BM} : kOr b fr (.ok false σ) = b fr σ := rfl
theorem Ug : YU fr σ = .ok true σ := rfl
theorem ZB : WQ fr σ = .ok false σ := rfl
noncomputable def XjF (b : EM) (fr : Fr) (r : R Bool) : R MV := r.bind fun x σ => if x then b fr σ else .ok (.bool false) σ
noncomputable def Xno (b : EM) (fr : Fr) (r : R Bool) : R MV := r.bind fun x σ => if x then .ok (.bool true) σ else b fr σ
theorem Uy {a b : EM} : Xcq a b fr σ = XjF b fr (WM (a fr σ)) := rfl
theorem VT {a b : EM} : Xi4 a b fr σ = Xno b fr (WM (a fr σ)) := rfl
theorem ZL {b : EM} : XjF b fr (.ok true σ) = b fr σ := rfl
theorem ZK {b : EM} : XjF b fr (.ok false σ) = .ok (.bool false) σ := rfl
theorem UQ {b : EM} : Xno b fr (.ok true σ) = .ok (.bool true) σ := rfl
theorem Uo {b : EM} : Xno b fr (.ok false σ) = b fr σ := rfl
noncomputable def kIf (a b : Fr → Sg → R α) (fr : Fr) (r : R Bool) : R α := r.bind fun x σ => if x then a fr σ else b fr σ
theorem Vf {t : BM} {a b : EM} : mIf t a b fr σ = kIf a b fr (t fr σ) := rfl
theorem XY {t : BM} {a b : XM} : YZ t a b fr σ = kIf a b fr (t fr σ) := rfl
theorem XZ {a b : Fr → Sg → R α} : kIf a b fr (.ok true σ) = a fr σ := rfl
theorem XR {a b : Fr → Sg → R α} : kIf a b fr (.ok false σ) = b fr σ := rfl
theorem XA : Xi fr σ = .ok [] σ := rfl
noncomputable def XgW (x : MV) (r : R (List MV)) : R (List MV) := r.bind fun y σ => .ok (x :: y) σ
noncomputable def XkH (b : EMs) (fr : Fr) (r : R MV) : R (List MV) := r.bind fun x σ => XgW x (b fr σ)
theorem Xx {a : EM} {b : EMs} : Xe a b fr σ = XkH b fr (a fr σ) := rfl
theorem Xv {b : EMs} : XkH b fr (.ok x σ) = XgW x (b fr σ) := rfl
theorem Xn : XgW x (.ok l σ) = .ok (x :: l) σ := rfl
noncomputable def Xop (r : R (List MV)) : R MV := r.bind fun l σ => VS l.length (.ok (.tup l) σ)
theorem Yx {m : EMs} : Yw m fr σ = Xop (m fr σ) := rfl
theorem Yy : Xop (.ok l σ) = VS l.length (.ok (.tup l) σ) := rfl
noncomputable def Xje (r : R (List MV)) : R MV := r.bind fun l σ => VS l.length (.ok (.ref σ.length) (σ ++ [.list l]))
theorem Yd {m : EMs} : XO m fr σ = Xje (m fr σ) := rfl
theorem Yf : Xje (.ok l σ) = VS l.length (.ok (.ref σ.length) (σ ++ [.list l])) := rfl
noncomputable def XkS (f : MV → Sg → R α) (r : R MV) : R α := r.bind f
theorem Yh {c : Cl} {f : Sy} {m : EM} : Yl c f m fr σ = XkS (UF c f) (m fr σ) := rfl
theorem Vn {m : EM} : Xf5 m fr σ = XkS Xmx (m fr σ) := rfl
theorem Vg {n : Nat} {m : EM} : XgD n m fr σ = XkS (Xju n) (m fr σ) := rfl
theorem Xbr {m : EM} : m12 m fr σ = XkS o12 (m fr σ) := rfl
theorem Ys {f : MV → Sg → R α} : XkS f (.ok v σ) = f v σ := rfl
noncomputable def XmD (m : List MV → Sg → R MV) (r : R (List MV)) : R MV := r.bind fun l σ => m l σ
theorem XU {m : List MV → Sg → R MV} {a : EMs} : XB m a fr σ = XmD m (a fr σ) := rfl
theorem XT {m : List MV → Sg → R MV} : XmD m (.ok l σ) = m l σ := rfl
noncomputable def XoD (i : Nat) (r : R MV) : R MV := r.bind fun v σ' => match v with
  | .none => .ok (.ref i) σ'
  | _ => .stuck
theorem Vz {c : Cl} {m : List MV → Sg → R MV} : Wo c m l σ = XoD σ.length (m (.ref σ.length :: l) (σ ++ [.inst c []])) := rfl
theorem VC {i : Nat} : XoD i (.ok .none σ) = .ok (.ref i) σ := rfl
noncomputable def VX (m : List MV → Sg → R MV) (i : Nat) (r : R (List MV)) : R MV := r.bind fun as σ => m (.ref i :: as) σ
noncomputable def Xam (c : Cl) (nm : Option Sy) (m : List MV → Sg → R MV) (args : EMs) (fr : Fr) (r : R MV) : R MV := r.bind fun ov σ => match ov with
  | .ref i => match σ[i]? with
    | some (.inst c' l) => if c' = c ∧ Xbn l nm = true then VX m i (args fr σ) else .stuck
    | _ => .stuck
  | _ => .stuck
theorem YJ {c : Cl} {nm : Option Sy} {m : List MV → Sg → R MV} {o : EM} {a : EMs} : Ua c nm m o a fr σ = Xam c nm m a fr (o fr σ) := rfl
theorem WN {i : Nat} {c : Cl} {nm : Option Sy} {m : List MV → Sg → R MV} {a : EMs} {fs : Fr} (h : σ[i]? = some (.inst c fs)) (hf : Xbn fs nm = true) : Xam c nm m a fr (.ok (.ref i) σ) = VX m i (a fr σ) := by
  unfold Xam R.bind; simp [h, hf]
theorem Yu {m : List MV → Sg → R MV} {i : Nat} : VX m i (.ok l σ) = m (.ref i :: l) σ := rfl
noncomputable def Xc9 (r : R (Fl × Fr)) : R MV := r.bind fun r σ => match r.1 with
  | .ret v => .ok v σ
  | _ => .ok .none σ
theorem Xgj {ps ds : List Sy} {m : XM} (h : l.length = ps.length) : ZU ps ds m l σ = Xc9 (m ((ps ++ ds).zip (l ++ ds.map fun _ => .none)) σ) := by unfold ZU; rw [if_pos h]; rfl
theorem Xu : Xc9 (.ok (.ret v, fr) σ) = .ok v σ := rfl
theorem YA : Xc9 (.ok (.next, fr) σ) = .ok .none σ := rfl
theorem Zq : Xc9 (.exc σ) = .exc σ := rfl
noncomputable def Xlz (f : LM) (i : Nat) (r : R (List MV)) : R MV := r.bind fun vs σ => match σ[i]? with
  | some (.list l) => f i l vs σ
  | _ => .stuck
noncomputable def kLm (f : LM) (a : EMs) (fr : Fr) (r : R MV) : R MV := r.bind fun ov σ => match ov with
  | .ref i => match σ[i]? with
    | some (.list _) => Xlz f i (a fr σ)
    | _ => .stuck
  | _ => .stuck
theorem UH {f : LM} {o : EM} {a : EMs} : mLm f o a fr σ = kLm f a fr (o fr σ) := rfl
theorem Vv {f : LM} {i : Nat} {a : EMs} (h : σ[i]? = some (.list l)) : kLm f a fr (.ok (.ref i) σ) = Xlz f i (a fr σ) := by unfold kLm R.bind; simp [h]
theorem Uh {f : LM} {i : Nat} {vs : List MV} (h : σ[i]? = some (.list l)) : Xlz f i (.ok vs σ) = f i l vs σ := by unfold Xlz R.bind; simp [h]
noncomputable def Xn8 (fr : Fr) (r : R MV) : R (Fl × Fr) := r.bind fun v σ => .ok (.ret v, fr) σ
theorem Yg {m : EM} : Zg m fr σ = Xn8 fr (m fr σ) := rfl
theorem Yn : Xn8 fr (.ok v σ) = .ok (.ret v, fr) σ := rfl
theorem ZD : Xn8 fr (.exc σ) = .exc σ := rfl
noncomputable def XmG (fr : Fr) (r : R MV) : R (Fl × Fr) := r.bind fun _ σ => .ok (.next, fr) σ
theorem YK {m : EM} : Zd m fr σ = XmG fr (m fr σ) := rfl
theorem YD : XmG fr (.ok v σ) = .ok (.next, fr) σ := rfl
theorem Xau {f : Fl} : mFl f fr σ = .ok (f, fr) σ := rfl
noncomputable def Xj6 (r : R Fr) : R (Fl × Fr) := r.bind fun fr σ => .ok (.next, fr) σ
noncomputable def XoF (t : TM) (fr : Fr) (r : R MV) : R (Fl × Fr) := r.bind fun v σ => Xj6 (t v fr σ)
theorem Yj {m : EM} {t : TM} : YE m t fr σ = XoF t fr (m fr σ) := rfl
theorem Yk {t : TM} : XoF t fr (.ok v σ) = Xj6 (t v fr σ) := rfl
theorem XJ : Xj6 (.ok fr σ) = .ok (.next, fr) σ := rfl
theorem XQ {x : Sy} : XC x v fr σ = .ok (fset fr x v) σ := rfl
noncomputable def XgI (fr : Fr) (r : R Unit) : R Fr := r.bind fun _ σ => .ok fr σ
theorem YB : XgI fr (.ok () σ) = .ok fr σ := rfl
noncomputable def XkQ (c : Cl) (f : Sy) (v : MV) (fr : Fr) (r : R MV) : R Fr := r.bind fun o σ => XgI fr (Zb c f v o σ)
theorem YF {c : Cl} {f : Sy} {m : EM} : Zw c f m v fr σ = XkQ c f v fr (m fr σ) := rfl
theorem YG {c : Cl} {f : Sy} : XkQ c f v fr (.ok x σ) = XgI fr (Zb c f v x σ) := rfl
noncomputable def Xe1 (v ov : MV) (fr : Fr) (r : R MV) : R Fr := r.bind fun iv σ => XgI fr (ZZ v ov iv σ)
noncomputable def Xj3 (i : EM) (v : MV) (fr : Fr) (r : R MV) : R Fr := r.bind fun ov σ => Xe1 v ov fr (i fr σ)
theorem Zn {o i : EM} : Ws o i v fr σ = Xj3 i v fr (o fr σ) := rfl
theorem Zo {i : EM} : Xj3 i v fr (.ok x σ) = Xe1 v x fr (i fr σ) := rfl
theorem YO : Xe1 v x fr (.ok y σ) = XgI fr (ZZ v x y σ) := rfl
theorem Zt : XbA l fr σ = .ok fr σ := rfl
noncomputable def XjW (ts : TMs) (l : List MV) (r : R Fr) : R Fr := r.bind fun fr σ => ts l fr σ
theorem YR {t : TM} {ts : TMs} : ZQ t ts (v :: l) fr σ = XjW ts l (t v fr σ) := rfl
theorem YQ {ts : TMs} : XjW ts l (.ok fr σ) = ts l fr σ := rfl
theorem XbH {n : Nat} {ts : TMs} (h : l.length = n) : ZC n ts (.tup l) fr σ = ts l fr σ := by unfold ZC; simp [h]
theorem Xee {n i : Nat} {ts : TMs} (h : σ[i]? = some (.list l)) (hn : l.length = n) : ZC n ts (.ref i) fr σ = ts l fr σ := by unfold ZC; simp [h, hn]
noncomputable def XgJ (xs : List Sy) (fr : Fr) (r : R MV) : R (Fl × Fr) := r.bind fun v σ => match v with
  | .tup l => if l.length = xs.length then .ok (.next, Xa6 xs.reverse l.reverse fr) σ else .stuck
  | _ => .stuck
theorem Ud {m : EM} {xs : List Sy} : VB m xs fr σ = XgJ xs fr (m fr σ) := rfl
theorem WF : (!true) = false := rfl
theorem WH : (!false) = true := rfl
theorem UP {x1 x2 : Sy} {a b : MV} : XgJ [x1, x2] fr (.ok (.tup [a, b]) σ) = .ok (.next, fset (fset fr x2 b) x1 a) σ := rfl
theorem UM {x1 x2 x3 : Sy} {a b c : MV} : XgJ [x1, x2, x3] fr (.ok (.tup [a, b, c]) σ) = .ok (.next, fset (fset (fset fr x3 c) x2 b) x1 a) σ := rfl
theorem WY {xs : List Sy} (h : l.length = xs.length) : XgJ xs fr (.ok (.tup l) σ) = .ok (.next, Xa6 xs.reverse l.reverse fr) σ := by unfold XgJ R.bind; simp [h]
noncomputable def XiG (b : XM) (r : R (Fl × Fr)) : R (Fl × Fr) := r.bind fun r σ => match r with
  | (.next, fr) => b fr σ
  | (f, fr) => .ok (f, fr) σ
theorem Xw {a b : XM} : Xo a b fr σ = XiG b (a fr σ) := rfl
theorem XD {b : XM} : XiG b (.ok (.next, fr) σ) = b fr σ := rfl
theorem Xq {b : XM} : XiG b (.ok (.ret v, fr) σ) = .ok (.ret v, fr) σ := rfl
theorem ZF {b : XM} : XiG b (.ok (.brk, fr) σ) = .ok (.brk, fr) σ := rfl
theorem Za {b : XM} : XiG b (.ok (.cont, fr) σ) = .ok (.cont, fr) σ := rfl
theorem Zp {b : XM} : XiG b (.exc σ) = .exc σ := rfl
theorem XG : Xp fr σ = .ok (.next, fr) σ := rfl
theorem Us : XeD fr σ = .exc σ := rfl
noncomputable def Xnq (fr : Fr) (r : R (Fl × Fr)) : R (Fl × Fr) := match r with
  | .exc σ' => .ok (.ret (.ref σ'.length), fr) (σ' ++ [.list [.tup [.str 14, .str 0]]])
  | r => r
theorem Vx {m : XM} : Xk2 m fr σ = Xnq fr (m fr σ) := rfl
theorem VL {r : Fl × Fr} : Xnq fr (.ok r σ) = .ok r σ := rfl
theorem Zv : Xnq fr (.exc σ) = .ok (.ret (.ref σ.length), fr) (σ ++ [.list [.tup [.str 14, .str 0]]]) := rfl
noncomputable def Xlk (x : Sy) (fr : Fr) (r : R MV) : R (Fl × Fr) := r.bind fun v σ => .ok (.next, fset fr x v) σ
theorem UB {t1 t2 : BM} {e1 e2 e3 : EM} {x : Sy} : Xer t1 e1 t2 e2 e3 x fr σ = kIf (Zg e1) (YZ t2 (Zg e2) (fun fr σ => Xlk x fr (e3 fr σ))) fr (t1 fr σ) := rfl
theorem Vk {x : Sy} : Xlk x fr (.ok v σ) = .ok (.next, fset fr x v) σ := rfl
theorem Zu {x : Sy} : Xlk x fr (.exc σ) = .exc σ := rfl
theorem UD {m : EM} {x : Sy} : XaM m x fr σ = Xlk x fr (m fr σ) := rfl
noncomputable def Xkx (names : List Sy) (n : Nat) (r : R (List MV)) : R MV := r.bind fun vs σ' => match σ'[n]? with
  | some (.dict l) => if l.isEmpty = true ∧ vs.length = names.length then .ok (.ref n) (σ'.set n (.dict (names.zip vs))) else .stuck
  | _ => .stuck
theorem Xnt {names : List Sy} {m : EMs} : Xid names m fr σ = Xkx names σ.length (m fr (σ ++ [.dict []])) := rfl
theorem XnA {names : List Sy} {n : Nat} (h : σ[n]? = some (.dict [])) (hl : l.length = names.length) : Xkx names n (.ok l σ) = .ok (.ref n) (σ.set n (.dict (names.zip l))) := by unfold Xkx R.bind; simp [h, hl]
noncomputable def Xis (f g : OpM) (x : MV) (c : EM) (fr : Fr) (r : R MV) : R Bool := r.bind fun y σ => (WM (f x y σ)).bind fun t σ => if t then (c fr σ).bind fun z σ => WM (g y z σ) else .ok false σ
theorem Xj7 {f g : OpM} {a b c : EM} (h : a fr σ = .ok x σ) : Xbg f g a b c fr σ = Xis f g x c fr (b fr σ) := by unfold Xbg; rw [h]; rfl
theorem UY {n : Nat} {r : R α} (h : n < 1000000) : VS n r = r := if_pos h
theorem ZI {a : α} : Zf (.ok a σ) = .ok a σ := rfl
theorem Yz {γ : Type} {x y : Sy} {v : γ} {r : List (Sy × γ)} : List.lookup x ((y, v) :: r) = bif x.eqb y then some v else List.lookup x r := rfl
theorem Xn5 {γ : Type} {x : Sy} {v : γ} {r : List (Sy × γ)} : List.lookup x ((x, v) :: r) = some v := by simp [List.lookup]
theorem Ya {x : Sy} : fset [] x v = [(x, v)] := rfl
theorem Zl {x y : Sy} {w : MV} {r : Fr} : fset ((y, w) :: r) x v = bif x.eqb y then (y, v) :: r else (y, w) :: fset r x v := rfl
theorem Zs {x : Sy} {xs : List Sy} : Xa6 (x :: xs) (v :: l) fr = Xa6 xs l (fset fr x v) := rfl
theorem Uc {l : List MV} : Xa6 [] l fr = fr := by cases l <;> rfl
end
theorem Xpt {σ : Sg} {i k : Nat} {l : List MV} (h : σ[i]? = some (.list l)) : nxL i k σ = some (l[k]?) ∨ True := .inr trivial
end
section
set_option maxHeartbeats 8000000
structure FnF (ps : List Sy) (a : Nat) (st : Stmt) (K : Frag) : Prop where
  ok : Xfl K a (ps ++ []) = true
  sc : (Vd K a).scope = scD st
  bd : stOf (Vd K a) = bdD st
  pa : (Vd K a).params = paD st
  df : (Vd K a).defaults = .none
structure MtF (A : Nat) (n : Str) (a : Nat) (K : Frag) : Prop where
  f : findIn K (.ref A) n = some (some (.ref a))
  t : typeIn K (.ref a) = some (.type "function")
  k : keepIn K (.ref a) = true
noncomputable def nth : List Prop → Nat → Prop
  | [], _ => True
  | p :: _, 0 => p
  | _ :: l, n + 1 => nth l n
noncomputable def Xm1 : List Prop → Prop
  | [] => True
  | p :: l => p ∧ Xm1 l
theorem Xjs {l : List Prop} : ∀ n, Xm1 l → nth l n := by
  induction l with
  | nil => exact fun _ _ => trivial
  | cons p l ih =>
    intro n h
    cases n with
    | zero => exact h.1
    | succ n => exact ih n h.2
noncomputable def KFl (K : Frag) : List Prop := [FnF [77, 79] 202 (Xr 16) K,
  FnF [66] 209 (Xr 17) K,
  findIn K (.ref 105) "__setattr__" = some (some (.builtin "object.__setattr__")),
  plainOver K 105 = true,
  hasDictIn K 105 = true,
  takerIn K 105 "answer" = some none,
  takerIn K 105 "frames" = some none,
  takerIn K 105 "waits_for" = some none,
  nsIn K mainGlobals "READY" = some (some (.str "ready" 291)),
  takerIn K 105 "state" = some none,
  takerIn K 105 "number" = some none,
  FnF [43, 34] 102 (Ye (Xr 11) 0) K,
  findIn K (.ref 191) "__setattr__" = some (some (.builtin "object.__setattr__")),
  plainOver K 191 = true,
  hasDictIn K 191 = true,
  takerIn K 191 "here" = some none,
  takerIn K 191 "all" = some none,
  takerIn K 191 "choices" = some none,
  FnF [43, 31] 123 (Ye (Xr 12) 0) K,
  findIn K (.ref 280) "__setattr__" = some (some (.builtin "object.__setattr__")),
  plainOver K 280 = true,
  hasDictIn K 280 = true,
  takerIn K 280 "closed" = some none,
  takerIn K 280 "receivers" = some none,
  takerIn K 280 "senders" = some none,
  takerIn K 280 "buffer" = some none,
  takerIn K 280 "room" = some none,
  FnF [43, 36] 223 (Ye (Xr 18) 0) K,
  findIn K (.ref 308) "__setattr__" = some (some (.builtin "object.__setattr__")),
  plainOver K 308 = true,
  hasDictIn K 308 = true,
  takerIn K 308 "taken" = some none,
  takerIn K 308 "row" = some none,
  FnF [43, 37] 298 (Ye (Xr 20) 0) K,
  findIn K (.ref 352) "__setattr__" = some (some (.builtin "object.__setattr__")),
  plainOver K 352 = true,
  hasDictIn K 352 = true,
  takerIn K 352 "waiting" = some none,
  takerIn K 352 "owner" = some none,
  FnF [43] 328 (Ye (Xr 24) 0) K,
  findIn K (.ref 394) "__setattr__" = some (some (.builtin "object.__setattr__")),
  plainOver K 394 = true,
  hasDictIn K 394 = true,
  takerIn K 394 "waiting" = some none,
  takerIn K 394 "count" = some none,
  FnF [43] 370 (Ye (Xr 25) 0) K,
  findIn K (.ref 191) "__getattribute__" = some (some (.builtin "object.__getattribute__")),
  findIn K (.ref 191) "here" = some none,
  findIn K (.ref 191) "all" = some none,
  nsIn K mainGlobals "len" = some none,
  nsIn K mainGlobals "Goroutine" = some (some (.ref 105)),
  keepIn K (.ref 105) = true,
  makesIn K 105 = true,
  findIn K (.ref 105) "__init__" = some (some (.ref 102)),
  typeIn K (.ref 102) = some (.type "function"),
  FnF [43] 130 (Ye (Xr 12) 1) K,
  FnF [43, 34] 137 (Ye (Xr 12) 2) K,
  findIn K (.ref 105) "__getattribute__" = some (some (.builtin "object.__getattribute__")),
  findIn K (.ref 105) "state" = some none,
  FnF [43] 142 (Ye (Xr 12) 3) K,
  nsIn K mainGlobals "BLOCKED" = some (some (.str "blocked" 293)),
  FnF [43, 42] 149 (Ye (Xr 12) 4) K,
  nsIn K mainGlobals "ENDED" = some (some (.str "ended" 295)),
  FnF [43] 171 (Ye (Xr 12) 7) K,
  findIn K (.ref 308) "__getattribute__" = some (some (.builtin "object.__getattribute__")),
  findIn K (.ref 308) "row" = some none,
  findIn K (.ref 308) "taken" = some none,
  FnF [43, 57] 305 (Ye (Xr 20) 1) K,
  findIn K (.ref 191) "choices" = some none,
  findIn K (.ref 308) "__getattr__" = some none,
  MtF 308 "pick" 305 K,
  findIn K (.ref 191) "__getattr__" = some none,
  MtF 191 "ready_ones" 142 K,
  FnF [43] 178 (Ye (Xr 12) 8) K,
  FnF [43] 183 (Ye (Xr 12) 9) K,
  findIn K (.ref 105) "waits_for" = some none,
  findIn K (.ref 105) "number" = some none,
  FnF [43] 188 (Ye (Xr 12) 10) K,
  findIn K (.ref 280) "__getattribute__" = some (some (.builtin "object.__getattribute__")),
  findIn K (.ref 280) "senders" = some none,
  findIn K (.ref 280) "buffer" = some none,
  findIn K (.ref 280) "room" = some none,
  findIn K (.ref 280) "receivers" = some none,
  nsIn K mainGlobals "woken_row" = some (some (.ref 202)),
  keepIn K (.ref 202) = true,
  findIn K (.ref 280) "closed" = some none,
  nsIn K mainGlobals "SEND_ON_CLOSED" = some (some (.str "send on closed channel" 437)),
  FnF [43, 77] 244 (Ye (Xr 18) 3) K,
  FnF [43] 258 (Ye (Xr 18) 5) K,
  findIn K (.ref 280) "__getattr__" = some none,
  MtF 280 "filled" 258 K,
  FnF [43, 77] 251 (Ye (Xr 18) 4) K,
  nsIn K mainGlobals "once_a_select" = some (some (.ref 209)),
  keepIn K (.ref 209) = true,
  nsIn K mainGlobals "CLOSE_OF_CLOSED" = some (some (.str "close of closed channel" 439)),
  FnF [43] 263 (Ye (Xr 18) 6) K,
  nsIn K mainGlobals "WAITS" = some (some (.ref 314)),
  XjM K 314 "blocked",
  findIn K (.ref 352) "__getattribute__" = some (some (.builtin "object.__getattribute__")),
  findIn K (.ref 352) "waiting" = some none,
  findIn K (.ref 352) "owner" = some none,
  nsIn K mainGlobals "DONE" = some (some (.ref 313)),
  XjM K 313 "done",
  FnF [43, 34] 342 (Ye (Xr 24) 2) K,
  FnF [43] 349 (Ye (Xr 24) 3) K,
  findIn K (.ref 394) "__getattribute__" = some (some (.builtin "object.__getattribute__")),
  findIn K (.ref 394) "waiting" = some none,
  findIn K (.ref 394) "count" = some none,
  FnF [43, 57] 377 (Ye (Xr 25) 1) K,
  findIn K (.ref 394) "__getattr__" = some none,
  MtF 394 "add" 377 K,
  FnF [43] 384 (Ye (Xr 25) 2) K,
  FnF [43, 34] 391 (Ye (Xr 25) 3) K,
  nsIn K mainGlobals "int" = some none,
  nsIn K mainGlobals "max" = some none,
  FnF [68, 55] 405 (Xr 27) K,
  FnF [71, 74] 412 (Xr 28) K,
  nsIn K mainGlobals "_law_take" = some (some (.ref 412)),
  keepIn K (.ref 412) = true,
  nsIn K mainGlobals "range" = some none,
  FnF [71, 34] 426 (Xr 30) K,
  nsIn K mainGlobals "Mutex" = some (some (.ref 352)),
  keepIn K (.ref 352) = true,
  makesIn K 352 = true,
  findIn K (.ref 352) "__init__" = some (some (.ref 328)),
  typeIn K (.ref 328) = some (.type "function"),
  nsIn K mainGlobals "Channel" = some (some (.ref 280)),
  keepIn K (.ref 280) = true,
  makesIn K 280 = true,
  findIn K (.ref 280) "__init__" = some (some (.ref 223)),
  typeIn K (.ref 223) = some (.type "function"),
  nsIn K mainGlobals "WaitGroup" = some (some (.ref 394)),
  keepIn K (.ref 394) = true,
  makesIn K 394 = true,
  findIn K (.ref 394) "__init__" = some (some (.ref 370)),
  typeIn K (.ref 370) = some (.type "function"),
  FnF [17, 57, 4] 431 (Xr 31) K,
  FnF [65, 17, 4] 446 (Xr 34) K,
  FnF [62, 80, 46] 453 (Xr 35) K,
  FnF [62, 37, 76] 460 (Xr 36) K,
  nsIn K mainGlobals "_law_go_on" = some (some (.ref 460)),
  keepIn K (.ref 460) = true,
  nsIn K mainGlobals "_law_first" = some (some (.ref 453)),
  keepIn K (.ref 453) = true,
  FnF [62, 46] 467 (Xr 37) K,
  FnF [62] 474 (Xr 38) K,
  nsIn K mainGlobals "_law_gates" = some (some (.ref 474)),
  keepIn K (.ref 474) = true,
  nsIn K mainGlobals "_law_moves" = some (some (.ref 467)),
  keepIn K (.ref 467) = true,
  FnF [62, 34, 6] 481 (Xr 39) K,
  MtF 191 "of" 137 K,
  Xfl K 157 ([43, 34] ++ [29]) = true,
  (Vd K 157).scope = scD (Ye (Xr 12) 5),
  stOf (Vd K 157) = bdD (Ye (Xr 12) 5),
  (Vd K 157).params = paD (Ye (Xr 12) 5),
  ∃ T cl od ep sl, (Vd K 157).defaults = .ref T ∧ K.lookup T = some ⟨cl, od, .seq #[.none] ep, sl⟩,
  nsIn K mainGlobals "_law_put" = some (some (.ref 481)),
  keepIn K (.ref 481) = true,
  nsIn K mainGlobals "sorted" = some none,
  nsIn K mainGlobals "_law_begun" = some (some (.ref 446)),
  keepIn K (.ref 446) = true,
  FnF [65, 17, 4, 48] 486 (Xr 40) K,
  findIn K (.ref 352) "__getattr__" = some none,
  MtF 352 "lock" 342 K,
  MtF 394 "wait" 391 K,
  MtF 394 "done" 384 K,
  MtF 352 "unlock" 349 K,
  MtF 280 "close" 263 K,
  MtF 280 "take" 251 K,
  MtF 280 "offer" 244 K,
  FnF [81, 34, 6] 436 (Xr 32) K,
  MtF 191 "is_deadlocked" 183 K,
  MtF 191 "waiting_rows" 188 K,
  nsIn K mainGlobals "_law_rows" = some (some (.ref 436)),
  keepIn K (.ref 436) = true,
  MtF 191 "wake" 157 K,
  MtF 191 "block" 149 K,
  MtF 191 "end" 171 K,
  MtF 191 "choose" 178 K,
  MtF 191 "spawn" 130 K,
  nsIn K mainGlobals "Choices" = some (some (.ref 308)),
  keepIn K (.ref 308) = true,
  makesIn K 308 = true,
  findIn K (.ref 308) "__init__" = some (some (.ref 298)),
  typeIn K (.ref 298) = some (.type "function"),
  nsIn K mainGlobals "Scheduler" = some (some (.ref 191)),
  keepIn K (.ref 191) = true,
  makesIn K 191 = true,
  findIn K (.ref 191) "__init__" = some (some (.ref 123)),
  typeIn K (.ref 123) = some (.type "function"),
  nsIn K mainGlobals "_law_world" = some (some (.ref 431)),
  keepIn K (.ref 431) = true,
  FnF [65, 17, 4, 48] 441 (Xr 33) K,
  nsIn K mainGlobals "_law_led" = some (some (.ref 441)),
  keepIn K (.ref 441) = true,
  nsIn K mainGlobals "_law_plain" = some (some (.ref 486)),
  keepIn K (.ref 486) = true,
  nsIn K mainGlobals "_law_deeds" = some (some (.ref 426)),
  keepIn K (.ref 426) = true,
  nsIn K mainGlobals "_law_pool" = some (some (.ref 405)),
  keepIn K (.ref 405) = true,
  FnF [68] 491 (Xr 41) K]
noncomputable def KF (K : Frag) : Prop := KR K ∧ Xm1 (KFl K)
theorem KF.kr {K : Frag} (F : KF K) : KR K := F.1
theorem KF.at {K : Frag} (F : KF K) (n : Nat) : nth (KFl K) n := Xjs n F.2
end
section
set_option maxHeartbeats 8000000
noncomputable def XaC : XM := (Xo (Zg (Yw (Xe (Xd (.str 27)) (Xe (XI (Xc 77) (Xd (.int 0))) (Xe (XI (Xc 77) (Xd (.int 2))) (Xe (XI (Xc 77) (Xd (.int 3))) (Xe (Xc 79) Xi))))))) Xp)
noncomputable def UK : List MV → Sg → R MV := ZU [77, 79] [] XaC
noncomputable def Xfp : Scope := scD (Xr 16)
noncomputable def Xfc : List Stmt := bdD (Xr 16)
theorem Xfx {C : Wd} (F : KF C.K) : XSs C 0 Xfp Xfc XaC :=
  (Xf (Yp (Yo (Xb (XH (x := 27)) (Xb (Xy (Xa (x := 77)) Xs) (Xb (Xy (Xa (x := 77)) Xs) (Xb (Xy (Xa (x := 77)) Xs) (Xb (Xa (x := 79)) Xg)))))))
    Xl)
theorem Ww {C : Wd} (F : KF C.K) : FS C 1 202 UK := ZA [77, 79] [] (F.at 0).1 (F.at 0).2 (F.at 0).3 (Xfx F) (fun s vs hl X => by
    obtain ⟨a, b, rfl⟩ := Xay hl
    exact XK (F.at 0).4 (F.at 0).5 (fun fd => by with_unfolding_all rfl))
noncomputable def VW : XM := (Xo (VB (Yw (Xe (XO Xi) (Xe (XO Xi) Xi))) [52, 58]) (Xo (Xaj (Xc 66) (ZC 2 (ZQ (XC 77) (ZQ (XC 79) XbA))) (Xo (YZ (mOr (XN oIs (XI (Xc 77) (Xd (.int 3))) (Xd .none)) (mOr Wa WQ)) (Xo (Zd (mLm Yt (Xc 52) (Xe (Yw (Xe (Xc 77) (Xe (Xc 79) Xi))) Xi))) (Xo (Zd (mLm Yt (Xc 58) (Xe (XI (Xc 77) (Xd (.int 3))) Xi))) Xp)) Xp) Xp)) (Xo (Zg (Xc 52)) Xp)))
noncomputable def US : List MV → Sg → R MV := ZU [66] [] VW
noncomputable def XcQ : Scope := scD (Xr 17)
noncomputable def XcB : List Stmt := bdD (Xr 17)
theorem XcL {C : Wd} (F : KF C.K) : XSs C 0 XcQ XcB VW :=
  (Xf (Wx (xs := [52, 58]) (Yo (Xb (XL Xg) (Xb (XL Xg) Xg))) (by decide +kernel) (by intro env h; cases env; subst h; kernel_rfl))
    (Xf (Xdo (Xa (x := 66)) (VU (n := 2) (ZM (XX (x := 77)) (ZM (XX (x := 79)) Xaw))) (Xf (YX (UN (XaD (Yb XaB (Xy (Xa (x := 77)) Xs) Yc) (XaD Xjh XaA))) (Xf (Zi (UR Zy PySem.F.slot_list_append PySem.F.type_list_append (Xa (x := 52)) (Xb (Yo (Xb (Xa (x := 77)) (Xb (Xa (x := 79)) Xg))) Xg)))
    (Xf (Zi (UR Zy PySem.F.slot_list_append PySem.F.type_list_append (Xa (x := 58)) (Xb (Xy (Xa (x := 77)) Xs) Xg)))
    Xl)) Xl)
    Xl))
    (Xf (Yp (Xa (x := 52)))
    Xl)))
theorem XcR {C : Wd} (F : KF C.K) : FS C 1 209 US := ZA [66] [] (F.at 1).1 (F.at 1).2 (F.at 1).3 (XcL F) (fun s vs hl X => by
    obtain ⟨a, rfl⟩ := Xbq hl
    exact XK (F.at 1).4 (F.at 1).5 (fun fd => by with_unfolding_all rfl))
noncomputable def Vp : XM := (Xo (YE (Xc 34) (Zw .goroutine 34 (Xc 43))) (Xo (YE (Xd (.str 15)) (Zw .goroutine 39 (Xc 43))) (Xo (YE (Xd .none) (Zw .goroutine 42 (Xc 43))) (Xo (YE (XO Xi) (Zw .goroutine 32 (Xc 43))) (Xo (YE (Xd .none) (Zw .goroutine 29 (Xc 43))) Xp)))))
noncomputable def Ul : List MV → Sg → R MV := ZU [43, 34] [] Vp
noncomputable def Xby : Scope := scD (Ye (Xr 11) 0)
noncomputable def Xbw : List Stmt := bdD (Ye (Xr 11) 0)
theorem XbD {C : Wd} (F : KF C.K) : XSs C 0 Xby Xbw Vp :=
  (Xf (XV (Xa (x := 34)) (YH (ZR (c := .goroutine) (f := 34) (F.at 2) (F.at 3) (F.at 10) (F.at 4)) (Xa (x := 43))))
    (Xf (XV (ZG (F.at 8) (TopIs.str (x := 15))) (YH (ZR (c := .goroutine) (f := 39) (F.at 2) (F.at 3) (F.at 9) (F.at 4)) (Xa (x := 43))))
    (Xf (XV Yc (YH (ZR (c := .goroutine) (f := 42) (F.at 2) (F.at 3) (F.at 7) (F.at 4)) (Xa (x := 43))))
    (Xf (XV (XL Xg) (YH (ZR (c := .goroutine) (f := 32) (F.at 2) (F.at 3) (F.at 6) (F.at 4)) (Xa (x := 43))))
    (Xf (XV Yc (YH (ZR (c := .goroutine) (f := 29) (F.at 2) (F.at 3) (F.at 5) (F.at 4)) (Xa (x := 43))))
    Xl)))))
theorem Xbz {C : Wd} (F : KF C.K) : FS C 1 102 Ul := ZA [43, 34] [] (F.at 11).1 (F.at 11).2 (F.at 11).3 (XbD F) (fun s vs hl X => by
    obtain ⟨a, b, rfl⟩ := Xay hl
    exact XK (F.at 11).4 (F.at 11).5 (fun fd => by with_unfolding_all rfl))
noncomputable def Vu : XM := (Xo (YE (Xc 31) (Zw .scheduler 31 (Xc 43))) (Xo (YE (XO Xi) (Zw .scheduler 28 (Xc 43))) (Xo (YE (Xd .none) (Zw .scheduler 33 (Xc 43))) Xp)))
noncomputable def ZP : List MV → Sg → R MV := ZU [43, 31] [] Vu
noncomputable def XbB : Scope := scD (Ye (Xr 12) 0)
noncomputable def Xbt : List Stmt := bdD (Ye (Xr 12) 0)
theorem Xbs {C : Wd} (F : KF C.K) : XSs C 0 XbB Xbt Vu :=
  (Xf (XV (Xa (x := 31)) (YH (ZR (c := .scheduler) (f := 31) (F.at 12) (F.at 13) (F.at 17) (F.at 14)) (Xa (x := 43))))
    (Xf (XV (XL Xg) (YH (ZR (c := .scheduler) (f := 28) (F.at 12) (F.at 13) (F.at 16) (F.at 14)) (Xa (x := 43))))
    (Xf (XV Yc (YH (ZR (c := .scheduler) (f := 33) (F.at 12) (F.at 13) (F.at 15) (F.at 14)) (Xa (x := 43))))
    Xl)))
theorem Xbx {C : Wd} (F : KF C.K) : FS C 1 123 ZP := ZA [43, 31] [] (F.at 18).1 (F.at 18).2 (F.at 18).3 (Xbs F) (fun s vs hl X => by
    obtain ⟨a, b, rfl⟩ := Xay hl
    exact XK (F.at 18).4 (F.at 18).5 (fun fd => by with_unfolding_all rfl))
noncomputable def VO : XM := (Xo (YE (Xc 36) (Zw .channel 36 (Xc 43))) (Xo (YE (XO Xi) (Zw .channel 30 (Xc 43))) (Xo (YE (XO Xi) (Zw .channel 38 (Xc 43))) (Xo (YE (XO Xi) (Zw .channel 35 (Xc 43))) (Xo (YE (Xd (.bool false)) (Zw .channel 3 (Xc 43))) Xp)))))
noncomputable def ZO : List MV → Sg → R MV := ZU [43, 36] [] VO
noncomputable def XbU : Scope := scD (Ye (Xr 18) 0)
noncomputable def Xcj : List Stmt := bdD (Ye (Xr 18) 0)
theorem Xcb {C : Wd} (F : KF C.K) : XSs C 0 XbU Xcj VO :=
  (Xf (XV (Xa (x := 36)) (YH (ZR (c := .channel) (f := 36) (F.at 19) (F.at 20) (F.at 26) (F.at 21)) (Xa (x := 43))))
    (Xf (XV (XL Xg) (YH (ZR (c := .channel) (f := 30) (F.at 19) (F.at 20) (F.at 25) (F.at 21)) (Xa (x := 43))))
    (Xf (XV (XL Xg) (YH (ZR (c := .channel) (f := 38) (F.at 19) (F.at 20) (F.at 24) (F.at 21)) (Xa (x := 43))))
    (Xf (XV (XL Xg) (YH (ZR (c := .channel) (f := 35) (F.at 19) (F.at 20) (F.at 23) (F.at 21)) (Xa (x := 43))))
    (Xf (XV Ue (YH (ZR (c := .channel) (f := 3) (F.at 19) (F.at 20) (F.at 22) (F.at 21)) (Xa (x := 43))))
    Xl)))))
theorem Xb3 {C : Wd} (F : KF C.K) : FS C 1 223 ZO := ZA [43, 36] [] (F.at 27).1 (F.at 27).2 (F.at 27).3 (Xcb F) (fun s vs hl X => by
    obtain ⟨a, b, rfl⟩ := Xay hl
    exact XK (F.at 27).4 (F.at 27).5 (fun fd => by with_unfolding_all rfl))
noncomputable def VQ : XM := (Xo (YE (Xc 37) (Zw .choices 37 (Xc 43))) (Xo (YE (Xd (.int 0)) (Zw .choices 40 (Xc 43))) Xp))
noncomputable def Uj : List MV → Sg → R MV := ZU [43, 37] [] VQ
noncomputable def Xb0 : Scope := scD (Ye (Xr 20) 0)
noncomputable def Xb6 : List Stmt := bdD (Ye (Xr 20) 0)
theorem Xcu {C : Wd} (F : KF C.K) : XSs C 0 Xb0 Xb6 VQ :=
  (Xf (XV (Xa (x := 37)) (YH (ZR (c := .choices) (f := 37) (F.at 28) (F.at 29) (F.at 32) (F.at 30)) (Xa (x := 43))))
    (Xf (XV Xs (YH (ZR (c := .choices) (f := 40) (F.at 28) (F.at 29) (F.at 31) (F.at 30)) (Xa (x := 43))))
    Xl))
theorem Xcp {C : Wd} (F : KF C.K) : FS C 1 298 Uj := ZA [43, 37] [] (F.at 33).1 (F.at 33).2 (F.at 33).3 (Xcu F) (fun s vs hl X => by
    obtain ⟨a, b, rfl⟩ := Xay hl
    exact XK (F.at 33).4 (F.at 33).5 (fun fd => by with_unfolding_all rfl))
noncomputable def Wp : XM := (Xo (YE (Xd .none) (Zw .mutex 13 (Xc 43))) (Xo (YE (XO Xi) (Zw .mutex 41 (Xc 43))) Xp))
noncomputable def Vc : List MV → Sg → R MV := ZU [43] [] Wp
noncomputable def Xc7 : Scope := scD (Ye (Xr 24) 0)
noncomputable def Xc3 : List Stmt := bdD (Ye (Xr 24) 0)
theorem Xdb {C : Wd} (F : KF C.K) : XSs C 0 Xc7 Xc3 Wp :=
  (Xf (XV Yc (YH (ZR (c := .mutex) (f := 13) (F.at 34) (F.at 35) (F.at 38) (F.at 36)) (Xa (x := 43))))
    (Xf (XV (XL Xg) (YH (ZR (c := .mutex) (f := 41) (F.at 34) (F.at 35) (F.at 37) (F.at 36)) (Xa (x := 43))))
    Xl))
theorem Xdc {C : Wd} (F : KF C.K) : FS C 1 328 Vc := ZA [43] [] (F.at 39).1 (F.at 39).2 (F.at 39).3 (Xdb F) (fun s vs hl X => by
    obtain ⟨a, rfl⟩ := Xbq hl
    exact XK (F.at 39).4 (F.at 39).5 (fun fd => by with_unfolding_all rfl))
noncomputable def Vs : XM := (Xo (YE (Xd (.int 0)) (Zw .waitgroup 4 (Xc 43))) (Xo (YE (XO Xi) (Zw .waitgroup 41 (Xc 43))) Xp))
noncomputable def Un : List MV → Sg → R MV := ZU [43] [] Vs
noncomputable def Xbu : Scope := scD (Ye (Xr 25) 0)
noncomputable def Xbp : List Stmt := bdD (Ye (Xr 25) 0)
theorem XbC {C : Wd} (F : KF C.K) : XSs C 0 Xbu Xbp Vs :=
  (Xf (XV Xs (YH (ZR (c := .waitgroup) (f := 4) (F.at 40) (F.at 41) (F.at 44) (F.at 42)) (Xa (x := 43))))
    (Xf (XV (XL Xg) (YH (ZR (c := .waitgroup) (f := 41) (F.at 40) (F.at 41) (F.at 43) (F.at 42)) (Xa (x := 43))))
    Xl))
theorem Xbv {C : Wd} (F : KF C.K) : FS C 1 370 Un := ZA [43] [] (F.at 45).1 (F.at 45).2 (F.at 45).3 (XbC F) (fun s vs hl X => by
    obtain ⟨a, rfl⟩ := Xbq hl
    exact XK (F.at 45).4 (F.at 45).5 (fun fd => by with_unfolding_all rfl))
noncomputable def Xdz : XM := (Xo (YE (XB (Wo .goroutine Ul) (Xe (XB ZN (Xe (Yl .scheduler 28 (Xc 43)) Xi)) Xi)) (XC 52)) (Xo (Zd (mLm Yt (Yl .scheduler 28 (Xc 43)) (Xe (Xc 52) Xi))) (Xo (YZ (XN oIs (Yl .scheduler 33 (Xc 43)) (Xd .none)) (Xo (YE (Xc 52) (Zw .scheduler 33 (Xc 43))) Xp) Xp) (Xo (Zg (Xc 52)) Xp))))
noncomputable def Xbd : List MV → Sg → R MV := ZU [43] [] Xdz
noncomputable def XjE : Scope := scD (Ye (Xr 12) 1)
noncomputable def XjJ : List Stmt := bdD (Ye (Xr 12) 1)
theorem Xke {C : Wd} (F : KF C.K) : XSs C 2 XjE XjJ Xdz :=
  (Xf (XV (Yq (F.at 50) (KeepS.ref (F.at 51)) (CS.le (XcS (c := .goroutine) (F.at 52) (F.at 53) (F.at 54) (Xbz F))) (Xb (YP (f := .builtin "len") (F.at 49) rfl KeepS.blt Vt (Xb (XP (Yi (c := .scheduler) (f := 28) (F.at 46) (F.at 14) (F.at 48)) (Xa (x := 43))) Xg)) Xg)) (XX (x := 52)))
    (Xf (Zi (UR Zy PySem.F.slot_list_append PySem.F.type_list_append (XP (Yi (c := .scheduler) (f := 28) (F.at 46) (F.at 14) (F.at 48)) (Xa (x := 43))) (Xb (Xa (x := 52)) Xg)))
    (Xf (YX (Yb XaB (XP (Yi (c := .scheduler) (f := 33) (F.at 46) (F.at 14) (F.at 47)) (Xa (x := 43))) Yc) (Xf (XV (Xa (x := 52)) (YH (ZR (c := .scheduler) (f := 33) (F.at 12) (F.at 13) (F.at 15) (F.at 14)) (Xa (x := 43))))
    Xl) Xl)
    (Xf (Yp (Xa (x := 52)))
    Xl))))
theorem Xkp {C : Wd} (F : KF C.K) : FS C 3 130 Xbd := ZA [43] [] (F.at 55).1 (F.at 55).2 (F.at 55).3 (Xke F) (fun s vs hl X => by
    obtain ⟨a, rfl⟩ := Xbq hl
    exact XK (F.at 55).4 (F.at 55).5 (fun fd => by with_unfolding_all rfl))
noncomputable def Xkd : XM := (Xo (YZ (Xi8 (Xbg oLe oLt (Xd (.int 0)) (Xc 34) (XB ZN (Xe (Yl .scheduler 28 (Xc 43)) Xi)))) (Xo Wa Xp) Xp) (Xo (Zg (XI (Yl .scheduler 28 (Xc 43)) (Xc 34))) Xp))
noncomputable def Xl6 : List MV → Sg → R MV := ZU [43, 34] [] Xkd
noncomputable def Xo6 : Scope := scD (Ye (Xr 12) 2)
noncomputable def XoX : List Stmt := bdD (Ye (Xr 12) 2)
theorem XoM {C : Wd} (F : KF C.K) : XSs C 0 Xo6 XoX Xkd :=
  (Xf (YX (Xj8 (XiZ Xh4 We Xs (Xa (x := 34)) (YP (f := .builtin "len") (F.at 49) rfl KeepS.blt Vt (Xb (XP (Yi (c := .scheduler) (f := 28) (F.at 46) (F.at 14) (F.at 48)) (Xa (x := 43))) Xg)))) (Xf Xci
    Xl) Xl)
    (Xf (Yp (Xy (XP (Yi (c := .scheduler) (f := 28) (F.at 46) (F.at 14) (F.at 48)) (Xa (x := 43))) (Xa (x := 34))))
    Xl))
theorem XoR {C : Wd} (F : KF C.K) : FS C 1 137 Xl6 := ZA [43, 34] [] (F.at 56).1 (F.at 56).2 (F.at 56).3 (XoM F) (fun s vs hl X => by
    obtain ⟨a, b, rfl⟩ := Xay hl
    exact XK (F.at 56).4 (F.at 56).5 (fun fd => by with_unfolding_all rfl))
noncomputable def WX : XM := (Xo (Zg (Zz (Yl .scheduler 28 (Xc 43)) [] (XC 60) (XN oEq (Yl .goroutine 39 (Xc 60)) (Xd (.str 15))) (Xc 60))) Xp)
noncomputable def VN : List MV → Sg → R MV := ZU [43] [] WX
noncomputable def Xek : Scope := scD (Ye (Xr 12) 3)
noncomputable def Xea : List Stmt := bdD (Ye (Xr 12) 3)
theorem Xd5 {C : Wd} (F : KF C.K) : XSs C 0 Xek Xea WX :=
  (Xf (Yp (Wi (fs := []) (cok (by decide +kernel)) (XP (Yi (c := .scheduler) (f := 28) (F.at 46) (F.at 14) (F.at 48)) (Xa (x := 43))) (XX (x := 60)) (Xd2 (Yb YW (XP (Yi (c := .goroutine) (f := 39) (F.at 57) (F.at 4) (F.at 58)) (Xa (x := 60))) (ZG (F.at 8) (TopIs.str (x := 15))))) (Xa (x := 60))))
    Xl)
theorem XbF {C : Wd} (F : KF C.K) : FS C 1 142 VN := ZA [43] [] (F.at 59).1 (F.at 59).2 (F.at 59).3 (Xd5 F) (fun s vs hl X => by
    obtain ⟨a, rfl⟩ := Xbq hl
    exact XK (F.at 59).4 (F.at 59).5 (fun fd => by with_unfolding_all rfl))
noncomputable def XdB : XM := (Xo (YZ (XN oNe (Yl .goroutine 39 (Yl .scheduler 33 (Xc 43))) (Xd (.str 15))) (Xo Wa Xp) Xp) (Xo (YE (Xd (.str 1)) (Zw .goroutine 39 (Yl .scheduler 33 (Xc 43)))) (Xo (YE (Xc 42) (Zw .goroutine 42 (Yl .scheduler 33 (Xc 43)))) Xp)))
noncomputable def XbY : List MV → Sg → R MV := ZU [43, 42] [] XdB
noncomputable def Xkt : Scope := scD (Ye (Xr 12) 4)
noncomputable def XjX : List Stmt := bdD (Ye (Xr 12) 4)
theorem Xkn {C : Wd} (F : KF C.K) : XSs C 0 Xkt XjX XdB :=
  (Xf (YX (Yb VE (XP (Yi (c := .goroutine) (f := 39) (F.at 57) (F.at 4) (F.at 58)) (XP (Yi (c := .scheduler) (f := 33) (F.at 46) (F.at 14) (F.at 47)) (Xa (x := 43)))) (ZG (F.at 8) (TopIs.str (x := 15)))) (Xf Xci
    Xl) Xl)
    (Xf (XV (ZG (F.at 60) (TopIs.str (x := 1))) (YH (ZR (c := .goroutine) (f := 39) (F.at 2) (F.at 3) (F.at 9) (F.at 4)) (XP (Yi (c := .scheduler) (f := 33) (F.at 46) (F.at 14) (F.at 47)) (Xa (x := 43)))))
    (Xf (XV (Xa (x := 42)) (YH (ZR (c := .goroutine) (f := 42) (F.at 2) (F.at 3) (F.at 7) (F.at 4)) (XP (Yi (c := .scheduler) (f := 33) (F.at 46) (F.at 14) (F.at 47)) (Xa (x := 43)))))
    Xl)))
theorem Xkg {C : Wd} (F : KF C.K) : FS C 1 149 XbY := ZA [43, 42] [] (F.at 61).1 (F.at 61).2 (F.at 61).3 (Xkn F) (fun s vs hl X => by
    obtain ⟨a, b, rfl⟩ := Xay hl
    exact XK (F.at 61).4 (F.at 61).5 (fun fd => by with_unfolding_all rfl))
end
section
set_option maxHeartbeats 8000000
noncomputable def Xg6 : XM := (Xo (YE (Xd (.str 8)) (Zw .goroutine 39 (Yl .scheduler 33 (Xc 43)))) (Xo (YE (XO Xi) (Zw .goroutine 32 (Yl .scheduler 33 (Xc 43)))) Xp))
noncomputable def Xgm : List MV → Sg → R MV := ZU [43] [] Xg6
noncomputable def Xn0 : Scope := scD (Ye (Xr 12) 7)
noncomputable def XnW : List Stmt := bdD (Ye (Xr 12) 7)
theorem Xog {C : Wd} (F : KF C.K) : XSs C 0 Xn0 XnW Xg6 :=
  (Xf (XV (ZG (F.at 62) (TopIs.str (x := 8))) (YH (ZR (c := .goroutine) (f := 39) (F.at 2) (F.at 3) (F.at 9) (F.at 4)) (XP (Yi (c := .scheduler) (f := 33) (F.at 46) (F.at 14) (F.at 47)) (Xa (x := 43)))))
    (Xf (XV (XL Xg) (YH (ZR (c := .goroutine) (f := 32) (F.at 2) (F.at 3) (F.at 6) (F.at 4)) (XP (Yi (c := .scheduler) (f := 33) (F.at 46) (F.at 14) (F.at 47)) (Xa (x := 43)))))
    Xl))
theorem Xn7 {C : Wd} (F : KF C.K) : FS C 1 171 Xgm := ZA [43] [] (F.at 63).1 (F.at 63).2 (F.at 63).3 (Xog F) (fun s vs hl X => by
    obtain ⟨a, rfl⟩ := Xbq hl
    exact XK (F.at 63).4 (F.at 63).5 (fun fd => by with_unfolding_all rfl))
noncomputable def Xfb : XM := (Xo (YZ (XN oLe (Xc 57) (Xd (.int 1))) (Xo (Zg (Xd (.int 0))) Xp) Xp) (Xo (YE (Yl .choices 40 (Xc 43)) (XC 63)) (Xo (YE (YI UJ (Xc 63) (Xd (.int 1))) (Zw .choices 40 (Xc 43))) (Xo (Zg (mIf (XN oLt (Xc 63) (XB ZN (Xe (Yl .choices 37 (Xc 43)) Xi))) (YI XaT (XI (Yl .choices 37 (Xc 43)) (Xc 63)) (Xc 57)) (Xd (.int 0)))) Xp))))
noncomputable def XfJ : List MV → Sg → R MV := ZU [43, 57] [] Xfb
noncomputable def Xlh : Scope := scD (Ye (Xr 20) 1)
noncomputable def Xld : List Stmt := bdD (Ye (Xr 20) 1)
theorem Xlp {C : Wd} (F : KF C.K) : XSs C 0 Xlh Xld Xfb :=
  (Xf (YX (Yb Xh4 (Xa (x := 57)) Xs) (Xf (Yp Xs)
    Xl) Xl)
    (Xf (XV (XP (Yi (c := .choices) (f := 40) (F.at 64) (F.at 30) (F.at 66)) (Xa (x := 43))) (XX (x := 63)))
    (Xf (XV (YL Up (Xa (x := 63)) Xs) (YH (ZR (c := .choices) (f := 40) (F.at 28) (F.at 29) (F.at 31) (F.at 30)) (Xa (x := 43))))
    (Xf (Yp (XcY (Yb We (Xa (x := 63)) (YP (f := .builtin "len") (F.at 49) rfl KeepS.blt Vt (Xb (XP (Yi (c := .choices) (f := 37) (F.at 64) (F.at 30) (F.at 65)) (Xa (x := 43))) Xg))) (YL WU (Xy (XP (Yi (c := .choices) (f := 37) (F.at 64) (F.at 30) (F.at 65)) (Xa (x := 43))) (Xa (x := 63))) (Xa (x := 57))) Xs))
    Xl))))
theorem Xk0 {C : Wd} (F : KF C.K) : FS C 1 305 XfJ := ZA [43, 57] [] (F.at 67).1 (F.at 67).2 (F.at 67).3 (Xlp F) (fun s vs hl X => by
    obtain ⟨a, b, rfl⟩ := Xay hl
    exact XK (F.at 67).4 (F.at 67).5 (fun fd => by with_unfolding_all rfl))
noncomputable def Xbe : XM := (Xo (YE (Ua .scheduler none VN (Xc 43) Xi) (XC 70)) (Xo (YZ (XN oEq (Xc 70) (XO Xi)) (Xo (Zg (Xd .none)) Xp) Xp) (Xo (YE (XI (Xc 70) (Ua .choices none XfJ (Yl .scheduler 31 (Xc 43)) (Xe (XB ZN (Xe (Xc 70) Xi)) Xi))) (Zw .scheduler 33 (Xc 43))) (Xo (Zg (Yl .scheduler 33 (Xc 43))) Xp))))
noncomputable def Wj : List MV → Sg → R MV := ZU [43] [] Xbe
noncomputable def XiN : Scope := scD (Ye (Xr 12) 8)
noncomputable def Xiu : List Stmt := bdD (Ye (Xr 12) 8)
theorem XiF {C : Wd} (F : KF C.K) : XSs C 1 XiN Xiu Xbe :=
  (Xf (XV (ZS (nm := none) (c := .scheduler) ⟨(F.at 46), (F.at 71), (F.at 72).1, (F.at 72).2, (F.at 72).3⟩ (FS.le (XbF F)) (Xa (x := 43)) Xg (UL (by decide +kernel))) (XX (x := 70)))
    (Xf (YX (Yb YW (Xa (x := 70)) (XL Xg)) (Xf (Yp Yc)
    Xl) Xl)
    (Xf (XV (Xy (Xa (x := 70)) (ZS (nm := none) (c := .choices) ⟨(F.at 64), (F.at 69), (F.at 70).1, (F.at 70).2, (F.at 70).3⟩ (FS.le (Xk0 F)) (XP (Yi (c := .scheduler) (f := 31) (F.at 46) (F.at 14) (F.at 68)) (Xa (x := 43))) (Xb (YP (f := .builtin "len") (F.at 49) rfl KeepS.blt Vt (Xb (Xa (x := 70)) Xg)) Xg) (UL (by decide +kernel)))) (YH (ZR (c := .scheduler) (f := 33) (F.at 12) (F.at 13) (F.at 15) (F.at 14)) (Xa (x := 43))))
    (Xf (Yp (XP (Yi (c := .scheduler) (f := 33) (F.at 46) (F.at 14) (F.at 47)) (Xa (x := 43))))
    Xl))))
theorem XiR {C : Wd} (F : KF C.K) : FS C 2 178 Wj := ZA [43] [] (F.at 73).1 (F.at 73).2 (F.at 73).3 (XiF F) (fun s vs hl X => by
    obtain ⟨a, rfl⟩ := Xbq hl
    exact XK (F.at 73).4 (F.at 73).5 (fun fd => by with_unfolding_all rfl))
noncomputable def VV : XM := (Xo (Zg (Xcq (YI oEq (Ua .scheduler none VN (Xc 43) Xi) (XO Xi)) (YI oNe (Zz (Yl .scheduler 28 (Xc 43)) [] (XC 60) (XN oEq (Yl .goroutine 39 (Xc 60)) (Xd (.str 1))) (Xc 60)) (XO Xi)))) Xp)
noncomputable def UU : List MV → Sg → R MV := ZU [43] [] VV
noncomputable def XcO : Scope := scD (Ye (Xr 12) 9)
noncomputable def XcF : List Stmt := bdD (Ye (Xr 12) 9)
theorem Xcz {C : Wd} (F : KF C.K) : XSs C 1 XcO XcF VV :=
  (Xf (Yp (WE (Xdl (XaS YW (ZS (nm := none) (c := .scheduler) ⟨(F.at 46), (F.at 71), (F.at 72).1, (F.at 72).2, (F.at 72).3⟩ (FS.le (XbF F)) (Xa (x := 43)) Xg (UL (by decide +kernel))) (XL Xg)) (Xbb (XaS VE (Wi (fs := []) (cok (by decide +kernel)) (XP (Yi (c := .scheduler) (f := 28) (F.at 46) (F.at 14) (F.at 48)) (Xa (x := 43))) (XX (x := 60)) (Xd2 (Yb YW (XP (Yi (c := .goroutine) (f := 39) (F.at 57) (F.at 4) (F.at 58)) (Xa (x := 60))) (ZG (F.at 60) (TopIs.str (x := 1))))) (Xa (x := 60))) (XL Xg))))))
    Xl)
theorem Xcy {C : Wd} (F : KF C.K) : FS C 2 183 UU := ZA [43] [] (F.at 74).1 (F.at 74).2 (F.at 74).3 (Xcz F) (fun s vs hl X => by
    obtain ⟨a, rfl⟩ := Xbq hl
    exact XK (F.at 74).4 (F.at 74).5 (fun fd => by with_unfolding_all rfl))
noncomputable def Wr : XM := (Xo (Zg (Zz (Yl .scheduler 28 (Xc 43)) [] (XC 60) (XN oEq (Yl .goroutine 39 (Xc 60)) (Xd (.str 1))) (Yw (Xe (Yl .goroutine 34 (Xc 60)) (Xe (Yl .goroutine 42 (Xc 60)) Xi))))) Xp)
noncomputable def UG : List MV → Sg → R MV := ZU [43] [] Wr
noncomputable def Xc8 : Scope := scD (Ye (Xr 12) 10)
noncomputable def Xc5 : List Stmt := bdD (Ye (Xr 12) 10)
theorem Xda {C : Wd} (F : KF C.K) : XSs C 0 Xc8 Xc5 Wr :=
  (Xf (Yp (Wi (fs := []) (cok (by decide +kernel)) (XP (Yi (c := .scheduler) (f := 28) (F.at 46) (F.at 14) (F.at 48)) (Xa (x := 43))) (XX (x := 60)) (Xd2 (Yb YW (XP (Yi (c := .goroutine) (f := 39) (F.at 57) (F.at 4) (F.at 58)) (Xa (x := 60))) (ZG (F.at 60) (TopIs.str (x := 1))))) (Yo (Xb (XP (Yi (c := .goroutine) (f := 34) (F.at 57) (F.at 4) (F.at 76)) (Xa (x := 60))) (Xb (XP (Yi (c := .goroutine) (f := 42) (F.at 57) (F.at 4) (F.at 75)) (Xa (x := 60))) Xg)))))
    Xl)
theorem Xde {C : Wd} (F : KF C.K) : FS C 1 188 UG := ZA [43] [] (F.at 77).1 (F.at 77).2 (F.at 77).3 (Xda F) (fun s vs hl X => by
    obtain ⟨a, rfl⟩ := Xbq hl
    exact XK (F.at 77).4 (F.at 77).5 (fun fd => by with_unfolding_all rfl))
noncomputable def Xd3 : XM := (Xo (YZ (UI (Yl .channel 3 (Xc 43))) (Xo (Zg (XO (Xe (Yw (Xe (Xd (.str 14)) (Xe (Xd (.str 19)) Xi))) Xi))) Xp) Xp) (Xo (YZ (XN oNe (Yl .channel 35 (Xc 43)) (XO Xi)) (Xo (YE (mLm XcU (Yl .channel 35 (Xc 43)) (Xe (Xd (.int 0)) Xi)) (XC 51)) (Xo (Zg (XO (Xe (Yw (Xe (Xd (.str 7)) Xi)) (Xe (XB UK (Xe (Xc 51) (Xe (Yw (Xe (Xd (.str 16)) (Xe (XI (Xc 77) (Xd (.int 1))) (Xe (Xd (.bool true)) Xi)))) Xi))) Xi)))) Xp)) Xp) (Xo (YZ (XN oLt (XB ZN (Xe (Yl .channel 30 (Xc 43)) Xi)) (Yl .channel 36 (Xc 43))) (Xo (Zd (mLm Yt (Yl .channel 30 (Xc 43)) (Xe (XI (Xc 77) (Xd (.int 1))) Xi))) (Xo (Zg (XO (Xe (Yw (Xe (Xd (.str 7)) Xi)) Xi))) Xp)) Xp) (Xo (Zd (mLm Yt (Yl .channel 38 (Xc 43)) (Xe (Xc 77) Xi))) (Xo (Zg (XO (Xe (Yw (Xe (Xd (.str 1)) Xi)) Xi))) Xp)))))
noncomputable def Xdh : List MV → Sg → R MV := ZU [43, 77] [] Xd3
noncomputable def XjO : Scope := scD (Ye (Xr 18) 3)
noncomputable def XkF : List Stmt := bdD (Ye (Xr 18) 3)
theorem XkB {C : Wd} (F : KF C.K) : XSs C 1 XjO XkF Xd3 :=
  (Xf (YX (XaZ (XP (Yi (c := .channel) (f := 3) (F.at 78) (F.at 21) (F.at 85)) (Xa (x := 43)))) (Xf (Yp (XL (Xb (Yo (Xb (XH (x := 14)) (Xb (ZG (F.at 86) (TopIs.str (x := 19))) Xg))) Xg)))
    Xl) Xl)
    (Xf (YX (Yb VE (XP (Yi (c := .channel) (f := 35) (F.at 78) (F.at 21) (F.at 82)) (Xa (x := 43))) (XL Xg)) (Xf (XV (UR Xbm PySem.F.slot_list_pop PySem.F.type_list_pop (XP (Yi (c := .channel) (f := 35) (F.at 78) (F.at 21) (F.at 82)) (Xa (x := 43))) (Xb Xs Xg)) (XX (x := 51)))
    (Xf (Yp (XL (Xb (Yo (Xb (XH (x := 7)) Xg)) (Xb (Yq (F.at 83) (KeepS.ref (F.at 84)) (YN (FS.le (Ww F))) (Xb (Xa (x := 51)) (Xb (Yo (Xb (XH (x := 16)) (Xb (Xy (Xa (x := 77)) Xs) (Xb Ue Xg)))) Xg))) Xg))))
    Xl)) Xl)
    (Xf (YX (Yb We (YP (f := .builtin "len") (F.at 49) rfl KeepS.blt Vt (Xb (XP (Yi (c := .channel) (f := 30) (F.at 78) (F.at 21) (F.at 80)) (Xa (x := 43))) Xg)) (XP (Yi (c := .channel) (f := 36) (F.at 78) (F.at 21) (F.at 81)) (Xa (x := 43)))) (Xf (Zi (UR Zy PySem.F.slot_list_append PySem.F.type_list_append (XP (Yi (c := .channel) (f := 30) (F.at 78) (F.at 21) (F.at 80)) (Xa (x := 43))) (Xb (Xy (Xa (x := 77)) Xs) Xg)))
    (Xf (Yp (XL (Xb (Yo (Xb (XH (x := 7)) Xg)) Xg)))
    Xl)) Xl)
    (Xf (Zi (UR Zy PySem.F.slot_list_append PySem.F.type_list_append (XP (Yi (c := .channel) (f := 38) (F.at 78) (F.at 21) (F.at 79)) (Xa (x := 43))) (Xb (Xa (x := 77)) Xg)))
    (Xf (Yp (XL (Xb (Yo (Xb (XH (x := 1)) Xg)) Xg)))
    Xl)))))
theorem Xj9 {C : Wd} (F : KF C.K) : FS C 2 244 Xdh := ZA [43, 77] [] (F.at 87).1 (F.at 87).2 (F.at 87).3 (XkB F) (fun s vs hl X => by
    obtain ⟨a, b, rfl⟩ := Xay hl
    exact XK (F.at 87).4 (F.at 87).5 (fun fd => by with_unfolding_all rfl))
noncomputable def XcE : XM := (Xo (YZ (XN oEq (Yl .channel 38 (Xc 43)) (XO Xi)) (Xo (Zg (XO Xi)) Xp) Xp) (Xo (YE (mLm XcU (Yl .channel 38 (Xc 43)) (Xe (Xd (.int 0)) Xi)) (XC 51)) (Xo (Zd (mLm Yt (Yl .channel 30 (Xc 43)) (Xe (XI (Xc 51) (Xd (.int 1))) Xi))) (Xo (Zg (XO (Xe (XB UK (Xe (Xc 51) (Xe (Yw (Xe (Xd (.str 21)) Xi)) Xi))) Xi))) Xp))))
noncomputable def Xcw : List MV → Sg → R MV := ZU [43] [] XcE
noncomputable def XiM : Scope := scD (Ye (Xr 18) 5)
noncomputable def XiH : List Stmt := bdD (Ye (Xr 18) 5)
theorem XiT {C : Wd} (F : KF C.K) : XSs C 1 XiM XiH XcE :=
  (Xf (YX (Yb YW (XP (Yi (c := .channel) (f := 38) (F.at 78) (F.at 21) (F.at 79)) (Xa (x := 43))) (XL Xg)) (Xf (Yp (XL Xg))
    Xl) Xl)
    (Xf (XV (UR Xbm PySem.F.slot_list_pop PySem.F.type_list_pop (XP (Yi (c := .channel) (f := 38) (F.at 78) (F.at 21) (F.at 79)) (Xa (x := 43))) (Xb Xs Xg)) (XX (x := 51)))
    (Xf (Zi (UR Zy PySem.F.slot_list_append PySem.F.type_list_append (XP (Yi (c := .channel) (f := 30) (F.at 78) (F.at 21) (F.at 80)) (Xa (x := 43))) (Xb (Xy (Xa (x := 51)) Xs) Xg)))
    (Xf (Yp (XL (Xb (Yq (F.at 83) (KeepS.ref (F.at 84)) (YN (FS.le (Ww F))) (Xb (Xa (x := 51)) (Xb (Yo (Xb (XH (x := 21)) Xg)) Xg))) Xg)))
    Xl))))
theorem XiJ {C : Wd} (F : KF C.K) : FS C 2 258 Xcw := ZA [43] [] (F.at 88).1 (F.at 88).2 (F.at 88).3 (XiT F) (fun s vs hl X => by
    obtain ⟨a, rfl⟩ := Xbq hl
    exact XK (F.at 88).4 (F.at 88).5 (fun fd => by with_unfolding_all rfl))
noncomputable def Xfu : XM := (Xo (YZ (XN oNe (Yl .channel 30 (Xc 43)) (XO Xi)) (Xo (YE (mLm XcU (Yl .channel 30 (Xc 43)) (Xe (Xd (.int 0)) Xi)) (XC 52)) (Xo (Zg (YI UJ (XO (Xe (Yw (Xe (Xd (.str 7)) (Xe (Xc 52) (Xe (Xd (.bool true)) Xi)))) Xi)) (Ua .channel none Xcw (Xc 43) Xi))) Xp)) Xp) (Xo (YZ (XN oNe (Yl .channel 38 (Xc 43)) (XO Xi)) (Xo (YE (mLm XcU (Yl .channel 38 (Xc 43)) (Xe (Xd (.int 0)) Xi)) (XC 51)) (Xo (Zg (XO (Xe (Yw (Xe (Xd (.str 7)) (Xe (XI (Xc 51) (Xd (.int 1))) (Xe (Xd (.bool true)) Xi)))) (Xe (XB UK (Xe (Xc 51) (Xe (Yw (Xe (Xd (.str 21)) Xi)) Xi))) Xi)))) Xp)) Xp) (Xo (YZ (UI (Yl .channel 3 (Xc 43))) (Xo (Zg (XO (Xe (Yw (Xe (Xd (.str 7)) (Xe (Xd .none) (Xe (Xd (.bool false)) Xi)))) Xi))) Xp) Xp) (Xo (Zd (mLm Yt (Yl .channel 35 (Xc 43)) (Xe (Xc 77) Xi))) (Xo (Zg (XO (Xe (Yw (Xe (Xd (.str 1)) Xi)) Xi))) Xp)))))
noncomputable def Xfz : List MV → Sg → R MV := ZU [43, 77] [] Xfu
noncomputable def Xk3 : Scope := scD (Ye (Xr 18) 4)
noncomputable def XlQ : List Stmt := bdD (Ye (Xr 18) 4)
theorem Xl3 {C : Wd} (F : KF C.K) : XSs C 2 Xk3 XlQ Xfu :=
  (Xf (YX (Yb VE (XP (Yi (c := .channel) (f := 30) (F.at 78) (F.at 21) (F.at 80)) (Xa (x := 43))) (XL Xg)) (Xf (XV (UR Xbm PySem.F.slot_list_pop PySem.F.type_list_pop (XP (Yi (c := .channel) (f := 30) (F.at 78) (F.at 21) (F.at 80)) (Xa (x := 43))) (Xb Xs Xg)) (XX (x := 52)))
    (Xf (Yp (YL Up (XL (Xb (Yo (Xb (XH (x := 7)) (Xb (Xa (x := 52)) (Xb Ue Xg)))) Xg)) (ZS (nm := none) (c := .channel) ⟨(F.at 78), (F.at 89), (F.at 90).1, (F.at 90).2, (F.at 90).3⟩ (FS.le (XiJ F)) (Xa (x := 43)) Xg (UL (by decide +kernel)))))
    Xl)) Xl)
    (Xf (YX (Yb VE (XP (Yi (c := .channel) (f := 38) (F.at 78) (F.at 21) (F.at 79)) (Xa (x := 43))) (XL Xg)) (Xf (XV (UR Xbm PySem.F.slot_list_pop PySem.F.type_list_pop (XP (Yi (c := .channel) (f := 38) (F.at 78) (F.at 21) (F.at 79)) (Xa (x := 43))) (Xb Xs Xg)) (XX (x := 51)))
    (Xf (Yp (XL (Xb (Yo (Xb (XH (x := 7)) (Xb (Xy (Xa (x := 51)) Xs) (Xb Ue Xg)))) (Xb (Yq (F.at 83) (KeepS.ref (F.at 84)) (YN (FS.le (Ww F))) (Xb (Xa (x := 51)) (Xb (Yo (Xb (XH (x := 21)) Xg)) Xg))) Xg))))
    Xl)) Xl)
    (Xf (YX (XaZ (XP (Yi (c := .channel) (f := 3) (F.at 78) (F.at 21) (F.at 85)) (Xa (x := 43)))) (Xf (Yp (XL (Xb (Yo (Xb (XH (x := 7)) (Xb Yc (Xb Ue Xg)))) Xg)))
    Xl) Xl)
    (Xf (Zi (UR Zy PySem.F.slot_list_append PySem.F.type_list_append (XP (Yi (c := .channel) (f := 35) (F.at 78) (F.at 21) (F.at 82)) (Xa (x := 43))) (Xb (Xa (x := 77)) Xg)))
    (Xf (Yp (XL (Xb (Yo (Xb (XH (x := 1)) Xg)) Xg)))
    Xl)))))
theorem Xlm {C : Wd} (F : KF C.K) : FS C 3 251 Xfz := ZA [43, 77] [] (F.at 91).1 (F.at 91).2 (F.at 91).3 (Xl3 F) (fun s vs hl X => by
    obtain ⟨a, b, rfl⟩ := Xay hl
    exact XK (F.at 91).4 (F.at 91).5 (fun fd => by with_unfolding_all rfl))
noncomputable def Xdy : XM := (Xo (YZ (UI (Yl .channel 3 (Xc 43))) (Xo (Zg (XO (Xe (Yw (Xe (Xd (.str 14)) (Xe (Xd (.str 20)) Xi))) Xi))) Xp) Xp) (Xo (YE (Xd (.bool true)) (Zw .channel 3 (Xc 43))) (Xo (XaM (Zz (Yl .channel 35 (Xc 43)) [] (XC 77) YU (Yw (Xe (Xc 77) (Xe (Yw (Xe (Xd (.str 16)) (Xe (Xd .none) (Xe (Xd (.bool false)) Xi)))) Xi)))) 66) (Xo (Zd (mLm XbW (Xc 66) (Xe (Zz (Yl .channel 38 (Xc 43)) [] (XC 77) YU (Yw (Xe (Xc 77) (Xe (Yw (Xe (Xd (.str 14)) (Xe (Xd (.str 19)) Xi))) Xi)))) Xi))) (Xo (YE (Yw (Xe (XO Xi) (Xe (XO Xi) Xi))) (ZC 2 (ZQ (Zw .channel 35 (Xc 43)) (ZQ (Zw .channel 38 (Xc 43)) XbA)))) (Xo (Zg (YI UJ (XO (Xe (Yw (Xe (Xd (.str 7)) Xi)) Xi)) (Zz (XB US (Xe (Xc 66) Xi)) [] (ZC 2 (ZQ (XC 77) (ZQ (XC 79) XbA))) YU (XB UK (Xe (Xc 77) (Xe (Xc 79) Xi)))))) Xp))))))
noncomputable def Xdq : List MV → Sg → R MV := ZU [43] [] Xdy
noncomputable def XkV : Scope := scD (Ye (Xr 18) 6)
noncomputable def XkK : List Stmt := bdD (Ye (Xr 18) 6)
theorem XkP {C : Wd} (F : KF C.K) : XSs C 1 XkV XkK Xdy :=
  (Xf (YX (XaZ (XP (Yi (c := .channel) (f := 3) (F.at 78) (F.at 21) (F.at 85)) (Xa (x := 43)))) (Xf (Yp (XL (Xb (Yo (Xb (XH (x := 14)) (Xb (ZG (F.at 94) (TopIs.str (x := 20))) Xg))) Xg)))
    Xl) Xl)
    (Xf (XV Ue (YH (ZR (c := .channel) (f := 3) (F.at 19) (F.at 20) (F.at 22) (F.at 21)) (Xa (x := 43))))
    (Xf (XgM (x := 66) (fs := []) (cok (by decide +kernel)) (XP (Yi (c := .channel) (f := 35) (F.at 78) (F.at 21) (F.at 82)) (Xa (x := 43))) (XX (x := 77)) Xaa (Yo (Xb (Xa (x := 77)) (Xb (Yo (Xb (XH (x := 16)) (Xb Yc (Xb Ue Xg)))) Xg))) (by decide +kernel) (by intro env h; cases env; subst h; kernel_rfl))
    (Xf (Zi (UR Xiv PySem.F.slot_list_extend PySem.F.type_list_extend (Xa (x := 66)) (Xb (Wi (fs := []) (cok (by decide +kernel)) (XP (Yi (c := .channel) (f := 38) (F.at 78) (F.at 21) (F.at 79)) (Xa (x := 43))) (XX (x := 77)) Xaa (Yo (Xb (Xa (x := 77)) (Xb (Yo (Xb (XH (x := 14)) (Xb (ZG (F.at 86) (TopIs.str (x := 19))) Xg))) Xg)))) Xg)))
    (Xf (XV (Yo (Xb (XL Xg) (Xb (XL Xg) Xg))) (VU (n := 2) (ZM (YH (ZR (c := .channel) (f := 35) (F.at 19) (F.at 20) (F.at 23) (F.at 21)) (Xa (x := 43))) (ZM (YH (ZR (c := .channel) (f := 38) (F.at 19) (F.at 20) (F.at 24) (F.at 21)) (Xa (x := 43))) Xaw))) (hw := by intro env h; cases env; subst h; kernel_rfl))
    (Xf (Yp (YL Up (XL (Xb (Yo (Xb (XH (x := 7)) Xg)) Xg)) (Wi (fs := []) (cok (by decide +kernel)) (Yq (F.at 92) (KeepS.ref (F.at 93)) (YN (FS.le (XcR F))) (Xb (Xa (x := 66)) Xg)) (VU (n := 2) (ZM (XX (x := 77)) (ZM (XX (x := 79)) Xaw))) Xaa (Yq (F.at 83) (KeepS.ref (F.at 84)) (YN (FS.le (Ww F))) (Xb (Xa (x := 77)) (Xb (Xa (x := 79)) Xg))))))
    Xl))))))
theorem Xjw {C : Wd} (F : KF C.K) : FS C 2 263 Xdq := ZA [43] [] (F.at 95).1 (F.at 95).2 (F.at 95).3 (XkP F) (fun s vs hl X => by
    obtain ⟨a, rfl⟩ := Xbq hl
    exact XK (F.at 95).4 (F.at 95).5 (fun fd => by with_unfolding_all rfl))
end
section
set_option maxHeartbeats 8000000
noncomputable def XfK : XM := (Xo (YZ (XN oIs (Yl .mutex 13 (Xc 43)) (Xd .none)) (Xo (YE (Xc 34) (Zw .mutex 13 (Xc 43))) (Xo (Zg (Xd (.tup [.str 7]))) Xp)) Xp) (Xo (YZ (XN oIn (Xc 34) (Yl .mutex 41 (Xc 43))) (Xo Wa Xp) Xp) (Xo (Zd (mLm Yt (Yl .mutex 41 (Xc 43)) (Xe (Xc 34) Xi))) (Xo (Zg (Xd (.tup [.str 1]))) Xp))))
noncomputable def XfQ : List MV → Sg → R MV := ZU [43, 34] [] XfK
noncomputable def Xls : Scope := scD (Ye (Xr 24) 2)
noncomputable def Xmm : List Stmt := bdD (Ye (Xr 24) 2)
theorem Xmj {C : Wd} (F : KF C.K) : XSs C 0 Xls Xmm XfK :=
  (Xf (YX (Yb XaB (XP (Yi (c := .mutex) (f := 13) (F.at 98) (F.at 36) (F.at 100)) (Xa (x := 43))) Yc) (Xf (XV (Xa (x := 34)) (YH (ZR (c := .mutex) (f := 13) (F.at 34) (F.at 35) (F.at 38) (F.at 36)) (Xa (x := 43))))
    (Xf (Yp (ZG (F.at 101) (TopIs.tupAt (x := 7) (F.at 102))))
    Xl)) Xl)
    (Xf (YX (Yb XlY (Xa (x := 34)) (XP (Yi (c := .mutex) (f := 41) (F.at 98) (F.at 36) (F.at 99)) (Xa (x := 43)))) (Xf Xci
    Xl) Xl)
    (Xf (Zi (UR Zy PySem.F.slot_list_append PySem.F.type_list_append (XP (Yi (c := .mutex) (f := 41) (F.at 98) (F.at 36) (F.at 99)) (Xa (x := 43))) (Xb (Xa (x := 34)) Xg)))
    (Xf (Yp (ZG (F.at 96) (TopIs.tupAt (x := 1) (F.at 97))))
    Xl))))
theorem Xlc {C : Wd} (F : KF C.K) : FS C 1 342 XfQ := ZA [43, 34] [] (F.at 103).1 (F.at 103).2 (F.at 103).3 (Xmj F) (fun s vs hl X => by
    obtain ⟨a, b, rfl⟩ := Xay hl
    exact XK (F.at 103).4 (F.at 103).5 (fun fd => by with_unfolding_all rfl))
noncomputable def Xbj : XM := (Xo (YZ (XN oIs (Yl .mutex 13 (Xc 43)) (Xd .none)) (Xo XeD Xp) Xp) (Xo (YE (mIf (XN oNe (Yl .mutex 41 (Xc 43)) (XO Xi)) (mLm XcU (Yl .mutex 41 (Xc 43)) (Xe (Xd (.int 0)) Xi)) (Xd .none)) (Zw .mutex 13 (Xc 43))) (Xo (Zg (Yl .mutex 13 (Xc 43))) Xp)))
noncomputable def Xal : List MV → Sg → R MV := ZU [43] [] Xbj
noncomputable def Xiy : Scope := scD (Ye (Xr 24) 3)
noncomputable def Xi7 : List Stmt := bdD (Ye (Xr 24) 3)
theorem XiB {C : Wd} (F : KF C.K) : XSs C 4 Xiy Xi7 Xbj :=
  (Xf (YX (Yb XaB (XP (Yi (c := .mutex) (f := 13) (F.at 98) (F.at 36) (F.at 100)) (Xa (x := 43))) Yc) (Xf (XgB (k := 0) F.kr)
    Xl) Xl)
    (Xf (XV (XcY (Yb VE (XP (Yi (c := .mutex) (f := 41) (F.at 98) (F.at 36) (F.at 99)) (Xa (x := 43))) (XL Xg)) (UR Xbm PySem.F.slot_list_pop PySem.F.type_list_pop (XP (Yi (c := .mutex) (f := 41) (F.at 98) (F.at 36) (F.at 99)) (Xa (x := 43))) (Xb Xs Xg)) Yc) (YH (ZR (c := .mutex) (f := 13) (F.at 34) (F.at 35) (F.at 38) (F.at 36)) (Xa (x := 43))))
    (Xf (Yp (XP (Yi (c := .mutex) (f := 13) (F.at 98) (F.at 36) (F.at 100)) (Xa (x := 43))))
    Xl)))
theorem XiI {C : Wd} (F : KF C.K) : FS C 5 349 Xal := ZA [43] [] (F.at 104).1 (F.at 104).2 (F.at 104).3 (XiB F) (fun s vs hl X => by
    obtain ⟨a, rfl⟩ := Xbq hl
    exact XK (F.at 104).4 (F.at 104).5 (fun fd => by with_unfolding_all rfl))
noncomputable def XdG : XM := (Xo (YZ (XN oLt (YI UJ (Yl .waitgroup 4 (Xc 43)) (Xc 57)) (Xd (.int 0))) (Xo XeD Xp) Xp) (Xo (YE (YI UJ (Yl .waitgroup 4 (Xc 43)) (Xc 57)) (Zw .waitgroup 4 (Xc 43))) (Xo (YZ (XN oGt (Yl .waitgroup 4 (Xc 43)) (Xd (.int 0))) (Xo (Zg (XO Xi)) Xp) Xp) (Xo (YE (Yw (Xe (Yl .waitgroup 41 (Xc 43)) (Xe (XO Xi) Xi))) (ZC 2 (ZQ (XC 27) (ZQ (Zw .waitgroup 41 (Xc 43)) XbA)))) (Xo (Zg (Xc 27)) Xp)))))
noncomputable def XbE : List MV → Sg → R MV := ZU [43, 57] [] XdG
noncomputable def Xnx : Scope := scD (Ye (Xr 25) 1)
noncomputable def Xof : List Stmt := bdD (Ye (Xr 25) 1)
theorem Xnp {C : Wd} (F : KF C.K) : XSs C 4 Xnx Xof XdG :=
  (Xf (YX (Yb We (YL Up (XP (Yi (c := .waitgroup) (f := 4) (F.at 105) (F.at 42) (F.at 107)) (Xa (x := 43))) (Xa (x := 57))) Xs) (Xf (XgB (k := 0) F.kr)
    Xl) Xl)
    (Xf (XV (YL Up (XP (Yi (c := .waitgroup) (f := 4) (F.at 105) (F.at 42) (F.at 107)) (Xa (x := 43))) (Xa (x := 57))) (YH (ZR (c := .waitgroup) (f := 4) (F.at 40) (F.at 41) (F.at 44) (F.at 42)) (Xa (x := 43))))
    (Xf (YX (Yb XfX (XP (Yi (c := .waitgroup) (f := 4) (F.at 105) (F.at 42) (F.at 107)) (Xa (x := 43))) Xs) (Xf (Yp (XL Xg))
    Xl) Xl)
    (Xf (XV (Yo (Xb (XP (Yi (c := .waitgroup) (f := 41) (F.at 105) (F.at 42) (F.at 106)) (Xa (x := 43))) (Xb (XL Xg) Xg))) (VU (n := 2) (ZM (XX (x := 27)) (ZM (YH (ZR (c := .waitgroup) (f := 41) (F.at 40) (F.at 41) (F.at 43) (F.at 42)) (Xa (x := 43))) Xaw))) (hw := by intro env h; cases env; subst h; kernel_rfl))
    (Xf (Yp (Xa (x := 27)))
    Xl)))))
theorem XjG {C : Wd} (F : KF C.K) : FS C 5 377 XbE := ZA [43, 57] [] (F.at 108).1 (F.at 108).2 (F.at 108).3 (Xnp F) (fun s vs hl X => by
    obtain ⟨a, b, rfl⟩ := Xay hl
    exact XK (F.at 108).4 (F.at 108).5 (fun fd => by with_unfolding_all rfl))
noncomputable def Xdf : XM := (Xo (Zg (Ua .waitgroup none XbE (Xc 43) (Xe (Xf5 (Xd (.int 1))) Xi))) Xp)
noncomputable def XcM : List MV → Sg → R MV := ZU [43] [] Xdf
noncomputable def Xll : Scope := scD (Ye (Xr 25) 2)
noncomputable def Xmf : List Stmt := bdD (Ye (Xr 25) 2)
theorem Xmw {C : Wd} (F : KF C.K) : XSs C 5 Xll Xmf Xdf :=
  (Xf (Yp (ZS (nm := none) (c := .waitgroup) ⟨(F.at 105), (F.at 109), (F.at 110).1, (F.at 110).2, (F.at 110).3⟩ (FS.le (XjG F)) (Xa (x := 43)) (Xb (XhN Xs) Xg) (UL (by decide +kernel))))
    Xl)
theorem XlO {C : Wd} (F : KF C.K) : FS C 6 384 XcM := ZA [43] [] (F.at 111).1 (F.at 111).2 (F.at 111).3 (Xmw F) (fun s vs hl X => by
    obtain ⟨a, rfl⟩ := Xbq hl
    exact XK (F.at 111).4 (F.at 111).5 (fun fd => by with_unfolding_all rfl))
noncomputable def Xe0 : XM := (Xo (YZ (XN oEq (Yl .waitgroup 4 (Xc 43)) (Xd (.int 0))) (Xo (Zg (Xd (.tup [.str 7]))) Xp) Xp) (Xo (Zd (mLm Yt (Yl .waitgroup 41 (Xc 43)) (Xe (Xc 34) Xi))) (Xo (Zg (Xd (.tup [.str 1]))) Xp)))
noncomputable def XfG : List MV → Sg → R MV := ZU [43, 34] [] Xe0
noncomputable def Xmk : Scope := scD (Ye (Xr 25) 3)
noncomputable def XmB : List Stmt := bdD (Ye (Xr 25) 3)
theorem Xly {C : Wd} (F : KF C.K) : XSs C 0 Xmk XmB Xe0 :=
  (Xf (YX (Yb YW (XP (Yi (c := .waitgroup) (f := 4) (F.at 105) (F.at 42) (F.at 107)) (Xa (x := 43))) Xs) (Xf (Yp (ZG (F.at 101) (TopIs.tupAt (x := 7) (F.at 102))))
    Xl) Xl)
    (Xf (Zi (UR Zy PySem.F.slot_list_append PySem.F.type_list_append (XP (Yi (c := .waitgroup) (f := 41) (F.at 105) (F.at 42) (F.at 106)) (Xa (x := 43))) (Xb (Xa (x := 34)) Xg)))
    (Xf (Yp (ZG (F.at 96) (TopIs.tupAt (x := 1) (F.at 97))))
    Xl)))
theorem Xmz {C : Wd} (F : KF C.K) : FS C 1 391 XfG := ZA [43, 34] [] (F.at 112).1 (F.at 112).2 (F.at 112).3 (Xly F) (fun s vs hl X => by
    obtain ⟨a, b, rfl⟩ := Xay hl
    exact XK (F.at 112).4 (F.at 112).5 (fun fd => by with_unfolding_all rfl))
noncomputable def XaO : XM := (Xo (YE (Xd (.int 0)) (XC 45)) (Xo (YZ (XN oLt (Xc 55) (XB ZN (Xe (Xc 68) Xi))) (Xo (YE (XI (Xc 68) (Xc 55)) (XC 45)) Xp) Xp) (Xo (YE (XB Xk5 (Xe (XB Xa1 (Xe (Xc 45) Xi)) (Xe (XB Xa1 (Xe (YI Xgu (Xf5 (Xd (.int 1))) (Xc 45)) Xi)) Xi))) (XC 44)) (Xo (YE (YI XaT (XB Xa1 (Xe (YI WG (YI UJ (YI UJ (YI UJ (YI XaT (XB Xa1 (Xe (Xc 44) Xi)) (Xd (.int 2147483629))) (YI WG (YI WG (Xd (.int 7919)) (Xc 55)) (Xc 55))) (YI WG (Xd (.int 31)) (Xc 55))) (Xd (.int 17))) (Xd (.int 48271))) Xi)) (Xd (.int 2147483647))) (XC 59)) (Xo (Zg (XO (Xe (YI WG (Xc 44) (XB Xa1 (Xe (YI oGe (Xc 44) (YI Xlb (Xd (.int 10)) (Xd (.int 18)))) Xi))) (Xe (Xc 59) Xi)))) Xp)))))
noncomputable def VY : List MV → Sg → R MV := ZU [68, 55] [] XaO
noncomputable def Xgd : Scope := scD (Xr 27)
noncomputable def Xgk : List Stmt := bdD (Xr 27)
theorem Xf1 {C : Wd} (F : KF C.K) : XSs C 0 Xgd Xgk XaO :=
  (Xf (XV Xs (XX (x := 45)))
    (Xf (YX (Yb We (Xa (x := 55)) (YP (f := .builtin "len") (F.at 49) rfl KeepS.blt Vt (Xb (Xa (x := 68)) Xg))) (Xf (XV (Xy (Xa (x := 68)) (Xa (x := 55))) (XX (x := 45)))
    Xl) Xl)
    (Xf (XV (YP (f := .builtin "max") (F.at 114) rfl KeepS.blt Xob (Xb (YP (f := .type "int") (F.at 113) rfl KeepS.typ Xaz (Xb (Xa (x := 45)) Xg)) (Xb (YP (f := .type "int") (F.at 113) rfl KeepS.typ Xaz (Xb (YL XeQ (XhN Xs) (Xa (x := 45))) Xg)) Xg))) (XX (x := 44)))
    (Xf (XV (YL WU (YP (f := .type "int") (F.at 113) rfl KeepS.typ Xaz (Xb (YL Wb (YL Up (YL Up (YL Up (YL WU (YP (f := .type "int") (F.at 113) rfl KeepS.typ Xaz (Xb (Xa (x := 44)) Xg)) Xs) (YL Wb (YL Wb Xs (Xa (x := 55))) (Xa (x := 55)))) (YL Wb Xs (Xa (x := 55)))) Xs) Xs) Xg)) Xs) (XX (x := 59)))
    (Xf (Yp (XL (Xb (YL Wb (Xa (x := 44)) (YP (f := .type "int") (F.at 113) rfl KeepS.typ Xaz (Xb (XaS XlI (Xa (x := 44)) (YL XlZ Xs Xs)) Xg))) (Xb (Xa (x := 59)) Xg))))
    Xl)))))
theorem Xgi {C : Wd} (F : KF C.K) : FS C 1 405 VY := ZA [68, 55] [] (F.at 115).1 (F.at 115).2 (F.at 115).3 (Xf1 F) (fun s vs hl X => by
    obtain ⟨a, b, rfl⟩ := Xay hl
    exact XK (F.at 115).4 (F.at 115).5 (fun fd => by with_unfolding_all rfl))
noncomputable def XaY : XM := (Xo (YZ (XN oGt (XI (Xc 71) (Xd (.int 0))) (Xd (.int 0))) (Xo (YE (YI XaT (XB Xa1 (Xe (XI (Xc 71) (Xd (.int 0))) Xi)) (Xc 74)) (XC 49)) (Xo (YE (YI XjC (XI (Xc 71) (Xd (.int 0))) (Xc 74)) (Ws (Xc 71) (Xd (.int 0)))) (Xo (Zg (Xc 49)) Xp))) Xp) (Xo (YE (YI XaT (XB Xa1 (Xe (YI UJ (YI WG (XI (Xc 71) (Xd (.int 1))) (Xd (.int 39373))) (Xd (.int 7))) Xi)) (Xd (.int 2147483647))) (Ws (Xc 71) (Xd (.int 1)))) (Xo (Zg (YI XaT (XB Xa1 (Xe (YI XjC (YI XaT (XB Xa1 (Xe (YI WG (XI (Xc 71) (Xd (.int 1))) (XI (Xc 71) (Xd (.int 1)))) Xi)) (Xd (.int 2147483629))) (Xd (.int 32))) Xi)) (Xc 74))) Xp)))
noncomputable def XW : List MV → Sg → R MV := ZU [71, 74] [] XaY
noncomputable def XgQ : Scope := scD (Xr 28)
noncomputable def Xgb : List Stmt := bdD (Xr 28)
theorem XgK {C : Wd} (F : KF C.K) : XSs C 0 XgQ Xgb XaY :=
  (Xf (YX (Yb XfX (Xy (Xa (x := 71)) Xs) Xs) (Xf (XV (YL WU (YP (f := .type "int") (F.at 113) rfl KeepS.typ Xaz (Xb (Xy (Xa (x := 71)) Xs) Xg)) (Xa (x := 74))) (XX (x := 49)))
    (Xf (XV (YL Xig (Xy (Xa (x := 71)) Xs) (Xa (x := 74))) (VF (Xa (x := 71)) Xs))
    (Xf (Yp (Xa (x := 49)))
    Xl))) Xl)
    (Xf (XV (YL WU (YP (f := .type "int") (F.at 113) rfl KeepS.typ Xaz (Xb (YL Up (YL Wb (Xy (Xa (x := 71)) Xs) Xs) Xs) Xg)) Xs) (VF (Xa (x := 71)) Xs))
    (Xf (Yp (YL WU (YP (f := .type "int") (F.at 113) rfl KeepS.typ Xaz (Xb (YL Xig (YL WU (YP (f := .type "int") (F.at 113) rfl KeepS.typ Xaz (Xb (YL Wb (Xy (Xa (x := 71)) Xs) (Xy (Xa (x := 71)) Xs)) Xg)) Xs) Xs) Xg)) (Xa (x := 74))))
    Xl)))
theorem Uv {C : Wd} (F : KF C.K) : FS C 1 412 XW := ZA [71, 74] [] (F.at 116).1 (F.at 116).2 (F.at 116).3 (XgK F) (fun s vs hl X => by
    obtain ⟨a, b, rfl⟩ := Xay hl
    exact XK (F.at 116).4 (F.at 116).5 (fun fd => by with_unfolding_all rfl))
noncomputable def Xat : XM := (Xo (YE (XO Xi) (XC 52)) (Xo (Xa0 (fun fr σ => Zf ((YI UJ (Xd (.int 1)) (XB XW (Xe (Xc 71) (Xe (Xd (.int 4)) Xi)))) fr σ)) (XC 75) (Xo (VB (Yw (Xe (XB XW (Xe (Xc 71) (Xe (Xd (.int 10)) Xi))) (Xe (XB XW (Xe (Xc 71) (Xe (Xd (.int 2)) Xi))) Xi))) [78, 46]) (Xo (YZ (XN oLt (Xc 78) (Xd (.int 3))) (Xo (Zd (mLm Yt (Xc 52) (Xe (Yw (Xe (Xd (.str 18)) (Xe (Xc 46) (Xe (YI UJ (YI WG (Xd (.int 10)) (Xc 34)) (Xc 75)) Xi)))) Xi))) Xp) (Xo (YZ (XN oLt (Xc 78) (Xd (.int 7))) (Xo (Zd (mLm Yt (Xc 52) (Xe (Yw (Xe (Xd (.str 22)) (Xe (Xc 46) Xi))) Xi))) Xp) (Xo (YE (XO (Xe (Yw (Xe (Xd (.str 2)) (Xe (Xc 46) Xi))) (Xe (Yw (Xe (Xd (.str 10)) Xi)) (Xe (Yw (Xe (Xd (.str 23)) Xi)) (Xe (Yw (Xe (Xd (.str 25)) Xi)) (Xe (Yw (Xe (Xd (.str 7)) Xi)) Xi)))))) (XC 61)) (Xo (Zd (mLm Yt (Xc 52) (Xe (XI (Xc 61) (YI UJ (YI Xgu (Xc 78) (Xd (.int 7))) (XB XW (Xe (Xc 71) (Xe (Xd (.int 3)) Xi))))) Xi))) Xp))) Xp)) Xp))) (Xo (Zg (Xc 52)) Xp)))
noncomputable def VI : List MV → Sg → R MV := ZU [71, 34] [] Xat
noncomputable def Xff : Scope := scD (Xr 30)
noncomputable def Xfs : List Stmt := bdD (Xr 30)
theorem XfS {C : Wd} (F : KF C.K) : XSs C 1 Xff Xfs Xat :=
  (Xf (XV (XL Xg) (XX (x := 52)))
    (Xf (XfV (F.at 119) (YL Up Xs (Yq (F.at 117) (KeepS.ref (F.at 118)) (YN (FS.le (Uv F))) (Xb (Xa (x := 71)) (Xb Xs Xg)))) (XX (x := 75)) (Xf (Wx (xs := [78, 46]) (Yo (Xb (Yq (F.at 117) (KeepS.ref (F.at 118)) (YN (FS.le (Uv F))) (Xb (Xa (x := 71)) (Xb Xs Xg))) (Xb (Yq (F.at 117) (KeepS.ref (F.at 118)) (YN (FS.le (Uv F))) (Xb (Xa (x := 71)) (Xb Xs Xg))) Xg))) (by decide +kernel) (by intro env h; cases env; subst h; kernel_rfl))
    (Xf (YX (Yb We (Xa (x := 78)) Xs) (Xf (Zi (UR Zy PySem.F.slot_list_append PySem.F.type_list_append (Xa (x := 52)) (Xb (Yo (Xb (XH (x := 18)) (Xb (Xa (x := 46)) (Xb (YL Up (YL Wb Xs (Xa (x := 34))) (Xa (x := 75))) Xg)))) Xg)))
    Xl) (Xf (YX (Yb We (Xa (x := 78)) Xs) (Xf (Zi (UR Zy PySem.F.slot_list_append PySem.F.type_list_append (Xa (x := 52)) (Xb (Yo (Xb (XH (x := 22)) (Xb (Xa (x := 46)) Xg))) Xg)))
    Xl) (Xf (XV (XL (Xb (Yo (Xb (XH (x := 2)) (Xb (Xa (x := 46)) Xg))) (Xb (Yo (Xb (XH (x := 10)) Xg)) (Xb (Yo (Xb (XH (x := 23)) Xg)) (Xb (Yo (Xb (XH (x := 25)) Xg)) (Xb (Yo (Xb (XH (x := 7)) Xg)) Xg)))))) (XX (x := 61)))
    (Xf (Zi (UR Zy PySem.F.slot_list_append PySem.F.type_list_append (Xa (x := 52)) (Xb (Xy (Xa (x := 61)) (YL Up (YL XeQ (Xa (x := 78)) Xs) (Yq (F.at 117) (KeepS.ref (F.at 118)) (YN (FS.le (Uv F))) (Xb (Xa (x := 71)) (Xb Xs Xg))))) Xg)))
    Xl)))
    Xl))
    Xl)))
    (Xf (Yp (Xa (x := 52)))
    Xl)))
theorem Xe3 {C : Wd} (F : KF C.K) : FS C 2 426 VI := ZA [71, 34] [] (F.at 120).1 (F.at 120).2 (F.at 120).3 (XfS F) (fun s vs hl X => by
    obtain ⟨a, b, rfl⟩ := Xay hl
    exact XK (F.at 120).4 (F.at 120).5 (fun fd => by with_unfolding_all rfl))
noncomputable def Xas : XM := (Xo (YE (XB (Wo .waitgroup Un) Xi) (XC 54)) (Xo (Zd (Ua .waitgroup none XbE (Xc 54) (Xe (Xc 4) Xi))) (Xo (Zg (XO (Xe (Zz (Xc 17) [] (XC 36) YU (XB (Wo .channel ZO) (Xe (Xc 36) Xi))) (Xe (XB (Wo .mutex Vc) Xi) (Xe (Xc 54) (Xe (Vq (Xc 57) [] (XC 34) YU (XO Xi)) (Xe (YI WG (XO (Xe (Xd (.int 0)) Xi)) (Xc 57)) Xi))))))) Xp)))
noncomputable def Wf : List MV → Sg → R MV := ZU [17, 57, 4] [] Xas
noncomputable def XeS : Scope := scD (Xr 31)
noncomputable def XfZ : List Stmt := bdD (Xr 31)
theorem Xfe {C : Wd} (F : KF C.K) : XSs C 5 XeS XfZ Xas :=
  (Xf (XV (Yq (F.at 131) (KeepS.ref (F.at 132)) (CS.le (XcS (c := .waitgroup) (F.at 133) (F.at 134) (F.at 135) (Xbv F))) Xg) (XX (x := 54)))
    (Xf (Zi (ZS (nm := none) (c := .waitgroup) ⟨(F.at 105), (F.at 109), (F.at 110).1, (F.at 110).2, (F.at 110).3⟩ (FS.le (XjG F)) (Xa (x := 54)) (Xb (Xa (x := 4)) Xg) (UL (by decide +kernel))))
    (Xf (Yp (XL (Xb (Wi (fs := []) (cok (by decide +kernel)) (Xa (x := 17)) (XX (x := 36)) Xaa (Yq (F.at 126) (KeepS.ref (F.at 127)) (CS.le (XcS (c := .channel) (F.at 128) (F.at 129) (F.at 130) (Xb3 F))) (Xb (Xa (x := 36)) Xg))) (Xb (Yq (F.at 121) (KeepS.ref (F.at 122)) (CS.le (XcS (c := .mutex) (F.at 123) (F.at 124) (F.at 125) (Xdc F))) Xg) (Xb (Xa (x := 54)) (Xb (Xf9 (fs := []) (F.at 119) (cok (by decide +kernel)) (Xa (x := 57)) (XX (x := 34)) Xaa (XL Xg)) (Xb (YL Wb (XL (Xb Xs Xg)) (Xa (x := 57))) Xg)))))))
    Xl)))
theorem XfE {C : Wd} (F : KF C.K) : FS C 6 431 Wf := ZA [17, 57, 4] [] (F.at 136).1 (F.at 136).2 (F.at 136).3 (Xfe F) (fun s vs hl X => by
    refine @cps _ fun Γ γ => ?_
    obtain ⟨a, b, c, rfl⟩ := Xg5 hl
    refine γ ?_; clear γ Γ
    exact XK (F.at 136).4 (F.at 136).5 (fun fd => by with_unfolding_all rfl))
end
section
set_option maxHeartbeats 8000000
noncomputable def Xax : XM := (Xo (YE (XB ZN (Xe (Xc 65) Xi)) (XC 57)) (Xo (Zg (Xid [9, 17, 3, 13, 4, 26, 24, 7, 14] (Xe (XO (Xe (XO Xi) (Xe (XO Xi) Xi))) (Xe (Xc 17) (Xe (XO (Xe (Xd (.bool false)) (Xe (Xd (.bool false)) Xi))) (Xe (Xd .none) (Xe (Xc 4) (Xe (XO Xi) (Xe (Vq (Xc 57) [] (XC 34) YU (XO Xi)) (Xe (YI WG (XO (Xe (Xd (.int 0)) Xi)) (Xc 57)) (Xe (Xd (.bool false)) Xi))))))))))) Xp))
noncomputable def Wg : List MV → Sg → R MV := ZU [65, 17, 4] [] Xax
noncomputable def XfC : Scope := scD (Xr 34)
noncomputable def XeY : List Stmt := bdD (Xr 34)
theorem XfU {C : Wd} (F : KF C.K) : XSs C 0 XfC XeY Xax :=
  (Xf (XV (YP (f := .builtin "len") (F.at 49) rfl KeepS.blt Vt (Xb (Xa (x := 65)) Xg)) (XX (x := 57)))
    (Xf (Yp (Xl4 (by refine Wv (x := 9) (XL (Xb (XL Xg) (Xb (XL Xg) Xg))) ?_; refine Wv (x := 17) (Xa (x := 17)) ?_; refine Wv (x := 3) (XL (Xb Ue (Xb Ue Xg))) ?_; refine Wv (x := 13) Yc ?_; refine Wv (x := 4) (Xa (x := 4)) ?_; refine Wv (x := 26) (XL Xg) ?_; refine Wv (x := 24) (Xf9 (fs := []) (F.at 119) (cok (by decide +kernel)) (Xa (x := 57)) (XX (x := 34)) Xaa (XL Xg)) ?_; refine Wv (x := 7) (YL Wb (XL (Xb Xs Xg)) (Xa (x := 57))) ?_; refine Wv (x := 14) Ue ?_; exact Xnk) (by decide +kernel) (by kernel_rfl) (by kernel_rfl) (List.cons_ne_nil _ _) (by decide +kernel)))
    Xl))
theorem XfB {C : Wd} (F : KF C.K) : FS C 1 446 Wg := ZA [65, 17, 4] [] (F.at 137).1 (F.at 137).2 (F.at 137).3 (XfU F) (fun s vs hl X => by
    refine @cps _ fun Γ γ => ?_
    obtain ⟨a, b, c, rfl⟩ := Xg5 hl
    refine γ ?_; clear γ Γ
    exact XK (F.at 137).4 (F.at 137).5 (fun fd => by with_unfolding_all rfl))
end
section
set_option maxHeartbeats 8000000
noncomputable def Xao : XM := (Xo (Xaj (XI (Xc 62) (Xd (.str 26))) (XC 37) (Xo (YZ (UO (XN oEq (XI (XI (Xc 37) (Xd (.int 1))) (Xd (.int 0))) (Xc 80)) (UO (XN oEq (m12 (XI (Xc 37) (Xd (.int 1)))) (mIf (XN Uz (Xc 46) (Xd .none)) (Yw (Xe (Xc 46) Xi)) (Yw Xi))) YU)) (Xo (Zg (Xc 37)) Xp) Xp) Xp)) (Xo (Zg (Xd .none)) Xp))
noncomputable def ZH : List MV → Sg → R MV := ZU [62, 80, 46] [] Xao
noncomputable def Xfr : Scope := scD (Xr 35)
noncomputable def Xe5 : List Stmt := bdD (Xr 35)
theorem Xfm {C : Wd} (F : KF C.K) : XSs C 0 Xfr Xe5 Xao :=
  (Xf (Xdo (Xy (Xa (x := 62)) (XH (x := 26))) (XX (x := 37)) (Xf (YX (UN (ZJ (Yb YW (Xy (Xy (Xa (x := 37)) Xs) Xs) (Xa (x := 80))) (ZJ (Yb YW (Xoo (Xy (Xa (x := 37)) Xs)) (XcY (Yb Um (Xa (x := 46)) Yc) (Yo (Xb (Xa (x := 46)) Xg)) (Yo Xg))) Ub))) (Xf (Yp (Xa (x := 37)))
    Xl) Xl)
    Xl))
    (Xf (Yp Yc)
    Xl))
theorem WB {C : Wd} (F : KF C.K) : FS C 1 453 ZH := ZA [62, 80, 46] [] (F.at 138).1 (F.at 138).2 (F.at 138).3 (Xfm F) (fun s vs hl X => by
    refine @cps _ fun Γ γ => ?_
    obtain ⟨a, b, c, rfl⟩ := Xg5 hl
    refine γ ?_; clear γ Γ
    exact XK (F.at 138).4 (F.at 138).5 (fun fd => by with_unfolding_all rfl))
noncomputable def XaE : XM := (Xo (Zd (mLm Xb9 (XI (Xc 62) (Xd (.str 26))) (Xe (Xc 37) Xi))) (Xo (YE (YI UJ (XI (XI (Xc 62) (Xd (.str 7))) (XI (Xc 37) (Xd (.int 0)))) (Xd (.int 1))) (Ws (XI (Xc 62) (Xd (.str 7))) (XI (Xc 37) (Xd (.int 0))))) (Xo (YZ (XN Uz (Xc 76) (Xd .none)) (Xo (Zd (mLm Yt (XI (XI (Xc 62) (Xd (.str 24))) (XI (Xc 37) (Xd (.int 0)))) (Xe (Xc 76) Xi))) Xp) Xp) (Xo (Zg (Xd (.bool true))) Xp))))
noncomputable def YM : List MV → Sg → R MV := ZU [62, 37, 76] [] XaE
noncomputable def XfN : Scope := scD (Xr 36)
noncomputable def XfA : List Stmt := bdD (Xr 36)
theorem Xfd {C : Wd} (F : KF C.K) : XSs C 0 XfN XfA XaE :=
  (Xf (Zi (UR XiC PySem.F.slot_list_remove PySem.F.type_list_remove (Xy (Xa (x := 62)) (XH (x := 26))) (Xb (Xa (x := 37)) Xg)))
    (Xf (XV (YL Up (Xy (Xy (Xa (x := 62)) (XH (x := 7))) (Xy (Xa (x := 37)) Xs)) Xs) (VF (Xy (Xa (x := 62)) (XH (x := 7))) (Xy (Xa (x := 37)) Xs)))
    (Xf (YX (Yb Um (Xa (x := 76)) Yc) (Xf (Zi (UR Zy PySem.F.slot_list_append PySem.F.type_list_append (Xy (Xy (Xa (x := 62)) (XH (x := 24))) (Xy (Xa (x := 37)) Xs)) (Xb (Xa (x := 76)) Xg)))
    Xl) Xl)
    (Xf (Yp Ue)
    Xl))))
theorem ZT {C : Wd} (F : KF C.K) : FS C 1 460 YM := ZA [62, 37, 76] [] (F.at 139).1 (F.at 139).2 (F.at 139).3 (Xfd F) (fun s vs hl X => by
    refine @cps _ fun Γ γ => ?_
    obtain ⟨a, b, c, rfl⟩ := Xg5 hl
    refine γ ?_; clear γ Γ
    exact XK (F.at 139).4 (F.at 139).5 (fun fd => by with_unfolding_all rfl))
noncomputable def XaH : XM := (Xo (VB (Yw (Xe (XB ZH (Xe (Xc 62) (Xe (Xd (.str 22)) (Xe (Xc 46) Xi)))) (Xe (XB ZH (Xe (Xc 62) (Xe (Xd (.str 18)) (Xe (Xc 46) Xi)))) (Xe (XI (XI (Xc 62) (Xd (.str 9))) (Xc 46)) Xi)))) [72, 69, 9]) (Xo (YZ (UO (XN Uz (Xc 69) (Xd .none)) (UO (UI (XI (XI (Xc 62) (Xd (.str 3))) (Xc 46))) YU)) (Xo (YE (Xd (.bool true)) (Ws (Xc 62) (Xd (.str 14)))) (Xo (Zg (Xd (.bool false))) Xp)) Xp) (Xo (YZ (UO (XN Uz (Xc 72) (Xd .none)) (UO (XN oNe (Xc 9) (XO Xi)) YU)) (Xo (Zg (XB YM (Xe (Xc 62) (Xe (Xc 72) (Xe (Yw (Xe (mLm XcU (Xc 9) (Xe (Xd (.int 0)) Xi)) (Xe (Xd (.bool true)) Xi))) Xi))))) Xp) Xp) (Xo (YZ (UO (XN Uz (Xc 72) (Xd .none)) (UO (XN Uz (Xc 69) (Xd .none)) YU)) (Xo (Zg (Xcq (XB YM (Xe (Xc 62) (Xe (Xc 69) (Xe (Xd .none) Xi)))) (XB YM (Xe (Xc 62) (Xe (Xc 72) (Xe (Yw (Xe (XI (XI (Xc 69) (Xd (.int 1))) (Xd (.int 2))) (Xe (Xd (.bool true)) Xi))) Xi)))))) Xp) Xp) (Xo (YZ (UO (XN Uz (Xc 69) (Xd .none)) (UO (XN oLt (XB ZN (Xe (Xc 9) Xi)) (XI (XI (Xc 62) (Xd (.str 17))) (Xc 46))) YU)) (Xo (Zd (mLm Yt (Xc 9) (Xe (XI (XI (Xc 69) (Xd (.int 1))) (Xd (.int 2))) Xi))) (Xo (Zg (XB YM (Xe (Xc 62) (Xe (Xc 69) (Xe (Xd .none) Xi))))) Xp)) Xp) (Xo (YZ (UO (XN Uz (Xc 72) (Xd .none)) (UO (UI (XI (XI (Xc 62) (Xd (.str 3))) (Xc 46))) YU)) (Xo (Zg (XB YM (Xe (Xc 62) (Xe (Xc 72) (Xe (Yw (Xe (Xd .none) (Xe (Xd (.bool false)) Xi))) Xi))))) Xp) Xp) (Xo (Zg (Xd (.bool false))) Xp)))))))
noncomputable def Ve : List MV → Sg → R MV := ZU [62, 46] [] XaH
noncomputable def XfR : Scope := scD (Xr 37)
noncomputable def XeL : List Stmt := bdD (Xr 37)
theorem Xe7 {C : Wd} (F : KF C.K) : XSs C 1 XfR XeL XaH :=
  (Xf (Wx (xs := [72, 69, 9]) (Yo (Xb (Yq (F.at 142) (KeepS.ref (F.at 143)) (YN (FS.le (WB F))) (Xb (Xa (x := 62)) (Xb (XH (x := 22)) (Xb (Xa (x := 46)) Xg)))) (Xb (Yq (F.at 142) (KeepS.ref (F.at 143)) (YN (FS.le (WB F))) (Xb (Xa (x := 62)) (Xb (XH (x := 18)) (Xb (Xa (x := 46)) Xg)))) (Xb (Xy (Xy (Xa (x := 62)) (XH (x := 9))) (Xa (x := 46))) Xg)))) (by decide +kernel) (by intro env h; cases env; subst h; kernel_rfl))
    (Xf (YX (UN (ZJ (Yb Um (Xa (x := 69)) Yc) (ZJ (XaZ (Xy (Xy (Xa (x := 62)) (XH (x := 3))) (Xa (x := 46)))) Ub))) (Xf (XV Ue (VF (Xa (x := 62)) (XH (x := 14))))
    (Xf (Yp Ue)
    Xl)) Xl)
    (Xf (YX (UN (ZJ (Yb Um (Xa (x := 72)) Yc) (ZJ (Yb VE (Xa (x := 9)) (XL Xg)) Ub))) (Xf (Yp (Yq (F.at 140) (KeepS.ref (F.at 141)) (YN (FS.le (ZT F))) (Xb (Xa (x := 62)) (Xb (Xa (x := 72)) (Xb (Yo (Xb (UR Xbm PySem.F.slot_list_pop PySem.F.type_list_pop (Xa (x := 9)) (Xb Xs Xg)) (Xb Ue Xg))) Xg)))))
    Xl) Xl)
    (Xf (YX (UN (ZJ (Yb Um (Xa (x := 72)) Yc) (ZJ (Yb Um (Xa (x := 69)) Yc) Ub))) (Xf (Yp (WE (Xdl (Yq (F.at 140) (KeepS.ref (F.at 141)) (YN (FS.le (ZT F))) (Xb (Xa (x := 62)) (Xb (Xa (x := 69)) (Xb Yc Xg)))) (Xbb (Yq (F.at 140) (KeepS.ref (F.at 141)) (YN (FS.le (ZT F))) (Xb (Xa (x := 62)) (Xb (Xa (x := 72)) (Xb (Yo (Xb (Xy (Xy (Xa (x := 69)) Xs) Xs) (Xb Ue Xg))) Xg))))))))
    Xl) Xl)
    (Xf (YX (UN (ZJ (Yb Um (Xa (x := 69)) Yc) (ZJ (Yb We (YP (f := .builtin "len") (F.at 49) rfl KeepS.blt Vt (Xb (Xa (x := 9)) Xg)) (Xy (Xy (Xa (x := 62)) (XH (x := 17))) (Xa (x := 46)))) Ub))) (Xf (Zi (UR Zy PySem.F.slot_list_append PySem.F.type_list_append (Xa (x := 9)) (Xb (Xy (Xy (Xa (x := 69)) Xs) Xs) Xg)))
    (Xf (Yp (Yq (F.at 140) (KeepS.ref (F.at 141)) (YN (FS.le (ZT F))) (Xb (Xa (x := 62)) (Xb (Xa (x := 69)) (Xb Yc Xg)))))
    Xl)) Xl)
    (Xf (YX (UN (ZJ (Yb Um (Xa (x := 72)) Yc) (ZJ (XaZ (Xy (Xy (Xa (x := 62)) (XH (x := 3))) (Xa (x := 46)))) Ub))) (Xf (Yp (Yq (F.at 140) (KeepS.ref (F.at 141)) (YN (FS.le (ZT F))) (Xb (Xa (x := 62)) (Xb (Xa (x := 72)) (Xb (Yo (Xb Yc (Xb Ue Xg))) Xg)))))
    Xl) Xl)
    (Xf (Yp Ue)
    Xl)))))))
theorem Xch {C : Wd} (F : KF C.K) : FS C 2 467 Ve := ZA [62, 46] [] (F.at 144).1 (F.at 144).2 (F.at 144).3 (Xe7 F) (fun s vs hl X => by
    obtain ⟨a, b, rfl⟩ := Xay hl
    exact XK (F.at 144).4 (F.at 144).5 (fun fd => by with_unfolding_all rfl))
noncomputable def XaI : XM := (Xo (VB (Yw (Xe (XB ZH (Xe (Xc 62) (Xe (Xd (.str 10)) (Xe (Xd .none) Xi)))) (Xe (XB ZH (Xe (Xc 62) (Xe (Xd (.str 25)) (Xe (Xd .none) Xi)))) Xi))) [56, 77]) (Xo (YZ (UO (XN Uz (Xc 56) (Xd .none)) (UO (XN oIs (XI (Xc 62) (Xd (.str 13))) (Xd .none)) YU)) (Xo (YE (XI (Xc 56) (Xd (.int 0))) (Ws (Xc 62) (Xd (.str 13)))) (Xo (Zg (XB YM (Xe (Xc 62) (Xe (Xc 56) (Xe (Xd .none) Xi))))) Xp)) Xp) (Xo (Zg (Xcq (YI Uz (Xc 77) (Xd .none)) (Xcq (YI oEq (XI (Xc 62) (Xd (.str 4))) (Xd (.int 0))) (XB YM (Xe (Xc 62) (Xe (Xc 77) (Xe (Xd .none) Xi))))))) Xp)))
noncomputable def Wl : List MV → Sg → R MV := ZU [62] [] XaI
noncomputable def XeF : Scope := scD (Xr 38)
noncomputable def Xfo : List Stmt := bdD (Xr 38)
theorem XfH {C : Wd} (F : KF C.K) : XSs C 1 XeF Xfo XaI :=
  (Xf (Wx (xs := [56, 77]) (Yo (Xb (Yq (F.at 142) (KeepS.ref (F.at 143)) (YN (FS.le (WB F))) (Xb (Xa (x := 62)) (Xb (XH (x := 10)) (Xb Yc Xg)))) (Xb (Yq (F.at 142) (KeepS.ref (F.at 143)) (YN (FS.le (WB F))) (Xb (Xa (x := 62)) (Xb (XH (x := 25)) (Xb Yc Xg)))) Xg))) (by decide +kernel) (by intro env h; cases env; subst h; kernel_rfl))
    (Xf (YX (UN (ZJ (Yb Um (Xa (x := 56)) Yc) (ZJ (Yb XaB (Xy (Xa (x := 62)) (XH (x := 13))) Yc) Ub))) (Xf (XV (Xy (Xa (x := 56)) Xs) (VF (Xa (x := 62)) (XH (x := 13))))
    (Xf (Yp (Yq (F.at 140) (KeepS.ref (F.at 141)) (YN (FS.le (ZT F))) (Xb (Xa (x := 62)) (Xb (Xa (x := 56)) (Xb Yc Xg)))))
    Xl)) Xl)
    (Xf (Yp (WE (Xdl (XaS Um (Xa (x := 77)) Yc) (Xdl (XaS YW (Xy (Xa (x := 62)) (XH (x := 4))) Xs) (Xbb (Yq (F.at 140) (KeepS.ref (F.at 141)) (YN (FS.le (ZT F))) (Xb (Xa (x := 62)) (Xb (Xa (x := 77)) (Xb Yc Xg)))))))))
    Xl)))
theorem XfI {C : Wd} (F : KF C.K) : FS C 2 474 Wl := ZA [62] [] (F.at 145).1 (F.at 145).2 (F.at 145).3 (XfH F) (fun s vs hl X => by
    obtain ⟨a, rfl⟩ := Xbq hl
    exact XK (F.at 145).4 (F.at 145).5 (fun fd => by with_unfolding_all rfl))
noncomputable def XbM : XM := (Xo (Zd (mLm Yt (XI (Xc 62) (Xd (.str 26))) (Xe (Yw (Xe (Xc 34) (Xe (Xc 6) Xi))) Xi))) (Xo (YE (XI (XI (Xc 62) (Xd (.str 26))) (Xf5 (Xd (.int 1)))) (XC 37)) (Xo (YZ (XN oEq (XI (Xc 6) (Xd (.int 0))) (Xd (.str 2))) (Xo (YE (Xi4 (XI (Xc 62) (Xd (.str 14))) (XI (XI (Xc 62) (Xd (.str 3))) (XI (Xc 6) (Xd (.int 1))))) (Ws (Xc 62) (Xd (.str 14)))) (Xo (YE (Xd (.bool true)) (Ws (XI (Xc 62) (Xd (.str 3))) (XI (Xc 6) (Xd (.int 1))))) (Xo (Zd (XB YM (Xe (Xc 62) (Xe (Xc 37) (Xe (Xd .none) Xi))))) Xp))) (Xo (YZ (XN oEq (XI (Xc 6) (Xd (.int 0))) (Xd (.str 23))) (Xo (YE (Xi4 (XI (Xc 62) (Xd (.str 14))) (YI oIs (XI (Xc 62) (Xd (.str 13))) (Xd .none))) (Ws (Xc 62) (Xd (.str 14)))) (Xo (YE (Xd .none) (Ws (Xc 62) (Xd (.str 13)))) (Xo (Zd (XB YM (Xe (Xc 62) (Xe (Xc 37) (Xe (Xd .none) Xi))))) Xp))) (Xo (YZ (XN oEq (XI (Xc 6) (Xd (.int 0))) (Xd (.str 7))) (Xo (YE (YI Xgu (XI (Xc 62) (Xd (.str 4))) (Xd (.int 1))) (Ws (Xc 62) (Xd (.str 4)))) (Xo (YE (Xi4 (XI (Xc 62) (Xd (.str 14))) (YI oLt (XI (Xc 62) (Xd (.str 4))) (Xd (.int 0)))) (Ws (Xc 62) (Xd (.str 14)))) (Xo (Zd (XB YM (Xe (Xc 62) (Xe (Xc 37) (Xe (Xd .none) Xi))))) Xp))) Xp) Xp)) Xp)) (Xo (mWh (UO (Xi8 (UI (XI (Xc 62) (Xd (.str 14))))) (UO (mOr (UI (XB Ve (Xe (Xc 62) (Xe (Xd (.int 0)) Xi)))) (mOr (UI (XB Ve (Xe (Xc 62) (Xe (Xd (.int 1)) Xi)))) (mOr (UI (XB Wl (Xe (Xc 62) Xi))) WQ))) YU)) (Xo (YE (Xd .none) (XC 37)) Xp) 10) Xp))))
noncomputable def WD : List MV → Sg → R MV := ZU [62, 34, 6] [] XbM
noncomputable def Xhj : Scope := scD (Xr 39)
noncomputable def Xg9 : List Stmt := bdD (Xr 39)
theorem Xg0 {C : Wd} (F : KF C.K) : XSs C 2 Xhj Xg9 XbM :=
  (Xf (Zi (UR Zy PySem.F.slot_list_append PySem.F.type_list_append (Xy (Xa (x := 62)) (XH (x := 26))) (Xb (Yo (Xb (Xa (x := 34)) (Xb (Xa (x := 6)) Xg))) Xg)))
    (Xf (XV (Xy (Xy (Xa (x := 62)) (XH (x := 26))) (XhN Xs)) (XX (x := 37)))
    (Xf (YX (Yb YW (Xy (Xa (x := 6)) Xs) (XH (x := 2))) (Xf (XV (WE (Xhc (Xy (Xa (x := 62)) (XH (x := 14))) (Xbb (Xy (Xy (Xa (x := 62)) (XH (x := 3))) (Xy (Xa (x := 6)) Xs))))) (VF (Xa (x := 62)) (XH (x := 14))))
    (Xf (XV Ue (VF (Xy (Xa (x := 62)) (XH (x := 3))) (Xy (Xa (x := 6)) Xs)))
    (Xf (Zi (Yq (F.at 140) (KeepS.ref (F.at 141)) (YN (FS.le (ZT F))) (Xb (Xa (x := 62)) (Xb (Xa (x := 37)) (Xb Yc Xg)))))
    Xl))) (Xf (YX (Yb YW (Xy (Xa (x := 6)) Xs) (XH (x := 23))) (Xf (XV (WE (Xhc (Xy (Xa (x := 62)) (XH (x := 14))) (Xbb (XaS XaB (Xy (Xa (x := 62)) (XH (x := 13))) Yc)))) (VF (Xa (x := 62)) (XH (x := 14))))
    (Xf (XV Yc (VF (Xa (x := 62)) (XH (x := 13))))
    (Xf (Zi (Yq (F.at 140) (KeepS.ref (F.at 141)) (YN (FS.le (ZT F))) (Xb (Xa (x := 62)) (Xb (Xa (x := 37)) (Xb Yc Xg)))))
    Xl))) (Xf (YX (Yb YW (Xy (Xa (x := 6)) Xs) (XH (x := 7))) (Xf (XV (YL XeQ (Xy (Xa (x := 62)) (XH (x := 4))) Xs) (VF (Xa (x := 62)) (XH (x := 4))))
    (Xf (XV (WE (Xhc (Xy (Xa (x := 62)) (XH (x := 14))) (Xbb (XaS We (Xy (Xa (x := 62)) (XH (x := 4))) Xs)))) (VF (Xa (x := 62)) (XH (x := 14))))
    (Xf (Zi (Yq (F.at 140) (KeepS.ref (F.at 141)) (YN (FS.le (ZT F))) (Xb (Xa (x := 62)) (Xb (Xa (x := 37)) (Xb Yc Xg)))))
    Xl))) Xl)
    Xl))
    Xl))
    (Xf (XoL 10 (UN (ZJ (Xj8 (XaZ (Xy (Xa (x := 62)) (XH (x := 14))))) (ZJ (UN (XaD (XaZ (Yq (F.at 148) (KeepS.ref (F.at 149)) (YN (FS.le (Xch F))) (Xb (Xa (x := 62)) (Xb Xs Xg)))) (XaD (XaZ (Yq (F.at 148) (KeepS.ref (F.at 149)) (YN (FS.le (Xch F))) (Xb (Xa (x := 62)) (Xb Xs Xg)))) (XaD (XaZ (Yq (F.at 146) (KeepS.ref (F.at 147)) (YN (FS.le (XfI F))) (Xb (Xa (x := 62)) Xg))) XaA)))) Ub))) (Xf (XV Yc (XX (x := 37)))
    Xl))
    Xl))))
theorem Xhe {C : Wd} (F : KF C.K) : FS C 3 481 WD := ZA [62, 34, 6] [] (F.at 150).1 (F.at 150).2 (F.at 150).3 (Xg0 F) (fun s vs hl X => by
    refine @cps _ fun Γ γ => ?_
    obtain ⟨a, b, c, rfl⟩ := Xg5 hl
    refine γ ?_; clear γ Γ
    exact XK (F.at 150).4 (F.at 150).5 (fun fd => by with_unfolding_all rfl))
end
section
set_option maxHeartbeats 8000000
noncomputable def XeO : XM := (Xo (YE (Ua .scheduler none Xl6 (Xc 43) (Xe (Xc 34) Xi)) (XC 52)) (Xo (YZ (XN oNe (Yl .goroutine 39 (Xc 52)) (Xd (.str 1))) (Xo Wa Xp) Xp) (Xo (YE (Xd (.str 15)) (Zw .goroutine 39 (Xc 52))) (Xo (YE (Xd .none) (Zw .goroutine 42 (Xc 52))) (Xo (YE (Xc 29) (Zw .goroutine 29 (Xc 52))) Xp)))))
noncomputable def XdU : List MV → Sg → R MV := ZU [43, 34] [29] XeO
noncomputable def Xmo : Scope := scD (Ye (Xr 12) 5)
noncomputable def Xlg : List Stmt := bdD (Ye (Xr 12) 5)
theorem Xlj {C : Wd} (F : KF C.K) : XSs C 1 Xmo Xlg XeO :=
  (Xf (XV (ZS (nm := none) (c := .scheduler) ⟨(F.at 46), (F.at 71), (F.at 151).1, (F.at 151).2, (F.at 151).3⟩ (FS.le (XoR F)) (Xa (x := 43)) (Xb (Xa (x := 34)) Xg) (UL (by decide +kernel))) (XX (x := 52)))
    (Xf (YX (Yb VE (XP (Yi (c := .goroutine) (f := 39) (F.at 57) (F.at 4) (F.at 58)) (Xa (x := 52))) (ZG (F.at 60) (TopIs.str (x := 1)))) (Xf Xci
    Xl) Xl)
    (Xf (XV (ZG (F.at 8) (TopIs.str (x := 15))) (YH (ZR (c := .goroutine) (f := 39) (F.at 2) (F.at 3) (F.at 9) (F.at 4)) (Xa (x := 52))))
    (Xf (XV Yc (YH (ZR (c := .goroutine) (f := 42) (F.at 2) (F.at 3) (F.at 7) (F.at 4)) (Xa (x := 52))))
    (Xf (XV (Xa (x := 29)) (YH (ZR (c := .goroutine) (f := 29) (F.at 2) (F.at 3) (F.at 5) (F.at 4)) (Xa (x := 52))))
    Xl)))))
theorem XlV {C : Wd} (F : KF C.K) : FS C 2 157 XdU := ZA [43, 34] [29] (F.at 152) (F.at 153) (F.at 154) (Xlj F) (fun s vs hl X => by
    refine @cps _ fun Γ γ => ?_
    obtain ⟨a, b, rfl⟩ := Xay hl
    obtain ⟨T, cl, od, ep, sl, h1, h2⟩ := (F.at 156)
    refine γ ?_; clear γ Γ
    exact XhO X (F.at 155) h1 h2)
noncomputable def Xar : XM := (Xo (YE (Yw (Xe (XB Wg (Xe (Xc 65) (Xe (Xc 17) (Xe (Xc 4) Xi)))) (Xe (Xd (.int 0)) (Xe (XO Xi) Xi)))) (ZC 3 (ZQ (XC 62) (ZQ (XC 40) (ZQ (XC 8) XbA))))) (Xo (Xa0 (fun fr σ => Zf ((Xd (.int 40)) fr σ)) (XC 75) (Xo (YE (Zz (XI (Xc 62) (Xd (.str 26))) [] (XC 37) YU (XI (Xc 37) (Xd (.int 0)))) (XC 26)) (Xo (XaM (Vq (XB ZN (Xe (Xc 65) Xi)) [8, 26] (XC 34) (UO (XN Wq (Xc 34) (Xc 26)) (UO (XN Wq (Xc 34) (Xc 8)) YU)) (Xc 34)) 70) (Xo (YZ (XN oEq (Xc 70) (XO Xi)) (Xo (Zg (Yw (Xe (mIf (XN oNe (Xc 26) (XO Xi)) (Xd (.str 5)) (Xd (.str 12))) (Xe (XI (Xc 62) (Xd (.str 24))) (Xe (XI (Xc 62) (Xd (.str 7))) (Xe (XB XaJ (Xe (Xc 26) Xi)) Xi)))))) Xp) Xp) (Xo (YE (XI (Xc 70) (Xd (.int 0))) (XC 34)) (Xo (YZ (XN oGt (XB ZN (Xe (Xc 70) Xi)) (Xd (.int 1))) (Xo (VB (Yw (Xe (XI (Xc 70) (mIf (XN oLt (Xc 40) (XB ZN (Xe (Xc 48) Xi))) (YI XaT (XI (Xc 48) (Xc 40)) (XB ZN (Xe (Xc 70) Xi))) (Xd (.int 0)))) (Xe (YI UJ (Xc 40) (Xd (.int 1))) Xi))) [34, 40]) Xp) Xp) (Xo (YZ (XN oEq (XI (XI (Xc 62) (Xd (.str 7))) (Xc 34)) (XB ZN (Xe (XI (Xc 65) (Xc 34)) Xi))) (Xo (Zd (mLm Yt (Xc 8) (Xe (Xc 34) Xi))) (Xo (mFl .cont) Xp)) Xp) (Xo (Zd (XB WD (Xe (Xc 62) (Xe (Xc 34) (Xe (XI (XI (Xc 65) (Xc 34)) (XI (XI (Xc 62) (Xd (.str 7))) (Xc 34))) Xi))))) (Xo (YZ (UI (XI (Xc 62) (Xd (.str 14)))) (Xo (Zg (Yw (Xe (Xd (.str 14)) (Xe (Xd .none) (Xe (Xd .none) (Xe (XO Xi) Xi)))))) Xp) Xp) Xp))))))))) (Xo (Zg (Yw (Xe (Xd (.str 11)) (Xe (Xd .none) (Xe (Xd .none) (Xe (XO Xi) Xi)))))) Xp)))
noncomputable def VJ : List MV → Sg → R MV := ZU [65, 17, 4, 48] [] Xar
noncomputable def Xfg : Scope := scD (Xr 40)
noncomputable def XfY : List Stmt := bdD (Xr 40)
theorem XfO {C : Wd} (F : KF C.K) : XSs C 3 Xfg XfY Xar :=
  (Xf (XV (Yo (Xb (Yq (F.at 160) (KeepS.ref (F.at 161)) (YN (FS.le (XfB F))) (Xb (Xa (x := 65)) (Xb (Xa (x := 17)) (Xb (Xa (x := 4)) Xg)))) (Xb Xs (Xb (XL Xg) Xg)))) (VU (n := 3) (ZM (XX (x := 62)) (ZM (XX (x := 40)) (ZM (XX (x := 8)) Xaw)))) (hw := by intro env h; cases env; subst h; kernel_rfl))
    (Xf (XfV (F.at 119) Xs (XX (x := 75)) (Xf (XV (Wi (fs := []) (cok (by decide +kernel)) (Xy (Xa (x := 62)) (XH (x := 26))) (XX (x := 37)) Xaa (Xy (Xa (x := 37)) Xs)) (XX (x := 26)) (hs := by intro env h; cases env; subst h; kernel_rfl))
    (Xf (XdM (x := 70) (fs := [8, 26]) (F.at 119) (cok (by decide +kernel)) (YP (f := .builtin "len") (F.at 49) rfl KeepS.blt Vt (Xb (Xa (x := 65)) Xg)) (XX (x := 34)) (Xd2 (UN (ZJ (Yb XdW (Xa (x := 34)) (Xa (x := 26))) (ZJ (Yb XdW (Xa (x := 34)) (Xa (x := 8))) Ub)))) (Xa (x := 34)) (by decide +kernel) (by intro env h; cases env; subst h; kernel_rfl))
    (Xf (YX (Yb YW (Xa (x := 70)) (XL Xg)) (Xf (Yp (Yo (Xb (XcY (Yb VE (Xa (x := 26)) (XL Xg)) (XH (x := 5)) (XH (x := 12))) (Xb (Xy (Xa (x := 62)) (XH (x := 24))) (Xb (Xy (Xa (x := 62)) (XH (x := 7))) (Xb (YP (f := .builtin "sorted") (F.at 159) rfl KeepS.blt Xi5 (Xb (Xa (x := 26)) Xg)) Xg))))))
    Xl) Xl)
    (Xf (XV (Xy (Xa (x := 70)) Xs) (XX (x := 34)))
    (Xf (YX (Yb XfX (YP (f := .builtin "len") (F.at 49) rfl KeepS.blt Vt (Xb (Xa (x := 70)) Xg)) Xs) (Xf (Wx (xs := [34, 40]) (Yo (Xb (Xy (Xa (x := 70)) (XcY (Yb We (Xa (x := 40)) (YP (f := .builtin "len") (F.at 49) rfl KeepS.blt Vt (Xb (Xa (x := 48)) Xg))) (YL WU (Xy (Xa (x := 48)) (Xa (x := 40))) (YP (f := .builtin "len") (F.at 49) rfl KeepS.blt Vt (Xb (Xa (x := 70)) Xg))) Xs)) (Xb (YL Up (Xa (x := 40)) Xs) Xg))) (by decide +kernel) (by intro env h; cases env; subst h; kernel_rfl))
    Xl) Xl)
    (Xf (YX (Yb YW (Xy (Xy (Xa (x := 62)) (XH (x := 7))) (Xa (x := 34))) (YP (f := .builtin "len") (F.at 49) rfl KeepS.blt Vt (Xb (Xy (Xa (x := 65)) (Xa (x := 34))) Xg))) (Xf (Zi (UR Zy PySem.F.slot_list_append PySem.F.type_list_append (Xa (x := 8)) (Xb (Xa (x := 34)) Xg)))
    (Xf Xe8
    Xl)) Xl)
    (Xf (Zi (Yq (F.at 157) (KeepS.ref (F.at 158)) (YN (FS.le (Xhe F))) (Xb (Xa (x := 62)) (Xb (Xa (x := 34)) (Xb (Xy (Xy (Xa (x := 65)) (Xa (x := 34))) (Xy (Xy (Xa (x := 62)) (XH (x := 7))) (Xa (x := 34)))) Xg)))))
    (Xf (YX (XaZ (Xy (Xa (x := 62)) (XH (x := 14)))) (Xf (Yp (Yo (Xb (XH (x := 14)) (Xb Yc (Xb Yc (Xb (XL Xg) Xg))))))
    Xl) Xl)
    Xl)))))))))
    (Xf (Yp (Yo (Xb (XH (x := 11)) (Xb Yc (Xb Yc (Xb (XL Xg) Xg))))))
    Xl)))
theorem XeT {C : Wd} (F : KF C.K) : FS C 4 486 VJ := ZA [65, 17, 4, 48] [] (F.at 162).1 (F.at 162).2 (F.at 162).3 (XfO F) (fun s vs hl X => by
    refine @cps _ fun Γ γ => ?_
    obtain ⟨a, b, c, d, rfl⟩ := Xoz hl
    refine γ ?_; clear γ Γ
    exact XK (F.at 162).4 (F.at 162).5 (fun fd => by with_unfolding_all rfl))
end
section
set_option maxHeartbeats 8000000
noncomputable def XaR : XM := (Xo (YE (Xc 81) (ZC 5 (ZQ (XC 47) (ZQ (XC 10) (ZQ (XC 54) (ZQ (XC 24) (ZQ (XC 7) XbA))))))) (Xo (YZ (XN oEq (XI (Xc 6) (Xd (.int 0))) (Xd (.str 18))) (Xo (Zg (Ua .channel none Xdh (XI (Xc 47) (XI (Xc 6) (Xd (.int 1)))) (Xe (Yw (Xe (Xc 34) (Xe (XI (Xc 6) (Xd (.int 2))) (Xe (Xd .none) (Xe (Xd .none) Xi))))) Xi))) Xp) Xp) (Xo (YZ (XN oEq (XI (Xc 6) (Xd (.int 0))) (Xd (.str 22))) (Xo (Zg (Ua .channel (some 22) Xfz (XI (Xc 47) (XI (Xc 6) (Xd (.int 1)))) (Xe (Yw (Xe (Xc 34) (Xe (Xd .none) (Xe (Xd .none) (Xe (Xd .none) Xi))))) Xi))) Xp) Xp) (Xo (YZ (XN oEq (XI (Xc 6) (Xd (.int 0))) (Xd (.str 2))) (Xo (Zg (Ua .channel (some 2) Xdq (XI (Xc 47) (XI (Xc 6) (Xd (.int 1)))) Xi)) Xp) Xp) (Xo (Xk2 (Xer (XN oEq (XI (Xc 6) (Xd (.int 0))) (Xd (.str 10))) (XO (Xe (Ua .mutex (some 10) XfQ (Xc 10) (Xe (Xc 34) Xi)) Xi)) (XN oEq (XI (Xc 6) (Xd (.int 0))) (Xd (.str 25))) (XO (Xe (Ua .waitgroup (some 25) XfG (Xc 54) (Xe (Xc 34) Xi)) Xi)) (mIf (XN oEq (XI (Xc 6) (Xd (.int 0))) (Xd (.str 7))) (Ua .waitgroup (some 7) XcM (Xc 54) Xi) (XO (Xe (Ua .mutex (some 23) Xal (Xc 10) Xi) Xi))) 27)) (Xo (Zg (YI UJ (XO (Xe (Yw (Xe (Xd (.str 7)) Xi)) Xi)) (Zz (Xc 27) [] (XC 60) (XN Uz (Xc 60) (Xd .none)) (Yw (Xe (Xd (.str 27)) (Xe (Xc 60) (Xe (Xd .none) (Xe (Xd .none) (Xe (Yw (Xe (Xd (.str 21)) Xi)) Xi))))))))) Xp))))))
noncomputable def WK : List MV → Sg → R MV := ZU [81, 34, 6] [] XaR
noncomputable def XgE : Scope := scD (Xr 32)
noncomputable def Xgw : List Stmt := bdD (Xr 32)
theorem Xgr {C : Wd} (F : KF C.K) : Xhz C 6 XgE Xgw XaR :=
  (Xa8 (XV (Xa (x := 81)) (VU (n := 5) (ZM (XX (x := 47)) (ZM (XX (x := 10)) (ZM (XX (x := 54)) (ZM (XX (x := 24)) (ZM (XX (x := 7)) Xaw)))))) (hw := by intro env h; cases env; subst h; kernel_rfl))
    (Xa8 (YX (Yb YW (Xy (Xa (x := 6)) Xs) (XH (x := 18))) (Xf (Yp (ZS (nm := none) (c := .channel) ⟨(F.at 78), (F.at 89), (F.at 170).1, (F.at 170).2, (F.at 170).3⟩ (FS.le (Xj9 F)) (Xy (Xa (x := 47)) (Xy (Xa (x := 6)) Xs)) (Xb (Yo (Xb (Xa (x := 34)) (Xb (Xy (Xa (x := 6)) Xs) (Xb Yc (Xb Yc Xg))))) Xg) (UL (by decide +kernel))))
    Xl) Xl)
    (Xa8 (YX (Yb YW (Xy (Xa (x := 6)) Xs) (XH (x := 22))) (Xf (Yp (ZS (nm := (some 22)) (c := .channel) ⟨(F.at 78), (F.at 89), (F.at 169).1, (F.at 169).2, (F.at 169).3⟩ (FS.le (Xlm F)) (Xy (Xa (x := 47)) (Xy (Xa (x := 6)) Xs)) (Xb (Yo (Xb (Xa (x := 34)) (Xb Yc (Xb Yc (Xb Yc Xg))))) Xg) rfl))
    Xl) Xl)
    (Xa8 (YX (Yb YW (Xy (Xa (x := 6)) Xs) (XH (x := 2))) (Xf (Yp (ZS (nm := (some 2)) (c := .channel) ⟨(F.at 78), (F.at 89), (F.at 168).1, (F.at 168).2, (F.at 168).3⟩ (FS.le (Xjw F)) (Xy (Xa (x := 47)) (Xy (Xa (x := 6)) Xs)) Xg rfl))
    Xl) Xl)
    (Xjt F.kr (Yb YW (Xy (Xa (x := 6)) Xs) (XH (x := 10))) (XL (Xb (ZS (nm := (some 10)) (c := .mutex) ⟨(F.at 98), (F.at 163), (F.at 164).1, (F.at 164).2, (F.at 164).3⟩ (FS.le (Xlc F)) (Xa (x := 10)) (Xb (Xa (x := 34)) Xg) rfl) Xg)) (Yb YW (Xy (Xa (x := 6)) Xs) (XH (x := 25))) (XL (Xb (ZS (nm := (some 25)) (c := .waitgroup) ⟨(F.at 105), (F.at 109), (F.at 165).1, (F.at 165).2, (F.at 165).3⟩ (FS.le (Xmz F)) (Xa (x := 54)) (Xb (Xa (x := 34)) Xg) rfl) Xg)) (XcY (Yb YW (Xy (Xa (x := 6)) Xs) (XH (x := 7))) (ZS (nm := (some 7)) (c := .waitgroup) ⟨(F.at 105), (F.at 109), (F.at 166).1, (F.at 166).2, (F.at 166).3⟩ (FS.le (XlO F)) (Xa (x := 54)) Xg rfl) (XL (Xb (ZS (nm := (some 23)) (c := .mutex) ⟨(F.at 98), (F.at 163), (F.at 167).1, (F.at 167).2, (F.at 167).3⟩ (FS.le (XiI F)) (Xa (x := 10)) Xg rfl) Xg)))
    (Xf (Yp (YL Up (XL (Xb (Yo (Xb (XH (x := 7)) Xg)) Xg)) (Wi (fs := []) (cok (by decide +kernel)) (Xa (x := 27)) (XX (x := 60)) (Xd2 (Yb Um (Xa (x := 60)) Yc)) (Yo (Xb (XH (x := 27)) (Xb (Xa (x := 60)) (Xb Yc (Xb Yc (Xb (Yo (Xb (XH (x := 21)) Xg)) Xg)))))))))
    Xl))))))
theorem XgF {C : Wd} (F : KF C.K) : FS C 7 436 WK := Xoa [81, 34, 6] [] (F.at 171).1 (F.at 171).2 (F.at 171).3 (Xgr F) (fun s vs hl X => by
    refine @cps _ fun Γ γ => ?_
    obtain ⟨a, b, c, rfl⟩ := Xg5 hl
    refine γ ?_; clear γ Γ
    exact XK (F.at 171).4 (F.at 171).5 (fun fd => by with_unfolding_all rfl))
end
section
set_option maxHeartbeats 8000000
noncomputable def XbJ : XM := (Xo (VB (Yw (Xe (XB Wf (Xe (Xc 17) (Xe (XB ZN (Xe (Xc 65) Xi)) (Xe (Xc 4) Xi)))) (Xe (XB (Wo .scheduler ZP) (Xe (XB (Wo .choices Uj) (Xe (Xc 48) Xi)) Xi)) Xi))) [81, 67]) (Xo (VB (Yw (Xe (XI (Xc 81) (Xd (.int 3))) (Xe (XI (Xc 81) (Xd (.int 4))) Xi))) [24, 7]) (Xo (Xaj (Xc 65) (XC 64) (Xo (Zd (Ua .scheduler none Xbd (Xc 67) Xi)) Xp)) (Xo (Xa0 (fun fr σ => Zf ((Xd (.int 40)) fr σ)) (XC 75) (Xo (YE (Ua .scheduler none Wj (Xc 67) Xi) (XC 60)) (Xo (YZ (XN oIs (Xc 60) (Xd .none)) (Xo (mFl .brk) Xp) Xp) (Xo (YZ (XN oEq (XI (Xc 7) (Yl .goroutine 34 (Xc 60))) (XB ZN (Xe (XI (Xc 65) (Yl .goroutine 34 (Xc 60))) Xi))) (Xo (Zd (Ua .scheduler none Xgm (Xc 67) Xi)) (Xo (mFl .cont) Xp)) Xp) (Xo (Xaj (XB WK (Xe (Xc 81) (Xe (Yl .goroutine 34 (Xc 60)) (Xe (XI (XI (Xc 65) (Yl .goroutine 34 (Xc 60))) (XI (Xc 7) (Yl .goroutine 34 (Xc 60)))) Xi)))) (XC 37) (Xo (YZ (mOr (XN oEq (XI (Xc 37) (Xd (.int 0))) (Xd (.str 14))) (mOr (UO (XN oEq (XI (Xc 37) (Xd (.int 0))) (Xd (.str 27))) (UO (XN oEq (XI (XI (Xc 37) (Xd (.int 4))) (Xd (.int 0))) (Xd (.str 14))) YU)) WQ)) (Xo (Zg (Yw (Xe (Xd (.str 14)) (Xe (Xc 24) (Xe (Xc 7) (Xe (XO Xi) Xi)))))) Xp) Xp) (Xo (YZ (XN oEq (XI (Xc 37) (Xd (.int 0))) (Xd (.str 1))) (Xo (Zd (Ua .scheduler none XbY (Xc 67) (Xe (Xd (.str 6)) Xi))) (Xo (mFl .cont) Xp)) Xp) (Xo (YE (mIf (XN oEq (XI (Xc 37) (Xd (.int 0))) (Xd (.str 7))) (Yw (Xe (Yl .goroutine 34 (Xc 60)) (Xe (Xc 37) Xi))) (Yw (Xe (XI (Xc 37) (Xd (.int 1))) (Xe (XI (Xc 37) (Xd (.int 4))) Xi)))) (ZC 2 (ZQ (XC 53) (ZQ (XC 73) XbA)))) (Xo (YZ (XN oEq (XB ZN (Xe (Xc 73) Xi)) (Xd (.int 3))) (Xo (Zd (mLm Yt (XI (Xc 24) (Xc 53)) (Xe (XgD 1 (Xc 73)) Xi))) Xp) Xp) (Xo (YE (YI UJ (XI (Xc 7) (Xc 53)) (Xd (.int 1))) (Ws (Xc 7) (Xc 53))) (Xo (YZ (XN oEq (XI (Xc 37) (Xd (.int 0))) (Xd (.str 27))) (Xo (Zd (Ua .scheduler none XdU (Xc 67) (Xe (Xc 53) Xi))) Xp) Xp) Xp))))))) Xp))))) (Xo (XaM (Zz (Ua .scheduler none UG (Xc 67) Xi) [] (XC 37) YU (XI (Xc 37) (Xd (.int 0)))) 26) (Xo (Zg (Yw (Xe (mIf (UI (Ua .scheduler none UU (Xc 67) Xi)) (Xd (.str 5)) (Xd (.str 12))) (Xe (Xc 24) (Xe (Xc 7) (Xe (Xc 26) Xi)))))) Xp))))))
noncomputable def Vh : List MV → Sg → R MV := ZU [65, 17, 4, 48] [] XbJ
noncomputable def Xhu : Scope := scD (Xr 33)
noncomputable def Xhg : List Stmt := bdD (Xr 33)
theorem XhH {C : Wd} (F : KF C.K) : XSs C 7 Xhu Xhg XbJ :=
  (Xf (Wx (xs := [81, 67]) (Yo (Xb (Yq (F.at 191) (KeepS.ref (F.at 192)) (YN (FS.le (XfE F))) (Xb (Xa (x := 17)) (Xb (YP (f := .builtin "len") (F.at 49) rfl KeepS.blt Vt (Xb (Xa (x := 65)) Xg)) (Xb (Xa (x := 4)) Xg)))) (Xb (Yq (F.at 186) (KeepS.ref (F.at 187)) (CS.le (XcS (c := .scheduler) (F.at 188) (F.at 189) (F.at 190) (Xbx F))) (Xb (Yq (F.at 181) (KeepS.ref (F.at 182)) (CS.le (XcS (c := .choices) (F.at 183) (F.at 184) (F.at 185) (Xcp F))) (Xb (Xa (x := 48)) Xg)) Xg)) Xg))) (by decide +kernel) (by intro env h; cases env; subst h; kernel_rfl))
    (Xf (Wx (xs := [24, 7]) (Yo (Xb (Xy (Xa (x := 81)) Xs) (Xb (Xy (Xa (x := 81)) Xs) Xg))) (by decide +kernel) (by intro env h; cases env; subst h; kernel_rfl))
    (Xf (Xdo (Xa (x := 65)) (XX (x := 64)) (Xf (Zi (ZS (nm := none) (c := .scheduler) ⟨(F.at 46), (F.at 71), (F.at 180).1, (F.at 180).2, (F.at 180).3⟩ (FS.le (Xkp F)) (Xa (x := 67)) Xg (UL (by decide +kernel))))
    Xl))
    (Xf (XfV (F.at 119) Xs (XX (x := 75)) (Xf (XV (ZS (nm := none) (c := .scheduler) ⟨(F.at 46), (F.at 71), (F.at 179).1, (F.at 179).2, (F.at 179).3⟩ (FS.le (XiR F)) (Xa (x := 67)) Xg (UL (by decide +kernel))) (XX (x := 60)))
    (Xf (YX (Yb XaB (Xa (x := 60)) Yc) (Xf XnB
    Xl) Xl)
    (Xf (YX (Yb YW (Xy (Xa (x := 7)) (XP (Yi (c := .goroutine) (f := 34) (F.at 57) (F.at 4) (F.at 76)) (Xa (x := 60)))) (YP (f := .builtin "len") (F.at 49) rfl KeepS.blt Vt (Xb (Xy (Xa (x := 65)) (XP (Yi (c := .goroutine) (f := 34) (F.at 57) (F.at 4) (F.at 76)) (Xa (x := 60)))) Xg))) (Xf (Zi (ZS (nm := none) (c := .scheduler) ⟨(F.at 46), (F.at 71), (F.at 178).1, (F.at 178).2, (F.at 178).3⟩ (FS.le (Xn7 F)) (Xa (x := 67)) Xg (UL (by decide +kernel))))
    (Xf Xe8
    Xl)) Xl)
    (Xf (Xdo (Yq (F.at 174) (KeepS.ref (F.at 175)) (YN (FS.le (XgF F))) (Xb (Xa (x := 81)) (Xb (XP (Yi (c := .goroutine) (f := 34) (F.at 57) (F.at 4) (F.at 76)) (Xa (x := 60))) (Xb (Xy (Xy (Xa (x := 65)) (XP (Yi (c := .goroutine) (f := 34) (F.at 57) (F.at 4) (F.at 76)) (Xa (x := 60)))) (Xy (Xa (x := 7)) (XP (Yi (c := .goroutine) (f := 34) (F.at 57) (F.at 4) (F.at 76)) (Xa (x := 60))))) Xg)))) (XX (x := 37)) (Xf (YX (UN (XaD (Yb YW (Xy (Xa (x := 37)) Xs) (XH (x := 14))) (XaD (UN (ZJ (Yb YW (Xy (Xa (x := 37)) Xs) (XH (x := 27))) (ZJ (Yb YW (Xy (Xy (Xa (x := 37)) Xs) Xs) (XH (x := 14))) Ub))) XaA))) (Xf (Yp (Yo (Xb (XH (x := 14)) (Xb (Xa (x := 24)) (Xb (Xa (x := 7)) (Xb (XL Xg) Xg))))))
    Xl) Xl)
    (Xf (YX (Yb YW (Xy (Xa (x := 37)) Xs) (XH (x := 1))) (Xf (Zi (ZS (nm := none) (c := .scheduler) ⟨(F.at 46), (F.at 71), (F.at 177).1, (F.at 177).2, (F.at 177).3⟩ (FS.le (Xkg F)) (Xa (x := 67)) (Xb (XH (x := 6)) Xg) (UL (by decide +kernel))))
    (Xf Xe8
    Xl)) Xl)
    (Xf (XV (XcY (Yb YW (Xy (Xa (x := 37)) Xs) (XH (x := 7))) (Yo (Xb (XP (Yi (c := .goroutine) (f := 34) (F.at 57) (F.at 4) (F.at 76)) (Xa (x := 60))) (Xb (Xa (x := 37)) Xg))) (Yo (Xb (Xy (Xa (x := 37)) Xs) (Xb (Xy (Xa (x := 37)) Xs) Xg)))) (VU (n := 2) (ZM (XX (x := 53)) (ZM (XX (x := 73)) Xaw))) (hw := by intro env h; cases env; subst h; kernel_rfl))
    (Xf (YX (Yb YW (YP (f := .builtin "len") (F.at 49) rfl KeepS.blt Vt (Xb (Xa (x := 73)) Xg)) Xs) (Xf (Zi (UR Zy PySem.F.slot_list_append PySem.F.type_list_append (Xy (Xa (x := 24)) (Xa (x := 53))) (Xb (XlX (n := 1) (Xa (x := 73))) Xg)))
    Xl) Xl)
    (Xf (XV (YL Up (Xy (Xa (x := 7)) (Xa (x := 53))) Xs) (VF (Xa (x := 7)) (Xa (x := 53))))
    (Xf (YX (Yb YW (Xy (Xa (x := 37)) Xs) (XH (x := 27))) (Xf (Zi (ZS (nm := none) (c := .scheduler) ⟨(F.at 46), (F.at 71), (F.at 176).1, (F.at 176).2, (F.at 176).3⟩ (FS.le (XlV F)) (Xa (x := 67)) (Xb (Xa (x := 53)) Xg) (UL (by decide +kernel))))
    Xl) Xl)
    Xl)))))))
    Xl)))))
    (Xf (XgM (x := 26) (fs := []) (cok (by decide +kernel)) (ZS (nm := none) (c := .scheduler) ⟨(F.at 46), (F.at 71), (F.at 173).1, (F.at 173).2, (F.at 173).3⟩ (FS.le (Xde F)) (Xa (x := 67)) Xg (UL (by decide +kernel))) (XX (x := 37)) Xaa (Xy (Xa (x := 37)) Xs) (by decide +kernel) (by intro env h; cases env; subst h; kernel_rfl))
    (Xf (Yp (Yo (Xb (XcY (XaZ (ZS (nm := none) (c := .scheduler) ⟨(F.at 46), (F.at 71), (F.at 172).1, (F.at 172).2, (F.at 172).3⟩ (FS.le (Xcy F)) (Xa (x := 67)) Xg (UL (by decide +kernel)))) (XH (x := 5)) (XH (x := 12))) (Xb (Xa (x := 24)) (Xb (Xa (x := 7)) (Xb (Xa (x := 26)) Xg))))))
    Xl))))))
theorem XdH {C : Wd} (F : KF C.K) : FS C 8 441 Vh := ZA [65, 17, 4, 48] [] (F.at 193).1 (F.at 193).2 (F.at 193).3 (XhH F) (fun s vs hl X => by
    refine @cps _ fun Γ γ => ?_
    obtain ⟨a, b, c, d, rfl⟩ := Xoz hl
    refine γ ?_; clear γ Γ
    exact XK (F.at 193).4 (F.at 193).5 (fun fd => by with_unfolding_all rfl))
noncomputable def Xho : XM := (Xo (YE (XB VY (Xe (Xc 68) (Xe (Xd (.int 0)) Xi))) (XC 71)) (Xo (VB (Yw (Xe (XO (Xe (XB XW (Xe (Xc 71) (Xe (Xd (.int 2)) Xi))) (Xe (XB XW (Xe (Xc 71) (Xe (Xd (.int 2)) Xi))) Xi))) (Xe (YI UJ (Xd (.int 1)) (XB XW (Xe (Xc 71) (Xe (Xd (.int 2)) Xi)))) Xi))) [17, 4]) (Xo (XaM (Vq (YI UJ (Xd (.int 2)) (XB XW (Xe (Xc 71) (Xe (Xd (.int 2)) Xi)))) [71] (XC 34) YU (XB VI (Xe (Xc 71) (Xe (Xc 34) Xi)))) 65) (Xo (XaM (Vq (Xd (.int 8)) [71] (XC 75) YU (XB XW (Xe (Xc 71) (Xe (Xd (.int 6)) Xi)))) 48) (Xo (VB (Yw (Xe (XB Vh (Xe (Xc 65) (Xe (Xc 17) (Xe (Xc 4) (Xe (Xc 48) Xi))))) (Xe (XB VJ (Xe (Xc 65) (Xe (Xc 17) (Xe (Xc 4) (Xe (Xc 48) Xi))))) Xi))) [73, 50]) (Xo (YZ (mOr (XN oNe (XI (Xc 73) (Xd (.int 0))) (XI (Xc 50) (Xd (.int 0)))) (mOr (UO (XN oNe (XI (Xc 73) (Xd (.int 0))) (Xd (.str 14))) (UO (XN oNe (Xc 73) (Xc 50)) YU)) WQ)) (Xo (Zg (Xd (.bool false))) Xp) Xp) (Xo (Zg (YI oEq (XB Vh (Xe (XO (Xe (XO (Xe (Yw (Xe (Xd (.str 22)) (Xe (Xd (.int 0)) Xi))) Xi)) Xi)) (Xe (XO (Xe (Xd (.int 0)) (Xe (Xd (.int 0)) Xi))) (Xe (Xd (.int 1)) (Xe (XO Xi) Xi))))) (Yw (Xe (Xd (.str 5)) (Xe (XO (Xe (XO Xi) Xi)) (Xe (XO (Xe (Xd (.int 0)) Xi)) (Xe (XO (Xe (Xd (.int 0)) Xi)) Xi))))))) Xp)))))))
noncomputable def XkD : List MV → Sg → R MV := ZU [68] [] Xho
noncomputable def Xm2 : Scope := scD (Xr 41)
noncomputable def Xng : List Stmt := bdD (Xr 41)
theorem Xn2 {C : Wd} (F : KF C.K) : XSs C 8 Xm2 Xng Xho :=
  (Xf (XV (Yq (F.at 200) (KeepS.ref (F.at 201)) (YN (FS.le (Xgi F))) (Xb (Xa (x := 68)) (Xb Xs Xg))) (XX (x := 71)))
    (Xf (Wx (xs := [17, 4]) (Yo (Xb (XL (Xb (Yq (F.at 117) (KeepS.ref (F.at 118)) (YN (FS.le (Uv F))) (Xb (Xa (x := 71)) (Xb Xs Xg))) (Xb (Yq (F.at 117) (KeepS.ref (F.at 118)) (YN (FS.le (Uv F))) (Xb (Xa (x := 71)) (Xb Xs Xg))) Xg))) (Xb (YL Up Xs (Yq (F.at 117) (KeepS.ref (F.at 118)) (YN (FS.le (Uv F))) (Xb (Xa (x := 71)) (Xb Xs Xg)))) Xg))) (by decide +kernel) (by intro env h; cases env; subst h; kernel_rfl))
    (Xf (XdM (x := 65) (fs := [71]) (F.at 119) (cok (by decide +kernel)) (YL Up Xs (Yq (F.at 117) (KeepS.ref (F.at 118)) (YN (FS.le (Uv F))) (Xb (Xa (x := 71)) (Xb Xs Xg)))) (XX (x := 34)) Xaa (Yq (F.at 198) (KeepS.ref (F.at 199)) (YN (FS.le (Xe3 F))) (Xb (Xa (x := 71)) (Xb (Xa (x := 34)) Xg))) (by decide +kernel) (by intro env h; cases env; subst h; kernel_rfl))
    (Xf (XdM (x := 48) (fs := [71]) (F.at 119) (cok (by decide +kernel)) Xs (XX (x := 75)) Xaa (Yq (F.at 117) (KeepS.ref (F.at 118)) (YN (FS.le (Uv F))) (Xb (Xa (x := 71)) (Xb Xs Xg))) (by decide +kernel) (by intro env h; cases env; subst h; kernel_rfl))
    (Xf (Wx (xs := [73, 50]) (Yo (Xb (Yq (F.at 194) (KeepS.ref (F.at 195)) (YN (FS.le (XdH F))) (Xb (Xa (x := 65)) (Xb (Xa (x := 17)) (Xb (Xa (x := 4)) (Xb (Xa (x := 48)) Xg))))) (Xb (Yq (F.at 196) (KeepS.ref (F.at 197)) (YN (FS.le (XeT F))) (Xb (Xa (x := 65)) (Xb (Xa (x := 17)) (Xb (Xa (x := 4)) (Xb (Xa (x := 48)) Xg))))) Xg))) (by decide +kernel) (by intro env h; cases env; subst h; kernel_rfl))
    (Xf (YX (UN (XaD (Yb VE (Xy (Xa (x := 73)) Xs) (Xy (Xa (x := 50)) Xs)) (XaD (UN (ZJ (Yb VE (Xy (Xa (x := 73)) Xs) (XH (x := 14))) (ZJ (Yb VE (Xa (x := 73)) (Xa (x := 50))) Ub))) XaA))) (Xf (Yp Ue)
    Xl) Xl)
    (Xf (Yp (XaS YW (Yq (F.at 194) (KeepS.ref (F.at 195)) (YN (FS.le (XdH F))) (Xb (XL (Xb (XL (Xb (Yo (Xb (XH (x := 22)) (Xb Xs Xg))) Xg)) Xg)) (Xb (XL (Xb Xs (Xb Xs Xg))) (Xb Xs (Xb (XL Xg) Xg))))) (Yo (Xb (XH (x := 5)) (Xb (XL (Xb (XL Xg) Xg)) (Xb (XL (Xb Xs Xg)) (Xb (XL (Xb Xs Xg)) Xg)))))))
    Xl)))))))
theorem Xnb {C : Wd} (F : KF C.K) : FS C 9 491 XkD := ZA [68] [] (F.at 202).1 (F.at 202).2 (F.at 202).3 (Xn2 F) (fun s vs hl X => by
    obtain ⟨a, rfl⟩ := Xbq hl
    exact XK (F.at 202).4 (F.at 202).5 (fun fd => by with_unfolding_all rfl))
end
section
set_option genInjectivity false in
structure PH where
  k0 : List MV
  k1 : List MV
  x : List MV
  ow : MV
  cn : MV
  ws : List MV
  vals : List (List MV)
  dn : List MV
  pn : MV
noncomputable def Xdd (b : Nat) (rm : MV) (p : PH) : List (Sy × MV) := [(9, .ref (b + 3)), (17, rm), (3, .ref (b + 4)), (13, p.ow), (4, p.cn), (26, .ref (b + 5)), (24, .ref (b + 6)), (7, .ref (b + 8 + p.vals.length)), (14, p.pn)]
noncomputable def Xio (b n : Nat) : List MV := (List.range n).map fun i => .ref (b + 7 + i)
noncomputable def pL (b : Nat) (rm : MV) (p : PH) (G : Sg) : Sg :=
  .dict (Xdd b rm p) :: .list p.k0 :: .list p.k1 :: .list [.ref (b + 1), .ref (b + 2)] :: .list p.x :: .list p.ws :: .list (Xio b p.vals.length) :: (p.vals.map MO.list ++ (.list [.int 0] :: .list p.dn :: G))
noncomputable def pH (S : Sg) (rm : MV) (p : PH) (G : Sg) : Sg := S ++ pL S.length rm p G
section
variable {S G : Sg} {rm : MV} {p : PH}
theorem Ux {S L : Sg} {k : Nat} : (S ++ L)[S.length + k]? = L[k]? := by
  rw [List.getElem?_append_right (Nat.le_add_right _ _), Nat.add_sub_cancel_left]
theorem WT {S L : Sg} {k : Nat} {o : MO} : (S ++ L).set (S.length + k) o = S ++ L.set k o := by
  rw [List.set_append_right _ _ (Nat.le_add_right _ _), Nat.add_sub_cancel_left]
theorem Xct {j : Nat} {o : MO} (h : S[j]? = some o) : (pH S rm p G)[j]? = some o := by
  unfold pH
  rw [List.getElem?_append_left (List.getElem?_eq_some_iff.mp h).1]; exact h
theorem XmO : (pH S rm p G)[S.length]? = some (.dict (Xdd S.length rm p)) := by
  have := Ux (S := S) (L := pL S.length rm p G) (k := 0); simpa [pH, pL] using this
theorem Xpk : (pH S rm p G)[S.length + 1]? = some (.list p.k0) := by unfold pH; rw [Ux]; rfl
theorem XpB : (pH S rm p G)[S.length + 2]? = some (.list p.k1) := by unfold pH; rw [Ux]; rfl
theorem Xo7 : (pH S rm p G)[S.length + 3]? = some (.list [.ref (S.length + 1), .ref (S.length + 2)]) := by unfold pH; rw [Ux]; rfl
theorem XnE : (pH S rm p G)[S.length + 4]? = some (.list p.x) := by unfold pH; rw [Ux]; rfl
theorem Xo9 : (pH S rm p G)[S.length + 5]? = some (.list p.ws) := by unfold pH; rw [Ux]; rfl
theorem Xpd : (pH S rm p G)[S.length + 6]? = some (.list (Xio S.length p.vals.length)) := by unfold pH; rw [Ux]; rfl
theorem p_v {i : Nat} {l : List MV} (h : p.vals[i]? = some l) : (pH S rm p G)[S.length + 7 + i]? = some (.list l) := by
  unfold pH
  rw [Nat.add_assoc, Ux]
  have hi := (List.getElem?_eq_some_iff.mp h).1
  show (_ :: _ :: _ :: _ :: _ :: _ :: _ :: (p.vals.map MO.list ++ _))[7 + i]? = _
  rw [Nat.add_comm 7 i]
  simp only [List.getElem?_cons_succ]
  rw [List.getElem?_append_left (by simpa using hi), List.getElem?_map, h]; rfl
theorem XoG : (pH S rm p G)[S.length + 8 + p.vals.length]? = some (.list p.dn) := by
  unfold pH
  rw [Nat.add_assoc, Ux]
  show (_ :: _ :: _ :: _ :: _ :: _ :: _ :: (p.vals.map MO.list ++ _))[8 + p.vals.length]? = _
  rw [show 8 + p.vals.length = (p.vals.map MO.list).length + 1 + 7 by simp; lia]
  simp only [List.getElem?_cons_succ]
  rw [List.getElem?_append_right (by lia), Nat.add_sub_cancel_left]; rfl
theorem XoW {o : MO} : pH S rm p G ++ [o] = pH S rm p (G ++ [o]) := by
  simp [pH, pL, List.append_assoc]
theorem Xj5 {l : List MV} : (pH S rm p G).set (S.length + 1) (.list l) = pH S rm { p with k0 := l } G := by unfold pH; rw [WT]; rfl
theorem Xjg {l : List MV} : (pH S rm p G).set (S.length + 2) (.list l) = pH S rm { p with k1 := l } G := by unfold pH; rw [WT]; rfl
theorem Xgy {l : List MV} : (pH S rm p G).set (S.length + 4) (.list l) = pH S rm { p with x := l } G := by unfold pH; rw [WT]; rfl
theorem Xks {l : List MV} : (pH S rm p G).set (S.length + 5) (.list l) = pH S rm { p with ws := l } G := by unfold pH; rw [WT]; rfl
theorem XcH {o c q : MV} : (pH S rm p G).set S.length (.dict (Xdd S.length rm { p with ow := o, cn := c, pn := q })) = pH S rm { p with ow := o, cn := c, pn := q } G := by
  have := WT (S := S) (L := pL S.length rm p G) (k := 0) (o := .dict (Xdd S.length rm { p with ow := o, cn := c, pn := q }))
  unfold pH
  rw [Nat.add_zero] at this
  rw [this]; rfl
theorem Xlf {i : Nat} {l : List MV} (h : i < p.vals.length) : (pH S rm p G).set (S.length + 7 + i) (.list l) = pH S rm { p with vals := p.vals.set i l } G := by
  unfold pH
  rw [Nat.add_assoc, WT]
  congr 1
  show (_ :: _ :: _ :: _ :: _ :: _ :: _ :: (p.vals.map MO.list ++ _)).set (7 + i) _ = _
  rw [Nat.add_comm 7 i]
  simp only [List.set_cons_succ]
  rw [List.set_append_left _ _ (by simpa using h)]
  simp [pL, Xdd, List.map_set]
theorem Xjk {l : List MV} : (pH S rm p G).set (S.length + 8 + p.vals.length) (.list l) = pH S rm { p with dn := l } G := by
  unfold pH
  rw [Nat.add_assoc, WT]
  congr 1
  show (_ :: _ :: _ :: _ :: _ :: _ :: _ :: (p.vals.map MO.list ++ _)).set (8 + p.vals.length) _ = _
  rw [show 8 + p.vals.length = (p.vals.map MO.list).length + 1 + 7 by simp; lia]
  simp only [List.set_cons_succ]
  rw [List.set_append_right _ _ (by lia), Nat.add_sub_cancel_left]
  simp [pL, Xdd]
end
theorem YC {σ : Sg} {o : MO} : (σ ++ [o])[σ.length]? = some o := by simp
theorem Yv {σ : Sg} {o o' : MO} {i : Nat} (h : σ[i]? = some o) : (σ ++ [o'])[i]? = some o := by
  rw [List.getElem?_append_left (List.getElem?_eq_some_iff.mp h).1]; exact h
theorem Xco {σ : Sg} {o o' : MO} : (σ ++ [o]).set σ.length o' = σ ++ [o'] := by
  rw [List.set_append_right _ _ (Nat.le_refl _), Nat.sub_self]; rfl
theorem XbP {x : Sy} {I : Fr → Prop} (hI : ∀ fr v, I fr → I (fset fr x v)) {f : MV → Option MV} {p : BM} {e : EM} {σ : Sg} {i : Nat} {l : List MV} (hi : σ[i]? = some (.list l)) (hlen : l.length < 1000)
    (hp : ∀ v ∈ l, ∀ fr acc, I fr → p (fset fr x v) (σ ++ [.list acc]) = .ok (f v).isSome (σ ++ [.list acc])) (he : ∀ v ∈ l, ∀ y, f v = some y → ∀ fr acc, I fr → e (fset fr x v) (σ ++ [.list acc]) = .ok y (σ ++ [.list acc])) :
    ∀ (n k : Nat) (fr : Fr) (acc : List MV), n + k = l.length → acc.length ≤ k → I fr → Uk (nxL i) (XC x) p e σ.length (n + 1) k fr (σ ++ [.list acc]) = .ok (.ref σ.length) (σ ++ [.list (acc ++ (l.drop k).filterMap f)])
  | 0, k, fr, acc, hn, ha, hfr => by
    have : l[k]? = none := List.getElem?_eq_none (by lia)
    have hd : l.drop k = [] := List.drop_eq_nil_of_le (by lia)
    simp only [Uu, nxL, Yv hi, this, hd, List.filterMap_nil, List.append_nil]
  | n + 1, k, fr, acc, hn, ha, hfr => by
    have hk : k < l.length := by lia
    have hv : l[k]? = some l[k] := List.getElem?_eq_getElem hk
    have hd : l.drop k = l[k] :: l.drop (k + 1) := List.drop_eq_getElem_cons hk
    have hm : l[k] ∈ l := List.getElem_mem hk
    rw [Uu]
    simp only [nxL, Yv hi, hv, XC, Zf, R.bind]
    rw [hp _ hm fr acc hfr]
    simp only [Zf]
    cases hf : f l[k] with
    | none =>
      simp only [Option.isSome_none, Bool.false_eq_true, if_false]
      have ih := XbP hI hi hlen hp he n (k + 1) (fset fr x l[k]) acc (by lia) (by lia) (hI _ _ hfr)
      rw [ih, hd, List.filterMap_cons_none hf]
    | some y =>
      simp only [Option.isSome_some, if_true]
      rw [he _ hm y hf fr acc hfr]
      simp only [Vo, YC, Xco]
      rw [UY (by lia)]
      simp only
      have ih := XbP hI hi hlen hp he n (k + 1) (fset fr x l[k]) (acc ++ [y]) (by lia) (by simp; lia) (hI _ _ hfr)
      rw [ih, hd, List.filterMap_cons_some hf]
      simp
theorem XaQ {x : Sy} {I : Fr → Prop} (hI : ∀ fr v, I fr → I (fset fr x v)) {f : Nat → Option MV} {p : BM} {e : EM} {σ : Sg} {m : Nat} (hlen : m < 1000)
    (hp : ∀ v, v < m → ∀ fr acc, I fr → p (fset fr x (.int v)) (σ ++ [.list acc]) = .ok (f v).isSome (σ ++ [.list acc])) (he : ∀ v, v < m → ∀ y, f v = some y → ∀ fr acc, I fr → e (fset fr x (.int v)) (σ ++ [.list acc]) = .ok y (σ ++ [.list acc])) :
    ∀ (n k : Nat) (fr : Fr) (acc : List MV), n + k = m → acc.length ≤ k → I fr → Uk (nxR m) (XC x) p e σ.length (n + 1) k fr (σ ++ [.list acc]) = .ok (.ref σ.length) (σ ++ [.list (acc ++ ((List.range m).drop k).filterMap f)])
  | 0, k, fr, acc, hn, ha, hfr => by
    have hd : (List.range m).drop k = [] := List.drop_eq_nil_of_le (by simp; lia)
    rw [Uu, nxR, if_neg (by lia), hd]
    simp
  | n + 1, k, fr, acc, hn, ha, hfr => by
    have hk : k < (List.range m).length := by simp; lia
    have hd : (List.range m).drop k = k :: (List.range m).drop (k + 1) := by rw [List.drop_eq_getElem_cons hk]; simp
    rw [Uu, nxR, if_pos (by lia)]
    simp only [XC, Zf, R.bind]
    rw [hp k (by lia) fr acc hfr]
    simp only [Zf]
    cases hf : f k with
    | none =>
      simp only [Option.isSome_none, Bool.false_eq_true, if_false]
      have ih := XaQ hI hlen hp he n (k + 1) (fset fr x (.int k)) acc (by lia) (by lia) (hI _ _ hfr)
      rw [ih, hd, List.filterMap_cons_none hf]
    | some y =>
      simp only [Option.isSome_some, if_true]
      rw [he k (by lia) y hf fr acc hfr]
      simp only [Vo, YC, Xco]
      rw [UY (by lia)]
      simp only
      have ih := XaQ hI hlen hp he n (k + 1) (fset fr x (.int k)) (acc ++ [y]) (by lia) (by simp; lia) (hI _ _ hfr)
      rw [ih, hd, List.filterMap_cons_some hf]
      simp
end
section
theorem XdJ {α : Type} {g : α → MV} {x : Sy} {I : Fr → Prop} (hI : ∀ fr v, I fr → I (fset fr x v)) {hit : α → Bool} {body : XM} {σ : Sg} {i : Nat} {rows : List α} (hi : σ[i]? = some (.list (rows.map g)))
    (hb : ∀ r ∈ rows, ∀ fr, I fr → body (fset fr x (g r)) σ = if hit r then .ok (.ret (g r), fset fr x (g r)) σ else .ok (.next, fset fr x (g r)) σ) :
    ∀ (n k : Nat) (fr : Fr), n + k = rows.length → I fr → ∃ fr', I fr' ∧ loopI (nxL i) (XC x) body (n + 1) k fr σ = match (rows.drop k).find? hit with
      | some r => .ok (.ret (g r), fr') σ
      | none => .ok (.next, fr') σ
  | 0, k, fr, hn, hfr => by
    have : (rows.map g)[k]? = none := List.getElem?_eq_none (by simp; lia)
    have hd : rows.drop k = [] := List.drop_eq_nil_of_le (by lia)
    refine ⟨fr, hfr, ?_⟩
    simp only [loopI, nxL, hi, this, hd, List.find?_nil]
  | n + 1, k, fr, hn, hfr => by
    have hk : k < rows.length := by lia
    have hv : (rows.map g)[k]? = some (g rows[k]) := by simp [hk]
    have hd : rows.drop k = rows[k] :: rows.drop (k + 1) := List.drop_eq_getElem_cons hk
    have hm : rows[k] ∈ rows := List.getElem_mem hk
    have hbk := hb _ hm fr hfr
    cases hh : hit rows[k] with
    | true =>
      rw [hh, if_pos rfl] at hbk
      refine ⟨_, hI fr (g rows[k]) hfr, ?_⟩
      rw [hd, List.find?_cons_of_pos hh, UW]
      simp only [nxL, hi, hv, XC, R.bind]
      rw [hbk]
      rfl
    | false =>
      rw [hh, if_neg Bool.false_ne_true] at hbk
      obtain ⟨fr', h1, h2⟩ := XdJ hI hi hb n (k + 1) (fset fr x (g rows[k])) (by lia) (hI _ _ hfr)
      refine ⟨fr', h1, ?_⟩
      rw [hd, List.find?_cons_of_neg (by simp [hh]), ← h2, UW]
      simp only [nxL, hi, hv, XC, R.bind]
      rw [hbk]
      rfl
set_option genInjectivity false in
inductive Dd where
  | send (c : Bool) (v : Int)
  | take (c : Bool)
  | close (c : Bool)
  | lock | unlock | wait | done
noncomputable def cI (c : Bool) : Int := if c then 1 else 0
theorem XmK (a b : Bool) : (cI a == cI b) = (a == b) := by cases a <;> cases b <;> rfl
noncomputable def Dd.mv : Dd → MV
  | .send c v => .tup [.str 18, .int (cI c), .int v]
  | .take c => .tup [.str 22, .int (cI c)]
  | .close c => .tup [.str 2, .int (cI c)]
  | .lock => .tup [.str 10]
  | .unlock => .tup [.str 23]
  | .wait => .tup [.str 25]
  | .done => .tup [.str 7]
noncomputable abbrev Row := Nat × Dd
noncomputable def Zh (r : Row) : MV := .tup [.int r.1, r.2.mv]
noncomputable def oMV : Option Row → MV
  | some r => Zh r
  | none => .none
set_option genInjectivity false in
inductive Wk where
  | send (c : Bool) | take (c : Bool) | lock | wait
noncomputable def Wk.hits : Wk → Dd → Bool
  | .send c, .send c' _ => c' == c
  | .take c, .take c' => c' == c
  | .lock, .lock => true
  | .wait, .wait => true
  | _, _ => false
noncomputable def Wk.word : Wk → Sy
  | .send _ => 18
  | .take _ => 22
  | .lock => 10
  | .wait => 25
noncomputable def Wk.chan : Wk → MV
  | .send c => .int (cI c)
  | .take c => .int (cI c)
  | _ => .none
theorem WA {S G : Sg} {rm : MV} {p : PH} {x : Sy} {v : MV} (h : (Xdd S.length rm p).lookup x = some v) : Zx (.ref S.length) (.str x) (pH S rm p G) = .ok v (pH S rm p G) := by
  unfold Zx; dsimp only; rw [XmO]; dsimp only; rw [h]; rfl
theorem XjD (a b : Int) : PyData.eqv (.tuple [.int a]) (.tuple [.int b]) = (a == b) := by simp [PyData.eqv, PyData.eqvAll]
theorem Xlv : PyData.eqv (.tuple []) (.tuple []) = true := by simp [PyData.eqv, PyData.eqvAll]
theorem Xnu (a : PyData) : PyData.eqv (.tuple [a]) (.tuple []) = false := by simp [PyData.eqv, PyData.eqvAll]
theorem XnH (a : PyData) : PyData.eqv (.tuple []) (.tuple [a]) = false := by simp [PyData.eqv, PyData.eqvAll]
theorem Xew {σ : Sg} {a b : MV} {x y : PyData} (hx : VK σ 8 a = some x) (hy : VK σ 8 b = some y) (hl : XdA σ a b = false) : oEq a b σ = .ok (.bool (PyData.eqv x y)) σ := by
  unfold oEq; rw [hl, mvEq_G]; unfold XdV; rw [hx, hy]; rfl
theorem XmU {σ : Sg} {a b : MV} {x y : PyData} (hx : VK σ 8 a = some x) (hy : VK σ 8 b = some y) (hl : XdA σ a b = false) : oNe a b σ = .ok (.bool (!PyData.eqv x y)) σ := by
  unfold oNe; rw [hl, mvEq_G]; unfold XdV; rw [hx, hy]; rfl
theorem Xep {σ : Sg} {i j : Nat} {l l' : List MV} (h : σ[i]? = some (.list l)) (h' : σ[j]? = some (.list l')) : XdA σ (.ref i) (.ref j) = (l.length != l'.length) := by
  show ((lsO σ[i]?).bind fun l => (lsO σ[j]?).map (l.length != ·.length)).getD false = _
  rw [h, h']; rfl
theorem Xmn {σ : Sg} (a b : Int) : oEq (.tup [.int a]) (.tup [.int b]) σ = .ok (.bool (a == b)) σ := by rw [← XjD]; exact Xew rfl rfl rfl
theorem XnJ {σ : Sg} : oEq (.tup []) (.tup []) σ = .ok (.bool true) σ := by rw [← Xlv]; exact Xew rfl rfl rfl
theorem XpI {σ : Sg} (a : Int) : oEq (.tup [.int a]) (.tup []) σ = .ok (.bool false) σ := by rw [← Xnu (.int a)]; exact Xew rfl rfl rfl
theorem XpH {σ : Sg} (a : Int) : oEq (.tup []) (.tup [.int a]) σ = .ok (.bool false) σ := by rw [← XnH (.int a)]; exact Xew rfl rfl rfl
theorem ZX {σ : Sg} {a b : Sy} : oEq (.str a) (.str b) σ = .ok (.bool (a.eqb b)) σ := rfl
theorem XfM {σ : Sg} {a b : Sy} : oEq (.str a) (.str b) σ = .ok (.bool (decide (a = b))) σ := by rw [ZX, Sy.eqb_eq]
theorem Xag {σ : Sg} (a b : Int) : oEq (.int a) (.int b) σ = .ok (.bool (a == b)) σ := rfl
theorem Xpj {σ : Sg} {l : List MV} {n : Nat} {v : MV} (h : l[n]? = some v) (hn : n < 100) : Zx (.tup l) (.int n) σ = .ok v σ := by
  show rO (idx l (n : Int)) σ = _
  unfold idx
  rw [if_pos (by lia), if_pos (by lia)]
  simp [h, rO]
theorem Vb {σ : Sg} {a : MV} {l : List MV} : Zx (.tup (a :: l)) (.int 0) σ = .ok a σ := rfl
theorem Xab {σ : Sg} {a b : MV} {l : List MV} : Zx (.tup (a :: b :: l)) (.int 1) σ = .ok b σ := rfl
theorem Xhr {σ : Sg} {a b c : MV} {l : List MV} : Zx (.tup (a :: b :: c :: l)) (.int 2) σ = .ok c σ := rfl
theorem ZE {σ : Sg} (a : Int) : Uz (.int a) .none σ = .ok (.bool true) σ := rfl
theorem YY {σ : Sg} : Uz .none .none σ = .ok (.bool false) σ := rfl
theorem Xpv {σ : Sg} {a : MV} {l : List MV} : o12 (.tup (a :: l)) σ = .ok (.tup (l.take 1)) σ := rfl
theorem Xhk {σ : Sg} (w : Wk) (r : Row) {fr : Fr} (h1 : fr.lookup 80 = some (.str w.word)) (h2 : fr.lookup 46 = some w.chan) :
      (Xo (YZ (UO (XN oEq (XI (XI (Xc 37) (Xd (.int 1))) (Xd (.int 0))) (Xc 80)) (UO (XN oEq (m12 (XI (Xc 37) (Xd (.int 1)))) (mIf (XN Uz (Xc 46) (Xd .none)) (Yw (Xe (Xc 46) Xi)) (Yw Xi))) YU)) (Xo (Zg (Xc 37)) Xp) Xp) Xp) (fset fr 37 (Zh r)) σ =
      if w.hits r.2 then .ok (.ret (Zh r), fset fr 37 (Zh r)) σ else .ok (.next, fset fr 37 (Zh r)) σ := by
  have l1 : (fset fr 37 (Zh r)).lookup 37 = some (Zh r) := by rw [Xh, if_pos rfl]
  have l2 : (fset fr 37 (Zh r)).lookup 80 = some (.str w.word) := by rw [Xh, if_neg (by decide), h1]
  have l3 : (fset fr 37 (Zh r)).lookup 46 = some w.chan := by rw [Xh, if_neg (by decide), h2]
  generalize fset fr 37 (Zh r) = f at l1 l2 l3 ⊢
  obtain ⟨n, d⟩ := r
  cases w <;> cases d <;> simp only [Xk, Xj, Xm, XE, Xt, Ym, XF, Xz, Ui, Ze, Zc, Ug, Vf, XY, XZ, XR, XA, Xx, Xv, Xn, Yx, Yy, Xbr, Ys, Yg, Yn, Xw, XD, Xq, XG, Sy.eqb, Fin.reduceBEq, l1, l2, l3, Zh, Xab, Vb, Dd.mv, ZX, Wk.word, Wk.hits, Xpv, Wk.chan, ZE, YY, List.take, Xmn, XnJ, List.length_cons, List.length_nil, Bool.false_eq_true, if_false, if_true, UY (show 0 + 1 < 1000000 by lia), UY (show 0 < 1000000 by lia)]
  · rename_i c c' v
    rw [XmK]
    rcases Bool.eq_false_or_eq_true (c' == c) with h | h <;> simp only [h, Xk, Xj, Ze, Zc, Ug, XZ, XR, Yg, Yn, Xw, XD, Xq, XG, l1, Zh, Dd.mv, Bool.false_eq_true, if_false, if_true]
  · rename_i c c'
    rw [XmK]
    rcases Bool.eq_false_or_eq_true (c' == c) with h | h <;> simp only [h, Xk, Xj, Ze, Zc, Ug, XZ, XR, Yg, Yn, Xw, XD, Xq, XG, l1, Zh, Dd.mv, Bool.false_eq_true, if_false, if_true]
theorem f1 {a : MV} {x : Sy} {m : XM} {σ : Sg} : ZU [x] [] m [a] σ = Xc9 (m [(x, a)] σ) := by rw [Xgj rfl]; rfl
theorem f2 {a b : MV} {x y : Sy} {m : XM} {σ : Sg} : ZU [x, y] [] m [a, b] σ = Xc9 (m [(x, a), (y, b)] σ) := by rw [Xgj rfl]; rfl
theorem f3 {a b c : MV} {x y z : Sy} {m : XM} {σ : Sg} : ZU [x, y, z] [] m [a, b, c] σ = Xc9 (m [(x, a), (y, b), (z, c)] σ) := by rw [Xgj rfl]; rfl
theorem f4 {a b c d : MV} {x y z w : Sy} {m : XM} {σ : Sg} : ZU [x, y, z, w] [] m [a, b, c, d] σ = Xc9 (m [(x, a), (y, b), (z, c), (w, d)] σ) := by rw [Xgj rfl]; rfl
theorem f2d {a b : MV} {x y z : Sy} {m : XM} {σ : Sg} : ZU [x, y] [z] m [a, b] σ = Xc9 (m [(x, a), (y, b), (z, .none)] σ) := by rw [Xgj rfl]; rfl
section
variable {S G : Sg} {rm : MV} {p : PH}
theorem Xns : Zx (.ref S.length) (.str 9) (pH S rm p G) = .ok (.ref (S.length + 3)) (pH S rm p G) := WA rfl
theorem Xmd : Zx (.ref S.length) (.str 17) (pH S rm p G) = .ok rm (pH S rm p G) := WA rfl
theorem Xkv : Zx (.ref S.length) (.str 3) (pH S rm p G) = .ok (.ref (S.length + 4)) (pH S rm p G) := WA rfl
theorem XlU : Zx (.ref S.length) (.str 13) (pH S rm p G) = .ok p.ow (pH S rm p G) := WA rfl
theorem Xmc : Zx (.ref S.length) (.str 4) (pH S rm p G) = .ok p.cn (pH S rm p G) := WA rfl
theorem XhX : Zx (.ref S.length) (.str 26) (pH S rm p G) = .ok (.ref (S.length + 5)) (pH S rm p G) := WA rfl
theorem XjL : Zx (.ref S.length) (.str 24) (pH S rm p G) = .ok (.ref (S.length + 6)) (pH S rm p G) := WA rfl
theorem Xnw : Zx (.ref S.length) (.str 7) (pH S rm p G) = .ok (.ref (S.length + 8 + p.vals.length)) (pH S rm p G) := WA rfl
theorem Xmp : Zx (.ref S.length) (.str 14) (pH S rm p G) = .ok p.pn (pH S rm p G) := WA rfl
end
theorem XlS {S G : Sg} {rm : MV} {p : PH} {rows : List Row} (hw : p.ws = rows.map Zh) (w : Wk) :
    ZH [.ref S.length, .str w.word, w.chan] (pH S rm p G) = .ok (oMV (rows.find? fun r => w.hits r.2)) (pH S rm p G) := by
  unfold ZH
  rw [f3]
  unfold Xao
  rw [Xw]
  unfold Xaj
  simp only [Xk, Xj, Xm, XE, Xt, Ym, Yz, Sy.eqb, Fin.reduceBEq, cond_true, cond_false, XhX]
  have h5 := Xo9 (S := S) (rm := rm) (p := p) (G := G)
  rw [hw] at h5
  simp only [R.bind, h5]
  obtain ⟨fr', h1, h2⟩ := XdJ (g := Zh) (x := 37) (I := fun fr => fr.lookup 80 = some (.str w.word) ∧ fr.lookup 46 = some w.chan) (fun fr v h => ⟨by rw [Xh, if_neg (by decide)]; exact h.1, by rw [Xh, if_neg (by decide)]; exact h.2⟩)
    (hit := fun r => w.hits r.2) h5 (fun r _ fr h => Xhk w r h.1 h.2) rows.length 0 [(62, .ref S.length), (80, .str w.word), (46, w.chan)] (by simp) ⟨rfl, rfl⟩
  simp only [List.length_map]
  rw [h2, List.drop_zero]
  cases rows.find? fun r => w.hits r.2 with
  | some r => rfl
  | none => rfl
end
section
noncomputable abbrev Vl := Option Int × Bool
noncomputable def oI : Option Int → MV
  | some i => .int i
  | none => .none
noncomputable def vMV (v : Vl) : MV := .tup [oI v.1, .bool v.2]
noncomputable def oN : Option Nat → MV
  | some i => .int i
  | none => .none
set_option genInjectivity false in
structure Ps where
  ow : Option Nat
  vals : Nat → List Vl
  dn : Nat → Nat
  ws : List Row
  cn : Int
  x : Bool → Bool
  pn : Bool
  k : Bool → List Int
noncomputable def upd {α : Type} (f : Nat → α) (i : Nat) (v : α) : Nat → α := fun j => if j = i then v else f j
noncomputable def ubd {α : Type} (f : Bool → α) (i : Bool) (v : α) : Bool → α := fun j => if j = i then v else f j
noncomputable def Ps.ph (n : Nat) (s : Ps) : PH := { k0 := (s.k false).map .int, k1 := (s.k true).map .int, x := [.bool (s.x false), .bool (s.x true)], ow := oN s.ow, cn := .int s.cn, ws := s.ws.map Zh, vals := (List.range n).map fun i => (s.vals i).map vMV, dn := (List.range n).map fun i => .int (s.dn i), pn := .bool s.pn }
noncomputable def pS (S : Sg) (rm : MV) (n : Nat) (s : Ps) (G : Sg) : Sg := pH S rm (s.ph n) G
theorem XcC {α β : Type} {n i : Nat} {f : Nat → α} {g : α → β} {v : α} : ((List.range n).map fun j => g (upd f i v j)) = ((List.range n).map fun j => g (f j)).set i (g v) := by
  apply List.ext_getElem? 
  intro j
  rw [List.getElem?_set]
  simp only [List.getElem?_map, List.length_map, List.length_range]
  by_cases hj : j < n
  · rw [List.getElem?_range hj]
    simp only [Option.map_some, upd]
    by_cases h : i = j
    · subst h; simp [hj]
    · rw [if_neg h, if_neg (fun e => h e.symm)]
  · rw [List.getElem?_eq_none (by simpa using hj)]
    simp; lia
section
variable {S G : Sg} {rm : MV} {n : Nat} {s : Ps}
theorem Xml : (s.ph n).vals.length = n := by simp [Ps.ph]
theorem XnL : Zx (.ref S.length) (.str 9) (pS S rm n s G) = .ok (.ref (S.length + 3)) (pS S rm n s G) := Xns
theorem Xit : Zx (.ref S.length) (.str 17) (pS S rm n s G) = .ok rm (pS S rm n s G) := Xmd
theorem Wm : Zx (.ref S.length) (.str 3) (pS S rm n s G) = .ok (.ref (S.length + 4)) (pS S rm n s G) := Xkv
theorem XeN : Zx (.ref S.length) (.str 13) (pS S rm n s G) = .ok (oN s.ow) (pS S rm n s G) := XlU
theorem XeK : Zx (.ref S.length) (.str 4) (pS S rm n s G) = .ok (.int s.cn) (pS S rm n s G) := Xmc
theorem Xap : Zx (.ref S.length) (.str 26) (pS S rm n s G) = .ok (.ref (S.length + 5)) (pS S rm n s G) := XhX
theorem XdT : Zx (.ref S.length) (.str 24) (pS S rm n s G) = .ok (.ref (S.length + 6)) (pS S rm n s G) := XjL
theorem XcG : Zx (.ref S.length) (.str 7) (pS S rm n s G) = .ok (.ref (S.length + 8 + n)) (pS S rm n s G) := by
  have := Xnw (S := S) (rm := rm) (p := s.ph n) (G := G)
  rw [Xml] at this; exact this
theorem Wu : Zx (.ref S.length) (.str 14) (pS S rm n s G) = .ok (.bool s.pn) (pS S rm n s G) := Xmp
theorem Zr {σ : Sg} {i j : Nat} {l : List MV} {v : MV} (h : σ[i]? = some (.list l)) (hv : l[j]? = some v) (hj : j < 1000) : Zx (.ref i) (.int j) σ = .ok v σ := by
  unfold Zx; dsimp only; rw [h]; dsimp only; unfold idx
  rw [if_pos (by lia), if_pos (by lia)]
  simp [hv, rO]
theorem Xbi {σ : Sg} {i j : Nat} {l : List MV} {v : MV} (h : σ[i]? = some (.list l)) (hj : j < l.length) (h2 : j < 1000) : ZZ v (.ref i) (.int j) σ = .ok () (σ.set i (.list (l.set j v))) := by
  simp only [ZZ, h]
  rw [if_pos ⟨by lia, by lia, by lia⟩]; rfl
theorem set_own {x : Sy} {v : MV} {p q : PH} (h : Xhp (Xdd S.length rm p) x v = Xdd S.length rm q) (h1 : (Xdd S.length rm p).any (fun p => p.1 = x) = true)
    (e : pH S rm q G = (pH S rm p G).set S.length (.dict (Xdd S.length rm q))) : ZZ v (.ref S.length) (.str x) (pH S rm p G) = .ok () (pH S rm q G) := by
  simp only [ZZ, XmO]
  rw [if_pos ⟨h1, by show 9 < 1000; lia⟩, h, e]
theorem Xin {o : Option Nat} : ZZ (oN o) (.ref S.length) (.str 13) (pS S rm n s G) = .ok () (pS S rm n { s with ow := o } G) :=
  set_own (p := s.ph n) (q := { s with ow := o }.ph n) rfl rfl (XcH (p := s.ph n) (o := oN o) (c := .int s.cn) (q := .bool s.pn)).symm
theorem Xkb : ZZ .none (.ref S.length) (.str 13) (pS S rm n s G) = .ok () (pS S rm n { s with ow := none } G) := Xin (o := none)
theorem Xjr {i : Nat} : ZZ (.int i) (.ref S.length) (.str 13) (pS S rm n s G) = .ok () (pS S rm n { s with ow := some i } G) := Xin (o := some i)
theorem XlN {c : Int} : ZZ (.int c) (.ref S.length) (.str 4) (pS S rm n s G) = .ok () (pS S rm n { s with cn := c } G) :=
  set_own (p := s.ph n) (q := { s with cn := c }.ph n) rfl rfl (XcH (p := s.ph n) (o := oN s.ow) (c := .int c) (q := .bool s.pn)).symm
theorem Xdj {b : Bool} : ZZ (.bool b) (.ref S.length) (.str 14) (pS S rm n s G) = .ok () (pS S rm n { s with pn := b } G) :=
  set_own (p := s.ph n) (q := { s with pn := b }.ph n) rfl rfl (XcH (p := s.ph n) (o := oN s.ow) (c := .int s.cn) (q := .bool b)).symm
theorem Xfy {l : List Row} : (pS S rm n s G).set (S.length + 5) (.list (l.map Zh)) = pS S rm n { s with ws := l } G := Xks (p := s.ph n)
theorem XjK : (pS S rm n s G)[S.length + 8 + n]? = some (.list (s.ph n).dn) := by
  have := XoG (S := S) (rm := rm) (p := s.ph n) (G := G)
  rw [Xml] at this; exact this
theorem XmA {i v : Nat} : (pS S rm n s G).set (S.length + 8 + n) (.list ((s.ph n).dn.set i (.int v))) = pS S rm n { s with dn := upd s.dn i v } G := by
  have := Xjk (S := S) (rm := rm) (p := s.ph n) (G := G) (l := (s.ph n).dn.set i (.int v))
  rw [Xml] at this
  unfold pS
  rw [this]
  congr 1
  simp only [Ps.ph]
  rw [XcC (g := fun d : Nat => MV.int d)]
theorem XmF {i : Nat} (h : i < n) : (pS S rm n s G)[S.length + 7 + i]? = some (.list ((s.vals i).map vMV)) :=
  p_v (p := s.ph n) (by simp [Ps.ph, h])
theorem Xnv {i : Nat} {l : List Vl} (h : i < n) : (pS S rm n s G).set (S.length + 7 + i) (.list (l.map vMV)) = pS S rm n { s with vals := upd s.vals i l } G := by
  have := Xlf (S := S) (rm := rm) (p := s.ph n) (G := G) (i := i) (l := l.map vMV) (by rw [Xml]; exact h)
  unfold pS
  rw [this]
  congr 1
  simp only [Ps.ph]
  rw [XcC (g := fun l : List Vl => l.map vMV)]
theorem Xds {i : Nat} (h : i < n) (h2 : n < 1000) : Zx (.ref (S.length + 8 + n)) (.int i) (pS S rm n s G) = .ok (.int (s.dn i)) (pS S rm n s G) :=
  Zr XjK (by simp [Ps.ph, h]) (by lia)
theorem Xev {i d : Nat} (h : i < n) (h2 : n < 1000) : ZZ (.int ((d : Int) + 1)) (.ref (S.length + 8 + n)) (.int i) (pS S rm n s G) = .ok () (pS S rm n { s with dn := upd s.dn i (d + 1) } G) := by
  rw [Xbi XjK (by simp [Ps.ph, h]) (by lia)]
  have := XmA (S := S) (rm := rm) (n := n) (s := s) (G := G) (i := i) (v := d + 1)
  rw [← this]; rfl
theorem XnZ {i : Nat} (h : i < n) (h2 : n < 1000) : Zx (.ref (S.length + 6)) (.int i) (pS S rm n s G) = .ok (.ref (S.length + 7 + i)) (pS S rm n s G) :=
  Zr Xpd (by simp [Xio, Ps.ph, h]) (by lia)
theorem VG : (pS S rm n s G)[S.length + 5]? = some (.list (s.ws.map Zh)) := Xo9
theorem Wh {o : MO} : pS S rm n s G ++ [o] = pS S rm n s (G ++ [o]) := XoW
theorem Xdn (w : Wk) : ZH [.ref S.length, .str w.word, w.chan] (pS S rm n s G) = .ok (oMV (s.ws.find? fun r => w.hits r.2)) (pS S rm n s G) := XlS rfl w
end
noncomputable def Dd.py : Dd → PyData
  | .send c v => .tuple [.str ((18 : Sy)).s, .int (cI c), .int v]
  | .take c => .tuple [.str ((22 : Sy)).s, .int (cI c)]
  | .close c => .tuple [.str ((2 : Sy)).s, .int (cI c)]
  | .lock => .tuple [.str ((10 : Sy)).s]
  | .unlock => .tuple [.str ((23 : Sy)).s]
  | .wait => .tuple [.str ((25 : Sy)).s]
  | .done => .tuple [.str ((7 : Sy)).s]
theorem Xlx {σ : Sg} {n : Nat} (d : Dd) : VK σ (n + 1) d.mv = some d.py := by cases d <;> cases n <;> rfl
theorem XgP {σ : Sg} (r : Row) : VK σ 8 (Zh r) = some (.tuple [.int r.1, r.2.py]) := by
  show ((VK σ 7 (.int r.1)).bind fun d => ((VK σ 7 r.2.mv).bind fun d => some [d]).map (d :: ·)).map PyData.tuple = _
  rw [Xlx]; rfl
theorem XnM (d : Dd) : PyData.eqv d.py d.py = true := by cases d <;> simp [Dd.py, PyData.eqv, PyData.eqvAll]
theorem Xen {σ : Sg} (r q : Row) : Xc4 σ (Zh r) (Zh q) = some (PyData.eqv (.tuple [.int r.1, r.2.py]) (.tuple [.int q.1, q.2.py])) := by
  rw [mvEq_G]; unfold XdV; rw [XgP, XgP]; rfl
theorem Xi6 {σ : Sg} (r : Row) : Xc4 σ (Zh r) (Zh r) = some true := by
  rw [Xen]
  simp [PyData.eqv, PyData.eqvAll, XnM]
theorem XiX {σ : Sg} {r q : Row} (h : r.1 ≠ q.1) : Xc4 σ (Zh r) (Zh q) = some false := by
  rw [Xen]
  have : (r.1 : Int) ≠ (q.1 : Int) := by lia
  simp [PyData.eqv, PyData.eqvAll, this]
theorem Xge {σ : Sg} {r : Row} (rows : List Row) : (rows.map Prod.fst).Nodup → r ∈ rows → ∃ j, XbL σ (Zh r) (rows.map Zh) = some j ∧ (rows.map Zh).eraseIdx j = (rows.filter (fun q => decide (q.1 ≠ r.1))).map Zh := by
  induction rows with
  | nil =>
    intro _ h
    cases h
  | cons q rows ih =>
    intro hn h
    simp only [List.map_cons, List.nodup_cons] at hn
    by_cases hq : q.1 = r.1
    · have e : q = r := by
        rcases List.mem_cons.mp h with h | h
        · exact h.symm
        · exact absurd (hq ▸ List.mem_map_of_mem h) hn.1
      subst e
      refine ⟨0, by simp [XdE, Xi6], ?_⟩
      simp only [List.map_cons, List.eraseIdx_zero, List.tail_cons]
      rw [List.filter_cons_of_neg (by simp), List.filter_eq_self.mpr]
      intro p hp
      simp only [decide_eq_true_eq]
      intro e
      exact hn.1 (e ▸ List.mem_map_of_mem hp)
    · have h' : r ∈ rows := by
        rcases List.mem_cons.mp h with h | h
        · exact absurd (by rw [h]) hq
        · exact h
      obtain ⟨j, h1, h2⟩ := ih hn.2 h'
      refine ⟨j + 1, by simp [XdE, XiX hq, h1], ?_⟩
      simp only [List.map_cons, List.eraseIdx_cons_succ, h2]
      rw [List.filter_cons_of_pos (by simp [hq])]
      rfl
noncomputable def Ps.go (j : Nat) (v : Option Vl) (s : Ps) : Ps :=
  { s with ws := s.ws.filter (fun q => decide (q.1 ≠ j)), dn := upd s.dn j (s.dn j + 1), vals := match v with | some v => upd s.vals j (s.vals j ++ [v]) | none => s.vals }
noncomputable def oV : Option Vl → MV
  | some v => vMV v
  | none => .none
theorem Xan {σ : Sg} {r : Row} : Zx (Zh r) (.int 0) σ = .ok (.int r.1) σ := rfl
theorem XbK {σ : Sg} {r : Row} : Zx (Zh r) (.int 1) σ = .ok r.2.mv σ := rfl
theorem Xl8 {σ : Sg} {v : Vl} : Uz (vMV v) .none σ = .ok (.bool true) σ := rfl
theorem Zm {σ : Sg} {v : Row} : Uz (Zh v) .none σ = .ok (.bool true) σ := rfl
theorem XlR {S G : Sg} {rm : MV} {n : Nat} {s : Ps} (r : Row) (v : Option Vl) (hn : (s.ws.map Prod.fst).Nodup) (hr : r ∈ s.ws) (hl : r.1 < n) (h1 : n < 1000) (h2 : s.ws.length < 1000) (h3 : (s.vals r.1).length < 1000) :
    YM [.ref S.length, Zh r, oV v] (pS S rm n s G) = .ok (.bool true) (pS S rm n (s.go r.1 v) G) := by
  obtain ⟨j, e1, e2⟩ := Xge (σ := pS S rm n s G) s.ws hn hr
  unfold YM
  rw [f3]
  unfold XaE
  cases v with
  | none =>
    simp only [Xk, Xj, Xm, YT, XE, Xt, Ym, XF, Xz, XY, XR, XA, Xx, Xv, Xn, Xu, UH, Yg, Yn, YK, YD, Yj, Yk, XJ, YB, Zn, Zo, YO, Xw, XD, Xq, XG, Yz, rI, Sy.eqb, Fin.reduceBEq, cond_true, cond_false, Xap, Vv VG, Uh VG, Xb9, e1, e2, List.length_map, UY (show s.ws.length < 1000000 by lia), Xfy, XcG, Xan, Xds hl h1, UJ, Xev hl h1, oV, YY]
    rfl
  | some v =>
    simp only [Xk, Xj, Xm, YT, XE, Xt, Ym, XF, Xz, XY, XZ, XA, Xx, Xv, Xn, UH, YK, YD, Yj, Yk, XJ, YB, Zn, Zo, YO, Xw, XD, Yz, rI, Sy.eqb, Fin.reduceBEq, cond_true, cond_false, Xap, Vv VG, Uh VG, Xb9, e1, e2, List.length_map, UY (show s.ws.length < 1000000 by lia), Xfy, XcG, Xan, Xds hl h1, UJ, Xev hl h1, oV, Xl8, XdT, XnZ hl h1, Vv (XmF hl), Uh (XmF hl), Yt]
    rw [UY (by simpa using (by lia : (s.vals r.1).length + 1 < 1000000)), show List.map vMV (s.vals r.1) ++ [vMV v] = (s.vals r.1 ++ [v]).map vMV by simp]
    simp only [Xnv hl, Xm, Xu, Yg, Yn, YD, Xw, XD, Xq, XG]
    rfl
end
section
noncomputable def Dd.val : Dd → Int
  | .send _ v => v
  | _ => 0
noncomputable def Ps.q (s : Ps) (w : Wk) : Option Row := s.ws.find? fun r => w.hits r.2
noncomputable def Ps.mv (rm : Bool → Int) (s : Ps) (c : Bool) : Bool × Ps :=
  match s.q (.send c), s.q (.take c), s.k c with
  | some d, t, k => if s.x c then (false, { s with pn := true }) else match t, k with
    | some t, v :: k => (true, ({ s with k := ubd s.k c k } : Ps).go t.1 (some (some v, true)))
    | some t, [] => (true, (s.go d.1 none).go t.1 (some (some d.2.val, true)))
    | none, k => if (k.length : Int) < rm c then (true, ({ s with k := ubd s.k c (k ++ [d.2.val]) } : Ps).go d.1 none) else (false, s)
  | none, some t, v :: k => (true, ({ s with k := ubd s.k c k } : Ps).go t.1 (some (some v, true)))
  | none, some t, [] => if s.x c then (true, s.go t.1 (some (none, false))) else (false, s)
  | none, none, _ => (false, s)
noncomputable def kR (S : Sg) (c : Bool) : Nat := if c then S.length + 2 else S.length + 1
structure Ps.W (rm : Bool → Int) (n : Nat) (L : Nat → Nat) (s : Ps) : Prop where
  nd : (s.ws.map Prod.fst).Nodup
  lt : ∀ r ∈ s.ws, r.1 < n ∧ s.dn r.1 < L r.1
  dl : ∀ i, s.dn i ≤ L i
  vl : ∀ i, (s.vals i).length ≤ s.dn i
  kl : ∀ c, ((s.k c).length : Int) ≤ rm c
  rl : ∀ c, rm c ≤ 1
  n3 : n ≤ 3
  l4 : ∀ i, L i ≤ 4
theorem XnG (n : Nat) : ∀ {l : List Nat}, l.Nodup → (∀ i ∈ l, i < n) → l.length ≤ n := by
  induction n with
  | zero =>
    intro l _ k
    cases l with
    | nil => exact Nat.le_refl _
    | cons a l => exact absurd (k a (.head _)) (Nat.not_lt_zero _)
  | succ n ih =>
    intro l h k
    have := ih (h.erase n) fun i hi => Nat.lt_of_le_of_ne (Nat.le_of_lt_succ (k i (h.mem_erase_iff.1 hi).2)) (h.mem_erase_iff.1 hi).1
    rw [List.length_erase] at this
    split at this
    · exact Nat.le_add_of_sub_le this
    · exact Nat.le_succ_of_le this
theorem XnF {l : List Nat} : l.Nodup → (∀ i ∈ l, i < 3) → l.length ≤ 3 := XnG 3
section
variable {S G : Sg} {j n : Nat} {s : Ps} {rm : Bool → Int} {L : Nat → Nat}
theorem Ps.W.wl (w : s.W rm n L) : s.ws.length ≤ 3 := by
  have := XnF w.nd (fun i hi => by
    obtain ⟨r, hr, rfl⟩ := List.mem_map.mp hi
    exact Nat.lt_of_lt_of_le (w.lt r hr).1 w.n3)
  simpa using this
theorem Ps.W.vs (w : s.W rm n L) (i : Nat) : (s.vals i).length < 1000 := by
  exact Xnc (Nat.le_trans (w.vl i) (w.dl i)) (w.l4 i) (by decide)
theorem Ps.W.goes {rmv : MV} (w : s.W rm n L) (r : Row) (v : Option Vl) (hr : r ∈ s.ws) : YM [.ref S.length, Zh r, oV v] (pS S rmv n s G) = .ok (.bool true) (pS S rmv n (s.go r.1 v) G) :=
  XlR r v w.nd hr (w.lt r hr).1 (Nat.lt_of_le_of_lt w.n3 (by decide)) (Nat.lt_of_le_of_lt w.wl (by decide)) (w.vs _)
theorem Ps.W.go {s : Ps} (w : s.W rm n L) {r : Row} {v : Option Vl} (hr : r ∈ s.ws) : (s.go r.1 v).W rm n L where
  nd := (List.filter_sublist.map _).nodup w.nd
  lt q hq := by
    obtain ⟨h1, h2⟩ := List.mem_filter.mp hq
    simp only [decide_eq_true_eq] at h2
    have := w.lt q h1
    exact ⟨this.1, by simp only [Ps.go, upd, if_neg h2]; exact this.2⟩
  dl i := by
    simp only [Ps.go, upd]
    split
    · rename_i h; subst h; exact (w.lt r hr).2
    · exact w.dl i
  vl i := by
    have := w.vl i
    by_cases e : i = r.1
    · subst e
      cases v with
      | none => show _ ≤ upd s.dn r.1 _ r.1; unfold upd; rw [if_pos rfl]; exact Nat.le_succ_of_le this
      | some v => show (upd s.vals r.1 _ r.1).length ≤ upd s.dn r.1 _ r.1; unfold upd; rw [if_pos rfl, if_pos rfl, List.length_append]; exact Nat.succ_le_succ this
    · cases v with
      | none => show _ ≤ upd s.dn r.1 _ i; unfold upd; rw [if_neg e]; exact this
      | some v => show (upd s.vals r.1 _ i).length ≤ upd s.dn r.1 _ i; unfold upd; rw [if_neg e, if_neg e]; exact this
  kl := w.kl
  rl := w.rl
  n3 := w.n3
  l4 := w.l4
variable {rmv : MV}
theorem XoY {c : Bool} : Zx (.ref (S.length + 3)) (.int (cI c)) (pS S rmv n s G) = .ok (.ref (kR S c)) (pS S rmv n s G) := by
  cases c
  · exact Zr (j := 0) Xo7 rfl (by omega)
  · exact Zr (j := 1) Xo7 rfl (by omega)
theorem Xgc {c : Bool} : (pS S rmv n s G)[kR S c]? = some (.list ((s.k c).map .int)) := by
  cases c
  · exact Xpk
  · exact XpB
theorem XgV {c : Bool} {l : List Int} : (pS S rmv n s G).set (kR S c) (.list (l.map .int)) = pS S rmv n { s with k := ubd s.k c l } G := by
  cases c
  · exact Xj5 (p := s.ph n)
  · exact Xjg (p := s.ph n)
theorem Xf6 {c : Bool} : Zx (.ref (S.length + 4)) (.int (cI c)) (pS S rmv n s G) = .ok (.bool (s.x c)) (pS S rmv n s G) := by
  cases c
  · exact Zr (j := 0) XnE rfl (by omega)
  · exact Zr (j := 1) XnE rfl (by omega)
theorem XjU : (pS S rmv n s G)[S.length + 4]? = some (.list [.bool (s.x false), .bool (s.x true)]) := XnE
theorem Xk4 {c b : Bool} : ZZ (.bool b) (.ref (S.length + 4)) (.int (cI c)) (pS S rmv n s G) = .ok () (pS S rmv n { s with x := ubd s.x c b } G) := by
  cases c
  · rw [show cI false = ((0 : Nat) : Int) from rfl, Xbi XjU (by simp) (by omega)]
    exact congrArg (R.ok ()) (Xgy (p := s.ph n))
  · rw [show cI true = ((1 : Nat) : Int) from rfl, Xbi XjU (by simp) (by omega)]
    exact congrArg (R.ok ()) (Xgy (p := s.ph n))
theorem Xo5 {c : Bool} (h : S[j]? = some (.list [.int (rm false), .int (rm true)])) : Zx (.ref j) (.int (cI c)) (pS S (.ref j) n s G) = .ok (.int (rm c)) (pS S (.ref j) n s G) := by
  cases c
  · exact Zr (j := 0) (Xct h) rfl (by omega)
  · exact Zr (j := 1) (Xct h) rfl (by omega)
theorem Zk {fr : Fr} {σ : Sg} : XO Xi fr σ = .ok (.ref σ.length) (σ ++ [.list []]) := rfl
theorem Xgo : PyData.eqv (.list []) (.list []) = true := by simp [PyData.eqv, PyData.eqvAll]
theorem Xb1 {σ : Sg} {i : Nat} (h : σ[i]? = some (.list [])) : VK σ 8 (.ref i) = some (.list []) := Xa2 h
theorem XbQ {σ : Sg} {i : Nat} {l : List MV} (h : σ[i]? = some (.list l)) : oNe (.ref i) (.ref σ.length) (σ ++ [.list []]) = .ok (.bool (!l.isEmpty)) (σ ++ [.list []]) := by
  have hl := Xep (Yv (o' := .list []) h) (YC (σ := σ))
  cases l with
  | nil => exact (XmU (Xb1 (Yv h)) (Xb1 YC) hl).trans (by rw [Xgo]; rfl)
  | cons a l => unfold oNe; rw [hl]; rfl
theorem Xck {σ : Sg} {i : Nat} {l : List MV} (h : σ[i]? = some (.list l)) : oEq (.ref i) (.ref σ.length) (σ ++ [.list []]) = .ok (.bool l.isEmpty) (σ ++ [.list []]) := by
  have hl := Xep (Yv (o' := .list []) h) (YC (σ := σ))
  cases l with
  | nil => exact (Xew (Xb1 (Yv h)) (Xb1 YC) hl).trans (by rw [Xgo]; rfl)
  | cons a l => unfold oEq; rw [hl]; rfl
theorem XeZ {c : Bool} : oNe (.ref (kR S c)) (.ref (pS S rmv n s G).length) (pS S rmv n s G ++ [.list []]) = .ok (.bool (!(s.k c).isEmpty)) (pS S rmv n s (G ++ [.list []])) := by
  rw [XbQ Xgc, Wh]; simp
theorem XnS {c : Bool} : ZH [.ref S.length, .str 22, .int (cI c)] (pS S rmv n s G) = .ok (oMV (s.q (.take c))) (pS S rmv n s G) := Xdn (.take c)
theorem XnY {c : Bool} : ZH [.ref S.length, .str 18, .int (cI c)] (pS S rmv n s G) = .ok (oMV (s.q (.send c))) (pS S rmv n s G) := Xdn (.send c)
theorem Xhy : ZH [.ref S.length, .str 10, .none] (pS S rmv n s G) = .ok (oMV (s.q .lock)) (pS S rmv n s G) := Xdn .lock
theorem Xjp : ZH [.ref S.length, .str 25, .none] (pS S rmv n s G) = .ok (oMV (s.q .wait)) (pS S rmv n s G) := Xdn .wait
theorem VR {w : Wk} {r : Row} (h : s.q w = some r) : r ∈ s.ws := List.mem_of_find?_eq_some h
theorem XaX {w : Wk} {r : Row} (h : s.q w = some r) : w.hits r.2 = true := by simpa using List.find?_some h
noncomputable def dwk : Dd → Option Wk
  | .send c _ => some (.send c)
  | .take c => some (.take c)
  | .lock => some .lock
  | .wait => some .wait
  | _ => none
theorem Xij {k : Wk} {d : Dd} (h : k.hits d = true) : dwk d = some k := by
  cases k <;> cases d <;> first | rfl | (cases h; done) | (have h := eq_of_beq h; subst h; rfl)
theorem Xcv {k k' : Wk} {d : Dd} (h : k.hits d = true) (h' : k'.hits d = true) : k = k' := Option.some.inj ((Xij h).symm.trans (Xij h'))
theorem Xoj {σ : Sg} {r : Option Row} : Uz (oMV r) .none σ = .ok (.bool r.isSome) σ := by cases r <;> rfl
theorem Xk9 {σ : Sg} {c : Bool} {d : Dd} (h : (Wk.send c).hits d = true) : Zx d.mv (.int 2) σ = .ok (.int d.val) σ := by
  cases d <;> first | exact Xhr | cases h
theorem Xko {ws : List Row} (h : (ws.map Prod.fst).Nodup) {r q : Row} (hr : r ∈ ws) (hq : q ∈ ws) (e : r.1 = q.1) : r = q := by
  induction ws with
  | nil => cases hr
  | cons a ws ih =>
    simp only [List.map_cons, List.nodup_cons] at h
    rcases List.mem_cons.mp hr with hr | hr <;> rcases List.mem_cons.mp hq with hq | hq
    · rw [hr, hq]
    · exact absurd (List.mem_map.mpr ⟨q, hq, by rw [← e, hr]⟩) h.1
    · exact absurd (List.mem_map.mpr ⟨r, hr, by rw [e, hq]⟩) h.1
    · exact ih h.2 hr hq
theorem XhP {s : Ps} {r d : Row} {v : Option Vl} (w : s.W rm n L) (hr : r ∈ s.ws) (hd : d ∈ s.ws) (h : r ≠ d) : r ∈ (s.go d.1 v).ws :=
  List.mem_filter.mpr ⟨hr, by simp only [decide_eq_true_eq]; exact fun e => h (Xko w.nd hr hd e)⟩
theorem Ps.W.setK {s : Ps} (w : s.W rm n L) {c : Bool} {l : List Int} (h : (l.length : Int) ≤ rm c) : ({ s with k := ubd s.k c l } : Ps).W rm n L :=
  ⟨w.nd, w.lt, w.dl, w.vl, fun c' => by
      show (((ubd s.k c l) c').length : Int) ≤ rm c'
      unfold ubd
      split
      · rename_i e; subst e; exact h
      · exact w.kl c', w.rl, w.n3, w.l4⟩
theorem XgU {σ : Sg} {v : MV} {j : Nat} {l : List MV} (h : l.length + 1 < 1000000) : XcU j (v :: l) [.int 0] σ = .ok v (σ.set j (.list l)) := UY h
theorem XpE {s : Ps} {r : Row} {v : Option Vl} : (s.go r.1 v).ow = s.ow := rfl
theorem XpG {v : Int} : MV.tup [.int v, .bool true] = oV (some (some v, true)) := rfl
theorem XpF : MV.tup [.none, .bool false] = oV (some (none, false)) := rfl
theorem oV0 : MV.none = oV none := rfl
theorem XkM {c : Bool} (h : (s.k c).length < 100) : ZN [.ref (kR S c)] (pS S rmv n s G) = .ok (.int (s.k c).length) (pS S rmv n s G) := by
  unfold ZN; dsimp only; rw [Xgc]; dsimp only; rw [List.length_map, if_pos (by omega)]; rfl
theorem Ps.W.goes0 {rmv : MV} (w : s.W rm n L) (r : Row) (hr : r ∈ s.ws) : YM [.ref S.length, Zh r, .none] (pS S rmv n s G) = .ok (.bool true) (pS S rmv n (s.go r.1 none) G) := w.goes r none hr
theorem Ps.W.goes1 {rmv : MV} (w : s.W rm n L) (r : Row) (v : Int) (hr : r ∈ s.ws) : YM [.ref S.length, Zh r, .tup [.int v, .bool true]] (pS S rmv n s G) = .ok (.bool true) (pS S rmv n (s.go r.1 (some (some v, true))) G) := w.goes r (some (some v, true)) hr
theorem Ps.W.goes2 {rmv : MV} (w : s.W rm n L) (r : Row) (hr : r ∈ s.ws) : YM [.ref S.length, Zh r, .tup [.none, .bool false]] (pS S rmv n s G) = .ok (.bool true) (pS S rmv n (s.go r.1 (some (none, false))) G) := w.goes r (some (none, false)) hr
theorem el0 {α : Type} {r : R α} : VS 0 r = r := rfl
theorem el1 {α : Type} {r : R α} : VS (0 + 1) r = r := rfl
theorem el2 {α : Type} {r : R α} : VS (0 + 1 + 1) r = r := rfl
theorem el3 {α : Type} {r : R α} : VS (0 + 1 + 1 + 1) r = r := rfl
theorem el4 {α : Type} {r : R α} : VS (0 + 1 + 1 + 1 + 1) r = r := rfl
theorem Xla {c : Bool} {v : Int} (h : (s.k c).length < 100) : Yt (kR S c) ((s.k c).map .int) [.int v] (pS S rmv n s G) = .ok .none (pS S rmv n { s with k := ubd s.k c (s.k c ++ [v]) } G) := by
  show VS (((s.k c).map MV.int).length + 1) _ = _
  rw [UY (by simp; omega)]
  have := XgV (S := S) (G := G) (rmv := rmv) (n := n) (s := s) (c := c) (l := s.k c ++ [v])
  rw [List.map_append] at this
  exact congrArg (R.ok MV.none) this
theorem lt_int {σ : Sg} {a b : Int} : oLt (.int a) (.int b) σ = .ok (.bool (decide (a < b))) σ := rfl
theorem Xh6 (w : s.W rm n L) (c : Bool) (hr : S[j]? = some (.list [.int (rm false), .int (rm true)])) :
    ∃ G', Ve [.ref S.length, .int (cI c)] (pS S (.ref j) n s G) = .ok (.bool (s.mv rm c).1) (pS S (.ref j) n (s.mv rm c).2 (G ++ G')) := by
  have hl : (s.k c).length < 100 := XoZ (w.kl c) (w.rl c)
  have pp : ∀ v k, s.k c = v :: k → (k.map MV.int).length + 1 < 1000000 := fun v k hk => by rw [hk] at hl; simp at hl ⊢; omega
  have wk : ∀ v k, s.k c = v :: k → ({ s with k := ubd s.k c k } : Ps).W rm n L := fun v k hk => w.setK (c := c) (l := k) (by have := w.kl c; rw [hk] at this; simp at this; omega)
  have ka : ∀ v k, s.k c = v :: k → (pS S (.ref j) n s (G ++ [.list []]))[kR S c]? = some (.list ((v :: k).map .int)) := fun v k hk => by rw [← hk]; exact Xgc
  unfold Ve
  rw [f2]
  unfold XaH
  dsimp only [Xk, Xj, Xm, YT, XE, Xt, Ym, XF, Xz, YS, Vm, VD, Ui, VM, Ze, Zc, UA, ZY, Ug, ZB, Uy, VT, ZL, ZK, UQ, Uo, Vf, XY, XZ, XR, XA, Xx, Xv, Xn, Yx, Yy, Yd, Yf, Yh, Vn, Vg, Xbr, Ys, XU, XT, Vz, VC, YJ, Yu, Xu, YA, Zq, UH, Yg, Yn, ZD, YK, YD, Xau, Yj, Yk, XJ, XQ, YB, YF, YG, Zn, Zo, YO, Zt, YR, YQ, Ud, Xw, XD, Xq, ZF, Za, Zp, XG, Us, Vx, VL, Zv, UB, Vk, Zu, UD, ZI, Yz, Ya, Zl, Zs, Uc, rI, rB, rO, Sy.eqb, Fin.reduceBEq, Nat.reduceBEq, cond_true, cond_false, UP, UM, Zm, YY, ZE, oMV, Xan, XbK, el0, el1, el2, el3, el4, List.length_cons, List.length_nil, List.isEmpty_nil, List.isEmpty_cons, WF, WH, Zk, decide_true, decide_false]
  repeat (first | dsimp only [Xk, Xj, Xm, YT, XE, Xt, Ym, XF, Xz, YS, Vm, VD, Ui, VM, Ze, Zc, UA, ZY, Ug, ZB, Uy, VT, ZL, ZK, UQ, Uo, Vf, XY, XZ, XR, XA, Xx, Xv, Xn, Yx, Yy, Yd, Yf, Yh, Vn, Vg, Xbr, Ys, XU, XT, Vz, VC, YJ, Yu, Xu, YA, Zq, UH, Yg, Yn, ZD, YK, YD, Xau, Yj, Yk, XJ, XQ, YB, YF, YG, Zn, Zo, YO, Zt, YR, YQ, Ud, Xw, XD, Xq, ZF, Za, Zp, XG, Us, Vx, VL, Zv, UB, Vk, Zu, UD, ZI, Yz, Ya, Zl, Zs, Uc, rI, rB, rO, Sy.eqb, Fin.reduceBEq, Nat.reduceBEq, cond_true, cond_false, UP, UM, Zm, YY, ZE, oMV, Xan, XbK, el0, el1, el2, el3, el4, List.length_cons, List.length_nil, List.isEmpty_nil, List.isEmpty_cons, WF, WH, Zk, decide_true, decide_false] | rw [XnS])
  repeat (first | dsimp only [Xk, Xj, Xm, YT, XE, Xt, Ym, XF, Xz, YS, Vm, VD, Ui, VM, Ze, Zc, UA, ZY, Ug, ZB, Uy, VT, ZL, ZK, UQ, Uo, Vf, XY, XZ, XR, XA, Xx, Xv, Xn, Yx, Yy, Yd, Yf, Yh, Vn, Vg, Xbr, Ys, XU, XT, Vz, VC, YJ, Yu, Xu, YA, Zq, UH, Yg, Yn, ZD, YK, YD, Xau, Yj, Yk, XJ, XQ, YB, YF, YG, Zn, Zo, YO, Zt, YR, YQ, Ud, Xw, XD, Xq, ZF, Za, Zp, XG, Us, Vx, VL, Zv, UB, Vk, Zu, UD, ZI, Yz, Ya, Zl, Zs, Uc, rI, rB, rO, Sy.eqb, Fin.reduceBEq, Nat.reduceBEq, cond_true, cond_false, UP, UM, Zm, YY, ZE, oMV, Xan, XbK, el0, el1, el2, el3, el4, List.length_cons, List.length_nil, List.isEmpty_nil, List.isEmpty_cons, WF, WH, Zk, decide_true, decide_false] | rw [XnY])
  repeat (first | dsimp only [Xk, Xj, Xm, YT, XE, Xt, Ym, XF, Xz, YS, Vm, VD, Ui, VM, Ze, Zc, UA, ZY, Ug, ZB, Uy, VT, ZL, ZK, UQ, Uo, Vf, XY, XZ, XR, XA, Xx, Xv, Xn, Yx, Yy, Yd, Yf, Yh, Vn, Vg, Xbr, Ys, XU, XT, Vz, VC, YJ, Yu, Xu, YA, Zq, UH, Yg, Yn, ZD, YK, YD, Xau, Yj, Yk, XJ, XQ, YB, YF, YG, Zn, Zo, YO, Zt, YR, YQ, Ud, Xw, XD, Xq, ZF, Za, Zp, XG, Us, Vx, VL, Zv, UB, Vk, Zu, UD, ZI, Yz, Ya, Zl, Zs, Uc, rI, rB, rO, Sy.eqb, Fin.reduceBEq, Nat.reduceBEq, cond_true, cond_false, UP, UM, Zm, YY, ZE, oMV, Xan, XbK, el0, el1, el2, el3, el4, List.length_cons, List.length_nil, List.isEmpty_nil, List.isEmpty_cons, WF, WH, Zk, decide_true, decide_false] | rw [XnL])
  repeat (first | dsimp only [Xk, Xj, Xm, YT, XE, Xt, Ym, XF, Xz, YS, Vm, VD, Ui, VM, Ze, Zc, UA, ZY, Ug, ZB, Uy, VT, ZL, ZK, UQ, Uo, Vf, XY, XZ, XR, XA, Xx, Xv, Xn, Yx, Yy, Yd, Yf, Yh, Vn, Vg, Xbr, Ys, XU, XT, Vz, VC, YJ, Yu, Xu, YA, Zq, UH, Yg, Yn, ZD, YK, YD, Xau, Yj, Yk, XJ, XQ, YB, YF, YG, Zn, Zo, YO, Zt, YR, YQ, Ud, Xw, XD, Xq, ZF, Za, Zp, XG, Us, Vx, VL, Zv, UB, Vk, Zu, UD, ZI, Yz, Ya, Zl, Zs, Uc, rI, rB, rO, Sy.eqb, Fin.reduceBEq, Nat.reduceBEq, cond_true, cond_false, UP, UM, Zm, YY, ZE, oMV, Xan, XbK, el0, el1, el2, el3, el4, List.length_cons, List.length_nil, List.isEmpty_nil, List.isEmpty_cons, WF, WH, Zk, decide_true, decide_false] | rw [XoY])
  rcases hs : s.q (.send c) with _ | d
  · rcases ht : s.q (.take c) with _ | t
    · have em : s.mv rm c = (false, s) := by unfold Ps.mv; simp only [hs, ht]
      rw [em]
      refine ⟨[], ?_⟩
      rw [List.append_nil]
      generalize hz : R.ok _ _ = z
      dsimp only [Xk, Xj, Xm, YT, XE, Xt, Ym, XF, Xz, YS, Vm, VD, Ui, VM, Ze, Zc, UA, ZY, Ug, ZB, Uy, VT, ZL, ZK, UQ, Uo, Vf, XY, XZ, XR, XA, Xx, Xv, Xn, Yx, Yy, Yd, Yf, Yh, Vn, Vg, Xbr, Ys, XU, XT, Vz, VC, YJ, Yu, Xu, YA, Zq, UH, Yg, Yn, ZD, YK, YD, Xau, Yj, Yk, XJ, XQ, YB, YF, YG, Zn, Zo, YO, Zt, YR, YQ, Ud, Xw, XD, Xq, ZF, Za, Zp, XG, Us, Vx, VL, Zv, UB, Vk, Zu, UD, ZI, Yz, Ya, Zl, Zs, Uc, rI, rB, rO, Sy.eqb, Fin.reduceBEq, Nat.reduceBEq, cond_true, cond_false, UP, UM, Zm, YY, ZE, oMV, Xan, XbK, el0, el1, el2, el3, el4, List.length_cons, List.length_nil, List.isEmpty_nil, List.isEmpty_cons, WF, WH, Zk, decide_true, decide_false]
      exact hz
    · have tm := VR ht
      rcases hk : s.k c with _ | ⟨v, k⟩
      · repeat (first | dsimp only [Xk, Xj, Xm, YT, XE, Xt, Ym, XF, Xz, YS, Vm, VD, Ui, VM, Ze, Zc, UA, ZY, Ug, ZB, Uy, VT, ZL, ZK, UQ, Uo, Vf, XY, XZ, XR, XA, Xx, Xv, Xn, Yx, Yy, Yd, Yf, Yh, Vn, Vg, Xbr, Ys, XU, XT, Vz, VC, YJ, Yu, Xu, YA, Zq, UH, Yg, Yn, ZD, YK, YD, Xau, Yj, Yk, XJ, XQ, YB, YF, YG, Zn, Zo, YO, Zt, YR, YQ, Ud, Xw, XD, Xq, ZF, Za, Zp, XG, Us, Vx, VL, Zv, UB, Vk, Zu, UD, ZI, Yz, Ya, Zl, Zs, Uc, rI, rB, rO, Sy.eqb, Fin.reduceBEq, Nat.reduceBEq, cond_true, cond_false, UP, UM, Zm, YY, ZE, oMV, Xan, XbK, el0, el1, el2, el3, el4, List.length_cons, List.length_nil, List.isEmpty_nil, List.isEmpty_cons, WF, WH, Zk, decide_true, decide_false] | rw [XeZ] | rw [hk])
        rcases hx : s.x c
        · have em : s.mv rm c = (false, s) := by unfold Ps.mv; simp only [hs, ht, hk, hx, Bool.false_eq_true, if_false]
          rw [em]
          refine ⟨[.list []], ?_⟩
          generalize hz : R.ok _ _ = z
          repeat (first | dsimp only [Xk, Xj, Xm, YT, XE, Xt, Ym, XF, Xz, YS, Vm, VD, Ui, VM, Ze, Zc, UA, ZY, Ug, ZB, Uy, VT, ZL, ZK, UQ, Uo, Vf, XY, XZ, XR, XA, Xx, Xv, Xn, Yx, Yy, Yd, Yf, Yh, Vn, Vg, Xbr, Ys, XU, XT, Vz, VC, YJ, Yu, Xu, YA, Zq, UH, Yg, Yn, ZD, YK, YD, Xau, Yj, Yk, XJ, XQ, YB, YF, YG, Zn, Zo, YO, Zt, YR, YQ, Ud, Xw, XD, Xq, ZF, Za, Zp, XG, Us, Vx, VL, Zv, UB, Vk, Zu, UD, ZI, Yz, Ya, Zl, Zs, Uc, rI, rB, rO, Sy.eqb, Fin.reduceBEq, Nat.reduceBEq, cond_true, cond_false, UP, UM, Zm, YY, ZE, oMV, Xan, XbK, el0, el1, el2, el3, el4, List.length_cons, List.length_nil, List.isEmpty_nil, List.isEmpty_cons, WF, WH, Zk, decide_true, decide_false] | rw [Wm] | rw [Xf6] | rw [hx])
          exact hz
        · have em : s.mv rm c = (true, s.go t.1 (some (none, false))) := by unfold Ps.mv; simp only [hs, ht, hk, hx, if_true]
          rw [em]
          refine ⟨[.list []], ?_⟩
          generalize hz : R.ok _ _ = z
          repeat (first | dsimp only [Xk, Xj, Xm, YT, XE, Xt, Ym, XF, Xz, YS, Vm, VD, Ui, VM, Ze, Zc, UA, ZY, Ug, ZB, Uy, VT, ZL, ZK, UQ, Uo, Vf, XY, XZ, XR, XA, Xx, Xv, Xn, Yx, Yy, Yd, Yf, Yh, Vn, Vg, Xbr, Ys, XU, XT, Vz, VC, YJ, Yu, Xu, YA, Zq, UH, Yg, Yn, ZD, YK, YD, Xau, Yj, Yk, XJ, XQ, YB, YF, YG, Zn, Zo, YO, Zt, YR, YQ, Ud, Xw, XD, Xq, ZF, Za, Zp, XG, Us, Vx, VL, Zv, UB, Vk, Zu, UD, ZI, Yz, Ya, Zl, Zs, Uc, rI, rB, rO, Sy.eqb, Fin.reduceBEq, Nat.reduceBEq, cond_true, cond_false, UP, UM, Zm, YY, ZE, oMV, Xan, XbK, el0, el1, el2, el3, el4, List.length_cons, List.length_nil, List.isEmpty_nil, List.isEmpty_cons, WF, WH, Zk, decide_true, decide_false] | rw [Wm] | rw [Xf6] | rw [hx] | rw [w.goes2 t tm])
          exact hz
      · have em : s.mv rm c = (true, ({ s with k := ubd s.k c k } : Ps).go t.1 (some (some v, true))) := by unfold Ps.mv; simp only [hs, ht, hk]
        rw [em]
        refine ⟨[.list []], ?_⟩
        generalize hz : R.ok _ _ = z
        repeat (first | dsimp only [Xk, Xj, Xm, YT, XE, Xt, Ym, XF, Xz, YS, Vm, VD, Ui, VM, Ze, Zc, UA, ZY, Ug, ZB, Uy, VT, ZL, ZK, UQ, Uo, Vf, XY, XZ, XR, XA, Xx, Xv, Xn, Yx, Yy, Yd, Yf, Yh, Vn, Vg, Xbr, Ys, XU, XT, Vz, VC, YJ, Yu, Xu, YA, Zq, UH, Yg, Yn, ZD, YK, YD, Xau, Yj, Yk, XJ, XQ, YB, YF, YG, Zn, Zo, YO, Zt, YR, YQ, Ud, Xw, XD, Xq, ZF, Za, Zp, XG, Us, Vx, VL, Zv, UB, Vk, Zu, UD, ZI, Yz, Ya, Zl, Zs, Uc, rI, rB, rO, Sy.eqb, Fin.reduceBEq, Nat.reduceBEq, cond_true, cond_false, UP, UM, Zm, YY, ZE, oMV, Xan, XbK, el0, el1, el2, el3, el4, List.length_cons, List.length_nil, List.isEmpty_nil, List.isEmpty_cons, WF, WH, Zk, decide_true, decide_false] | rw [XeZ] | rw [hk] | rw [Vv (ka v k hk)] | rw [Uh (ka v k hk)] | rw [List.map_cons] | rw [XgU (pp v k hk)] | rw [XgV] | rw [(wk v k hk).goes1 t _ tm])
        exact hz
  · have dm := VR hs
    have dv := fun σ => Xk9 (σ := σ) (XaX hs)
    rcases hx : s.x c
    · rcases ht : s.q (.take c) with _ | t
      · rcases hb : decide (((s.k c).length : Int) < rm c)
        · have em : s.mv rm c = (false, s) := by unfold Ps.mv; simp only [hs, ht, hx, Bool.false_eq_true, if_false, if_neg (of_decide_eq_false hb)]
          rw [em]
          refine ⟨[], ?_⟩
          rw [List.append_nil]
          generalize hz : R.ok _ _ = z
          repeat (first | dsimp only [Xk, Xj, Xm, YT, XE, Xt, Ym, XF, Xz, YS, Vm, VD, Ui, VM, Ze, Zc, UA, ZY, Ug, ZB, Uy, VT, ZL, ZK, UQ, Uo, Vf, XY, XZ, XR, XA, Xx, Xv, Xn, Yx, Yy, Yd, Yf, Yh, Vn, Vg, Xbr, Ys, XU, XT, Vz, VC, YJ, Yu, Xu, YA, Zq, UH, Yg, Yn, ZD, YK, YD, Xau, Yj, Yk, XJ, XQ, YB, YF, YG, Zn, Zo, YO, Zt, YR, YQ, Ud, Xw, XD, Xq, ZF, Za, Zp, XG, Us, Vx, VL, Zv, UB, Vk, Zu, UD, ZI, Yz, Ya, Zl, Zs, Uc, rI, rB, rO, Sy.eqb, Fin.reduceBEq, Nat.reduceBEq, cond_true, cond_false, UP, UM, Zm, YY, ZE, oMV, Xan, XbK, el0, el1, el2, el3, el4, List.length_cons, List.length_nil, List.isEmpty_nil, List.isEmpty_cons, WF, WH, Zk, decide_true, decide_false] | rw [Wm] | rw [Xf6] | rw [hx] | rw [XkM hl] | rw [Xit] | rw [Xo5 hr] | rw [lt_int] | rw [hb])
          exact hz
        · have hb' := of_decide_eq_true hb
          have w' := w.setK (c := c) (l := s.k c ++ [d.2.val]) (by simp; omega)
          have em : s.mv rm c = (true, ({ s with k := ubd s.k c (s.k c ++ [d.2.val]) } : Ps).go d.1 none) := by unfold Ps.mv; simp only [hs, ht, hx, Bool.false_eq_true, if_false, if_pos hb']
          rw [em]
          refine ⟨[], ?_⟩
          rw [List.append_nil]
          generalize hz : R.ok _ _ = z
          repeat (first | dsimp only [Xk, Xj, Xm, YT, XE, Xt, Ym, XF, Xz, YS, Vm, VD, Ui, VM, Ze, Zc, UA, ZY, Ug, ZB, Uy, VT, ZL, ZK, UQ, Uo, Vf, XY, XZ, XR, XA, Xx, Xv, Xn, Yx, Yy, Yd, Yf, Yh, Vn, Vg, Xbr, Ys, XU, XT, Vz, VC, YJ, Yu, Xu, YA, Zq, UH, Yg, Yn, ZD, YK, YD, Xau, Yj, Yk, XJ, XQ, YB, YF, YG, Zn, Zo, YO, Zt, YR, YQ, Ud, Xw, XD, Xq, ZF, Za, Zp, XG, Us, Vx, VL, Zv, UB, Vk, Zu, UD, ZI, Yz, Ya, Zl, Zs, Uc, rI, rB, rO, Sy.eqb, Fin.reduceBEq, Nat.reduceBEq, cond_true, cond_false, UP, UM, Zm, YY, ZE, oMV, Xan, XbK, el0, el1, el2, el3, el4, List.length_cons, List.length_nil, List.isEmpty_nil, List.isEmpty_cons, WF, WH, Zk, decide_true, decide_false] | rw [Wm] | rw [Xf6] | rw [hx] | rw [XkM hl] | rw [Xit] | rw [Xo5 hr] | rw [lt_int] | rw [hb] | rw [Vv Xgc] | rw [dv] | rw [Uh Xgc] | rw [Xla hl] | rw [w'.goes0 d dm])
          exact hz
      · have tm := VR ht
        have ne : t ≠ d := by
          rintro rfl
          exact nomatch Xcv (XaX hs) (XaX ht)
        rcases hk : s.k c with _ | ⟨v, k⟩
        · have em : s.mv rm c = (true, (s.go d.1 none).go t.1 (some (some d.2.val, true))) := by unfold Ps.mv; simp only [hs, ht, hk, hx, Bool.false_eq_true, if_false]
          rw [em]
          refine ⟨[.list []], ?_⟩
          generalize hz : R.ok _ _ = z
          repeat (first | dsimp only [Xk, Xj, Xm, YT, XE, Xt, Ym, XF, Xz, YS, Vm, VD, Ui, VM, Ze, Zc, UA, ZY, Ug, ZB, Uy, VT, ZL, ZK, UQ, Uo, Vf, XY, XZ, XR, XA, Xx, Xv, Xn, Yx, Yy, Yd, Yf, Yh, Vn, Vg, Xbr, Ys, XU, XT, Vz, VC, YJ, Yu, Xu, YA, Zq, UH, Yg, Yn, ZD, YK, YD, Xau, Yj, Yk, XJ, XQ, YB, YF, YG, Zn, Zo, YO, Zt, YR, YQ, Ud, Xw, XD, Xq, ZF, Za, Zp, XG, Us, Vx, VL, Zv, UB, Vk, Zu, UD, ZI, Yz, Ya, Zl, Zs, Uc, rI, rB, rO, Sy.eqb, Fin.reduceBEq, Nat.reduceBEq, cond_true, cond_false, UP, UM, Zm, YY, ZE, oMV, Xan, XbK, el0, el1, el2, el3, el4, List.length_cons, List.length_nil, List.isEmpty_nil, List.isEmpty_cons, WF, WH, Zk, decide_true, decide_false] | rw [Wm] | rw [Xf6] | rw [hx] | rw [XeZ] | rw [hk] | rw [w.goes0 d dm] | rw [dv] | rw [(w.go dm).goes1 t _ (XhP w tm dm ne)])
          exact hz
        · have em : s.mv rm c = (true, ({ s with k := ubd s.k c k } : Ps).go t.1 (some (some v, true))) := by unfold Ps.mv; simp only [hs, ht, hk, hx, Bool.false_eq_true, if_false]
          rw [em]
          refine ⟨[.list []], ?_⟩
          generalize hz : R.ok _ _ = z
          repeat (first | dsimp only [Xk, Xj, Xm, YT, XE, Xt, Ym, XF, Xz, YS, Vm, VD, Ui, VM, Ze, Zc, UA, ZY, Ug, ZB, Uy, VT, ZL, ZK, UQ, Uo, Vf, XY, XZ, XR, XA, Xx, Xv, Xn, Yx, Yy, Yd, Yf, Yh, Vn, Vg, Xbr, Ys, XU, XT, Vz, VC, YJ, Yu, Xu, YA, Zq, UH, Yg, Yn, ZD, YK, YD, Xau, Yj, Yk, XJ, XQ, YB, YF, YG, Zn, Zo, YO, Zt, YR, YQ, Ud, Xw, XD, Xq, ZF, Za, Zp, XG, Us, Vx, VL, Zv, UB, Vk, Zu, UD, ZI, Yz, Ya, Zl, Zs, Uc, rI, rB, rO, Sy.eqb, Fin.reduceBEq, Nat.reduceBEq, cond_true, cond_false, UP, UM, Zm, YY, ZE, oMV, Xan, XbK, el0, el1, el2, el3, el4, List.length_cons, List.length_nil, List.isEmpty_nil, List.isEmpty_cons, WF, WH, Zk, decide_true, decide_false] | rw [Wm] | rw [Xf6] | rw [hx] | rw [XeZ] | rw [hk] | rw [Vv (ka v k hk)] | rw [Uh (ka v k hk)] | rw [List.map_cons] | rw [XgU (pp v k hk)] | rw [XgV] | rw [(wk v k hk).goes1 t _ tm])
          exact hz
    · have em : s.mv rm c = (false, { s with pn := true }) := by unfold Ps.mv; simp only [hs, hx, if_true]
      rw [em]
      refine ⟨[], ?_⟩
      rw [List.append_nil]
      generalize hz : R.ok _ _ = z
      repeat (first | dsimp only [Xk, Xj, Xm, YT, XE, Xt, Ym, XF, Xz, YS, Vm, VD, Ui, VM, Ze, Zc, UA, ZY, Ug, ZB, Uy, VT, ZL, ZK, UQ, Uo, Vf, XY, XZ, XR, XA, Xx, Xv, Xn, Yx, Yy, Yd, Yf, Yh, Vn, Vg, Xbr, Ys, XU, XT, Vz, VC, YJ, Yu, Xu, YA, Zq, UH, Yg, Yn, ZD, YK, YD, Xau, Yj, Yk, XJ, XQ, YB, YF, YG, Zn, Zo, YO, Zt, YR, YQ, Ud, Xw, XD, Xq, ZF, Za, Zp, XG, Us, Vx, VL, Zv, UB, Vk, Zu, UD, ZI, Yz, Ya, Zl, Zs, Uc, rI, rB, rO, Sy.eqb, Fin.reduceBEq, Nat.reduceBEq, cond_true, cond_false, UP, UM, Zm, YY, ZE, oMV, Xan, XbK, el0, el1, el2, el3, el4, List.length_cons, List.length_nil, List.isEmpty_nil, List.isEmpty_cons, WF, WH, Zk, decide_true, decide_false] | rw [Wm] | rw [Xf6] | rw [hx] | rw [Xdj])
      exact hz
end
end
section
noncomputable def Ps.gt (s : Ps) : Bool × Ps :=
  match s.q .lock, s.ow with
  | some l, none => (true, ({ s with ow := some l.1 } : Ps).go l.1 none)
  | _, _ => match s.q .wait with
    | some w => if s.cn = 0 then (true, s.go w.1 none) else (false, s)
    | none => (false, s)
section
variable {S G : Sg} {j n : Nat} {s : Ps} {rm : Bool → Int} {L : Nat → Nat} {rmv : MV}
theorem Xh7 {σ : Sg} {o : Option Nat} : oIs (oN o) .none σ = .ok (.bool o.isNone) σ := by cases o <;> rfl
theorem Ps.W.congr {s t : Ps} (w : s.W rm n L) (h1 : t.ws = s.ws) (h2 : t.dn = s.dn) (h3 : t.vals = s.vals) (h4 : t.k = s.k) : t.W rm n L :=
  ⟨by rw [h1]; exact w.nd, by rw [h1, h2]; exact w.lt, by rw [h2]; exact w.dl, by rw [h2, h3]; exact w.vl, by rw [h4]; exact w.kl, w.rl, w.n3, w.l4⟩
theorem Xl5 (w : s.W rm n L) : Wl [.ref S.length] (pS S rmv n s G) = .ok (.bool s.gt.1) (pS S rmv n s.gt.2 G) := by
  unfold Wl
  rw [f1]
  unfold XaI Ps.gt
  have fin : ∀ v : MV, ∀ l : MV, isNone l = true ∨ s.ow ≠ none → v = oMV (s.q .wait) → Xc9 (Xo (Zg (Xcq (YI Uz (Xc 77) (Xd .none)) (Xcq (YI oEq (XI (Xc 62) (Xd (.str 4))) (Xd (.int 0))) (XB YM (Xe (Xc 62) (Xe (Xc 77) (Xe (Xd .none) Xi))))))) Xp [(62, .ref S.length), (77, v), (56, l)] (pS S rmv n s G)) = .ok (.bool (match s.q .wait with | some w => if s.cn = 0 then (true, s.go w.1 none) else (false, s) | none => (false, s)).1) (pS S rmv n (match s.q .wait with | some w => if s.cn = 0 then (true, s.go w.1 none) else (false, s) | none => (false, s)).2 G) := by
    intro v l _ hv
    subst hv
    rcases hw : s.q .wait with _ | q
    · simp only [Xk, Xj, Xm, YT, XE, Xt, Xz, Uy, ZK, Xu, Yg, Yn, Xw, Xq, Yz, Sy.eqb, Fin.reduceBEq, cond_true, cond_false, YY, oMV]
    · rcases hc : (s.cn == 0)
      · have : ¬ s.cn = 0 := by simpa using hc
        simp only [Xk, Xj, Xm, YT, XE, Xt, Ym, Xz, Uy, ZL, ZK, Xu, Yg, Yn, Xw, Xq, Yz, Sy.eqb, Fin.reduceBEq, cond_true, cond_false, XeK, Zm, oMV, Xag, hc]
        simp [this]
      · have : s.cn = 0 := by simpa using hc
        simp only [Xk, Xj, Xm, YT, XE, Xt, Ym, Xz, Uy, ZL, XA, Xx, Xv, Xn, XU, XT, Xu, Yg, Yn, Xw, Xq, Yz, Sy.eqb, Fin.reduceBEq, cond_true, cond_false, XeK, Zm, oMV, Xag, hc, w.goes0 q (VR hw)]
        simp [this]
  rcases hl : s.q .lock with _ | l
  · simp only [Xk, Xj, Xm, XA, Xx, Xv, Xn, Yx, Yy, XU, XT, Ud, Xw, Yz, Sy.eqb, Fin.reduceBEq, cond_true, Xhy, Xjp, oMV, el2, List.length_cons, List.length_nil, hl]
    exact fin _ _ (.inl rfl) rfl
  · have e_w := Xjp (S := S) (G := G) (rmv := rmv) (n := n) (s := s)
    obtain ⟨v, hv⟩ : ∃ v, v = oMV (s.q .wait) := ⟨_, rfl⟩
    rw [← hv] at e_w
    rcases ho : s.ow with _ | o
    · have w' : ({ s with ow := some l.1 } : Ps).W rm n L := w.congr rfl rfl rfl rfl
      simp only [Xk, Xj, Xm, XE, Xt, Ym, XF, Xz, Ui, Ze, Ug, XY, XZ, XA, Xx, Xv, Xn, Yx, Yy, XU, XT, Xu, Yg, Yn, Yj, Yk, XJ, YB, Zn, Zo, YO, Ud, Xw, XD, Xq, Yz, Ya, Zl, Zs, Uc, Sy.eqb, Fin.reduceBEq, cond_true, cond_false, Xhy, XeN, Zm, oMV, Xan, el2, List.length_cons, List.length_nil, e_w, WY (show [Zh l, v].length = [(56 : Sy), 77].length from rfl), List.reverse_cons, List.reverse_nil, List.nil_append, List.cons_append, hl, ho, Xh7, Option.isNone_none, Xjr, w'.goes0 l (VR hl)]
    · simp only [Xk, Xj, Xm, YT, XE, Xt, Ym, XF, Xz, Ui, Ze, Zc, Uy, XY, XR, XA, Xx, Xv, Xn, Yx, Yy, XU, XT, Yg, Ud, Xw, XD, XG, Yz, Ya, Zl, Zs, Uc, Sy.eqb, Fin.reduceBEq, cond_true, cond_false, Xhy, XeN, Zm, oMV, el2, List.length_cons, List.length_nil, e_w, WY (show [Zh l, v].length = [(56 : Sy), 77].length from rfl), List.reverse_cons, List.reverse_nil, List.nil_append, List.cons_append, hl, ho, Xh7, Option.isNone_some]
      exact fin _ _ (.inr (by rw [ho]; simp)) hv
noncomputable def Ps.lp (rm : Bool → Int) : Nat → Ps → Ps
  | 0, s => s
  | f + 1, s => if s.pn then s else if (s.mv rm false).1 then (s.mv rm false).2.lp rm f else
      if ((s.mv rm false).2.mv rm true).1 then ((s.mv rm false).2.mv rm true).2.lp rm f else
      if (((s.mv rm false).2.mv rm true).2.gt).1 then (((s.mv rm false).2.mv rm true).2.gt).2.lp rm f else (((s.mv rm false).2.mv rm true).2.gt).2
theorem Xjf {rm : Bool → Int} {f : Nat} {s : Ps} : s.lp rm (f + 1) = if s.pn then s else if (s.mv rm false).1 then (s.mv rm false).2.lp rm f else
      if ((s.mv rm false).2.mv rm true).1 then ((s.mv rm false).2.mv rm true).2.lp rm f else
      if (((s.mv rm false).2.mv rm true).2.gt).1 then (((s.mv rm false).2.mv rm true).2.gt).2.lp rm f else (((s.mv rm false).2.mv rm true).2.gt).2 := rfl
theorem XbO {s : Ps} {r : Row} {v : Option Vl} (h : r ∈ s.ws) : (s.go r.1 v).ws.length < s.ws.length :=
  List.length_filter_lt_length_iff_exists.mpr ⟨r, h, by simp⟩
theorem XbZ {s : Ps} {i : Nat} {v : Option Vl} : (s.go i v).ws.length ≤ s.ws.length := List.length_filter_le _ _
theorem Xf0 (w : s.W rm n L) (c : Bool) : (s.mv rm c).2.W rm n L ∧ (s.mv rm c).2.ws.length ≤ s.ws.length ∧ ((s.mv rm c).1 = true → (s.mv rm c).2.ws.length < s.ws.length) := by
  unfold Ps.mv
  rcases hs : s.q (.send c) with _ | d
  · rcases ht : s.q (.take c) with _ | t
    · simp only
      exact ⟨w, Nat.le_refl _, fun h => by cases h⟩
    · have tm := VR ht
      rcases hk : s.k c with _ | ⟨v, k⟩
      · simp only
        split
        · simp only
          exact ⟨w.go tm, XbZ, fun _ => XbO tm⟩
        · simp only
          exact ⟨w, Nat.le_refl _, fun h => by cases h⟩
      · have w' := w.setK (c := c) (l := k) (by have := w.kl c; rw [hk] at this; simp at this; lia)
        simp only
        exact ⟨w'.go tm, XbZ, fun _ => XbO (s := { s with k := ubd s.k c k }) tm⟩
  · have dm := VR hs
    simp only
    split
    · simp only
      exact ⟨w.congr rfl rfl rfl rfl, Nat.le_refl _, fun h => by cases h⟩
    · rcases ht : s.q (.take c) with _ | t
      · simp only
        split
        · have w' := w.setK (c := c) (l := s.k c ++ [d.2.val]) (by simp; lia)
          simp only
          exact ⟨w'.go dm, XbZ, fun _ => XbO (s := { s with k := ubd s.k c (s.k c ++ [d.2.val]) }) dm⟩
        · simp only
          exact ⟨w, Nat.le_refl _, fun h => by cases h⟩
      · have tm := VR ht
        have ne : t ≠ d := by
          rintro rfl
          exact nomatch Xcv (XaX hs) (XaX ht)
        rcases hk : s.k c with _ | ⟨v, k⟩
        · simp only
          exact ⟨(w.go dm).go (XhP w tm dm ne), Nat.le_trans XbZ XbZ, fun _ => Nat.lt_of_le_of_lt XbZ (XbO dm)⟩
        · have w' := w.setK (c := c) (l := k) (by have := w.kl c; rw [hk] at this; simp at this; lia)
          simp only
          exact ⟨w'.go tm, XbZ, fun _ => XbO (s := { s with k := ubd s.k c k }) tm⟩
theorem Xl9 (w : s.W rm n L) : s.gt.2.W rm n L ∧ s.gt.2.ws.length ≤ s.ws.length ∧ (s.gt.1 = true → s.gt.2.ws.length < s.ws.length) := by
  have fin : (match s.q .wait with | some w => if s.cn = 0 then (true, s.go w.1 none) else (false, s) | none => (false, s)).2.W rm n L ∧ (match s.q .wait with | some w => if s.cn = 0 then (true, s.go w.1 none) else (false, s) | none => (false, s)).2.ws.length ≤ s.ws.length ∧ ((match s.q .wait with | some w => if s.cn = 0 then (true, s.go w.1 none) else (false, s) | none => (false, s)).1 = true → (match s.q .wait with | some w => if s.cn = 0 then (true, s.go w.1 none) else (false, s) | none => (false, s)).2.ws.length < s.ws.length) := by
    rcases hw : s.q .wait with _ | q
    · exact ⟨w, Nat.le_refl _, fun h => by cases h⟩
    · simp only
      split
      · simp only
        exact ⟨w.go (VR hw), XbZ, fun _ => XbO (VR hw)⟩
      · exact ⟨w, Nat.le_refl _, fun h => by cases h⟩
  unfold Ps.gt
  rcases hl : s.q .lock with _ | l
  · exact fin
  · rcases ho : s.ow with _ | o
    · have w' : ({ s with ow := some l.1 } : Ps).W rm n L := w.congr rfl rfl rfl rfl
      simp only
      exact ⟨w'.go (VR hl), XbZ, fun _ => XbO (s := { s with ow := some l.1 }) (VR hl)⟩
    · exact fin
theorem Xn1 (hr : S[j]? = some (.list [.int (rm false), .int (rm true)])) (f : Nat) : ∀ (s : Ps) (G : Sg) (i : Nat) (d rv : MV), s.W rm n L → s.ws.length < f → ∃ G' rv',
    WW (UO (Xi8 (UI (XI (Xc 62) (Xd (.str 14))))) (UO (mOr (UI (XB Ve (Xe (Xc 62) (Xe (Xd (.int 0)) Xi)))) (mOr (UI (XB Ve (Xe (Xc 62) (Xe (Xd (.int 1)) Xi)))) (mOr (UI (XB Wl (Xe (Xc 62) Xi))) WQ))) YU)) (Xo (YE (Xd .none) (XC 37)) Xp) f [(62, .ref S.length), (34, .int i), (6, d), (37, rv)] (pS S (.ref j) n s G)
      = .ok (.next, [(62, .ref S.length), (34, .int i), (6, d), (37, rv')]) (pS S (.ref j) n (s.lp rm f) (G ++ G')) := by
  induction f with
  | zero =>
    intro s G i d rv w h
    lia
  | succ f ih =>
    intro s G i d rv w h
    rw [Xgg, Xjf]
    rcases hp : s.pn
    · obtain ⟨G1, e1⟩ := Xh6 (S := S) (G := G) w false hr
      obtain ⟨w1, l1, k1⟩ := Xf0 w false
      rw [show cI false = 0 from rfl] at e1
      generalize s.mv rm false = a at *
      obtain ⟨b, a⟩ := a
      simp only at w1 l1 k1 e1
      cases b
      · obtain ⟨G2, e2⟩ := Xh6 (S := S) (G := G ++ G1) w1 true hr
        obtain ⟨w2, l2, k2⟩ := Xf0 w1 true
        rw [show cI true = 1 from rfl] at e2
        generalize a.mv rm true = b at *
        obtain ⟨b', b⟩ := b
        simp only at w2 l2 k2 e2
        cases b'
        · have e3 := Xl5 (S := S) (G := G ++ G1 ++ G2) (rmv := .ref j) w2
          obtain ⟨w3, l3, k3⟩ := Xl9 w2
          generalize b.gt = c at *
          obtain ⟨c', c⟩ := c
          simp only at w3 l3 k3 e3
          cases c'
          · refine ⟨G1 ++ G2, rv, ?_⟩
            simp only [Xk, Xj, Xm, XE, Xt, Ym, Xz, YS, Vm, VD, Ui, VM, Ze, Zc, ZY, ZB, XA, Xx, Xv, Xn, XU, XT, Yj, Yk, XJ, XQ, Xw, XD, XG, ZI, Yz, Ya, Zl, Sy.eqb, Fin.reduceBEq, cond_true, cond_false, Wu, hp, Bool.not_false, e1, e2, e3, R.bind, Bool.false_eq_true, if_false]
            simp only [List.append_assoc]
          · obtain ⟨G4, rv4, e4⟩ := ih c (G ++ G1 ++ G2) i d .none w3 (XcT (Nat.lt_of_lt_of_le (k3 rfl) (Nat.le_trans l2 l1)) h)
            refine ⟨G1 ++ G2 ++ G4, rv4, ?_⟩
            simp only [Xk, Xj, Xm, XE, Xt, Ym, Xz, YS, Vm, VD, Ui, VM, Ze, UA, ZY, Ug, XA, Xx, Xv, Xn, XU, XT, Yj, Yk, XJ, XQ, Xw, XD, XG, ZI, Yz, Ya, Zl, Sy.eqb, Fin.reduceBEq, cond_true, cond_false, Wu, hp, Bool.not_false, e1, e2, e3, R.bind, Bool.false_eq_true, if_false, if_true, e4]
            simp only [List.append_assoc]
        · obtain ⟨G4, rv4, e4⟩ := ih b (G ++ G1 ++ G2) i d .none w2 (XcT (Nat.lt_of_lt_of_le (k2 rfl) l1) h)
          refine ⟨G1 ++ G2 ++ G4, rv4, ?_⟩
          simp only [Xk, Xj, Xm, XE, Xt, Ym, Xz, YS, Vm, VD, Ui, VM, Ze, UA, ZY, Ug, XA, Xx, Xv, Xn, XU, XT, Yj, Yk, XJ, XQ, Xw, XD, XG, ZI, Yz, Ya, Zl, Sy.eqb, Fin.reduceBEq, cond_true, cond_false, Wu, hp, Bool.not_false, e1, e2, R.bind, Bool.false_eq_true, if_false, if_true, e4]
          simp only [List.append_assoc]
      · obtain ⟨G4, rv4, e4⟩ := ih a (G ++ G1) i d .none w1 (XcT (k1 rfl) h)
        refine ⟨G1 ++ G4, rv4, ?_⟩
        simp only [Xk, Xj, Xm, XE, Xt, Ym, Xz, YS, Vm, VD, Ui, VM, Ze, UA, Ug, XA, Xx, Xv, Xn, XU, XT, Yj, Yk, XJ, XQ, Xw, XD, XG, ZI, Yz, Ya, Zl, Sy.eqb, Fin.reduceBEq, cond_true, cond_false, Wu, hp, Bool.not_false, e1, R.bind, Bool.false_eq_true, if_false, if_true, e4]
        simp only [List.append_assoc]
    · refine ⟨[], rv, ?_⟩
      simp only [Xk, Xj, Xm, XE, Xt, Ym, Xz, YS, Vm, VD, Ui, Zc, Yj, Yk, XJ, XQ, Xw, XD, XG, ZI, Yz, Ya, Zl, Sy.eqb, Fin.reduceBEq, cond_true, cond_false, Wu, hp, Bool.not_true, R.bind, Bool.false_eq_true, if_false, List.append_nil, if_true]
noncomputable def Ps.add (s : Ps) (i : Nat) (d : Dd) : Ps := { s with ws := s.ws ++ [(i, d)] }
noncomputable def Ps.st (s : Ps) (i : Nat) (d : Dd) : Ps :=
  match d with
  | .close c => ({ s.add i d with pn := s.x c, x := ubd s.x c true } : Ps).go i none
  | .unlock => ({ s.add i d with pn := s.ow.isNone, ow := none } : Ps).go i none
  | .done => ({ s.add i d with cn := s.cn - 1, pn := decide (s.cn - 1 < 0) } : Ps).go i none
  | _ => s.add i d
noncomputable def Ps.put (rm : Bool → Int) (s : Ps) (i : Nat) (d : Dd) : Ps := (s.st i d).lp rm 10
theorem XkC (w : s.W rm n L) {i : Nat} {d : Dd} (hi : i ∉ s.ws.map Prod.fst) (hn : i < n) (hd : s.dn i < L i) : (s.add i d).W rm n L where
  nd := by
    simp only [Ps.add, List.map_append, List.map_cons, List.map_nil]
    rw [List.nodup_append]
    exact ⟨w.nd, by simp, fun a ha b hb e => by simp at hb; subst hb; subst e; exact hi ha⟩
  lt r hr := by
    simp only [Ps.add, List.mem_append, List.mem_singleton] at hr
    rcases hr with hr | rfl
    · exact w.lt r hr
    · exact ⟨hn, hd⟩
  dl := w.dl
  vl := w.vl
  kl := w.kl
  rl := w.rl
  n3 := w.n3
  l4 := w.l4
theorem Wy {i : Nat} {d : Dd} : (i, d) ∈ (s.add i d).ws := by simp [Ps.add]
theorem Xmi (w : s.W rm n L) {i : Nat} {d : Dd} (hi : i ∉ s.ws.map Prod.fst) (hn : i < n) (hd : s.dn i < L i) : (s.st i d).W rm n L := by
  have w1 := XkC w (d := d) hi hn hd
  unfold Ps.st
  cases d with
  | close c => exact Ps.W.go (s := { s.add i (.close c) with pn := s.x c, x := ubd s.x c true }) (w1.congr rfl rfl rfl rfl) (r := (i, .close c)) (v := none) Wy
  | unlock => exact Ps.W.go (s := { s.add i .unlock with pn := s.ow.isNone, ow := none }) (w1.congr rfl rfl rfl rfl) (r := (i, .unlock)) (v := none) Wy
  | done => exact Ps.W.go (s := { s.add i .done with cn := s.cn - 1, pn := decide (s.cn - 1 < 0) }) (w1.congr rfl rfl rfl rfl) (r := (i, .done)) (v := none) Wy
  | _ => exact w1
theorem XlP {i : Nat} {d : Dd} (h : s.ws.length < 100) : Yt (S.length + 5) (s.ws.map Zh) [.tup [.int i, d.mv]] (pS S rmv n s G) = .ok .none (pS S rmv n (s.add i d) G) := by
  show VS ((s.ws.map Zh).length + 1) _ = _
  rw [UY (by simp; lia)]
  have := Xfy (S := S) (G := G) (rm := rmv) (n := n) (s := s) (l := s.ws ++ [(i, d)])
  rw [List.map_append] at this
  exact congrArg (R.ok MV.none) this
theorem XeX {i : Nat} {d : Dd} (h : s.ws.length < 100) : Zx (.ref (S.length + 5)) (.int (-1)) (pS S rmv n (s.add i d) G) = .ok (Zh (i, d)) (pS S rmv n (s.add i d) G) := by
  unfold Zx; dsimp only; rw [VG]; dsimp only; unfold idx
  simp only [Ps.add, List.map_append, List.map_cons, List.map_nil, List.length_append, List.length_map, List.length_cons, List.length_nil]
  rw [if_neg (by lia), if_pos (by lia)]
  have e : (-1 + ((s.ws.length + (0 + 1) : Nat) : Int)).toNat = (s.ws.map Zh).length := by simp; lia
  rw [e, List.getElem?_append_right (Nat.le_refl _)]
  simp [rO]
theorem XiE {σ : Sg} : Xmx (.int 1) σ = .ok (.int (-1)) σ := rfl
theorem Xpg {σ : Sg} {a b : Int} : Xgu (.int a) (.int b) σ = .ok (.int (a - b)) σ := rfl
theorem Xe2 {t : BM} {b : XM} {f : Nat} : mWh t b f = WW t b f := by unfold mWh; rfl
noncomputable def Dd.word : Dd → Sy
  | .send _ _ => 18
  | .take _ => 22
  | .close _ => 2
  | .lock => 10
  | .unlock => 23
  | .wait => 25
  | .done => 7
theorem dd0 {σ : Sg} {d : Dd} : Zx d.mv (.int 0) σ = .ok (.str d.word) σ := by cases d <;> exact Vb
theorem Xpi {σ : Sg} {c : Bool} : Zx (Dd.close c).mv (.int 1) σ = .ok (.int (cI c)) σ := Xab
theorem XhI {i : Nat} {d : Dd} : (s.add i d).ow = s.ow := rfl
theorem XhC {i : Nat} {d : Dd} : (s.add i d).cn = s.cn := rfl
theorem XhE {i : Nat} {d : Dd} : (s.add i d).pn = s.pn := rfl
theorem Xky {i : Nat} {d : Dd} : (s.add i d).x = s.x := rfl
theorem Xo1 (w : s.W rm n L) (hr : S[j]? = some (.list [.int (rm false), .int (rm true)])) {i : Nat} {d : Dd} (hi : i ∉ s.ws.map Prod.fst) (hn : i < n) (hd : s.dn i < L i) (hp : s.pn = false) :
    ∃ G', WD [.ref S.length, .int i, d.mv] (pS S (.ref j) n s G) = .ok .none (pS S (.ref j) n (s.put rm i d) (G ++ G')) := by
  have w1 := XkC w (d := d) hi hn hd
  have w2 := Xmi w (d := d) hi hn hd
  have hl := w.wl
  obtain ⟨G', rv', e⟩ := Xn1 hr 10 (s.st i d) G i d.mv (Zh (i, d)) w2 (by have := w2.wl; lia)
  refine ⟨G', ?_⟩
  unfold WD
  rw [f3]
  unfold XbM Ps.put
  have pw : Yt (S.length + 5) (s.ws.map Zh) [.tup [.int i, d.mv]] (pS S (.ref j) n s G) = _ := XlP (i := i) (d := d) (show s.ws.length < 100 by lia)
  cases d with
  | close c =>
    have w3 : ({ s.add i (.close c) with pn := s.x c, x := ubd s.x c true } : Ps).W rm n L := w1.congr rfl rfl rfl rfl
    simp only [Xk, Xj, Xm, XE, Xt, Ym, XF, Xz, VT, Uo, XY, XZ, XA, Xx, Xv, Xn, Yx, Yy, Vn, Ys, XU, XT, UH, YK, YD, Yj, Yk, XJ, XQ, YB, Zn, Zo, YO, Xw, XD, Yz, Ya, Zl, Sy.eqb, Fin.reduceBEq, cond_true, cond_false, Wm, Xf6, Xap, Wu, el2, List.length_cons, List.length_nil, Vv VG, Uh VG, pw, XeX (show s.ws.length < 100 by lia), XiE, dd0, Xpi, ZX, Dd.word, hp, Xdj, Xk4, XhI, XhC, XhE, Xky, Xe2]
    have e' : s.st i (.close c) = ({ s.add i (.close c) with pn := s.x c, x := ubd s.x c true } : Ps).go i none := rfl
    have go := w3.goes0 (S := S) (G := G) (rmv := .ref j) (i, .close c) Wy
    rw [e'] at e ⊢
    simp only [Ps.add] at go e ⊢
    rw [go]
    simp only [YD, Xw, XD, XG]
    rw [e]
    rfl
  | unlock =>
    have w3 : ({ s.add i .unlock with pn := s.ow.isNone, ow := none } : Ps).W rm n L := w1.congr rfl rfl rfl rfl
    simp only [Xk, Xj, Xm, YT, XE, Xt, Ym, XF, Xz, VT, Uo, XY, XZ, XR, XA, Xx, Xv, Xn, Yx, Yy, Vn, Ys, XU, XT, UH, YK, YD, Yj, Yk, XJ, XQ, YB, Zn, Zo, YO, Xw, XD, Yz, Ya, Zl, Sy.eqb, Fin.reduceBEq, cond_true, cond_false, XeN, Xap, Wu, el2, List.length_cons, List.length_nil, Vv VG, Uh VG, pw, XeX (show s.ws.length < 100 by lia), XiE, dd0, ZX, Dd.word, hp, Xdj, Xkb, Xh7, XhI, XhC, XhE, Xky, Xe2]
    have e' : s.st i .unlock = ({ s.add i .unlock with pn := s.ow.isNone, ow := none } : Ps).go i none := rfl
    have go := w3.goes0 (S := S) (G := G) (rmv := .ref j) (i, .unlock) Wy
    rw [e'] at e ⊢
    simp only [Ps.add] at go e ⊢
    rw [go]
    simp only [YD, Xw, XD, XG]
    rw [e]
    rfl
  | done =>
    have w3 : ({ s.add i .done with cn := s.cn - 1, pn := decide (s.cn - 1 < 0) } : Ps).W rm n L := w1.congr rfl rfl rfl rfl
    simp only [Xk, Xj, Xm, YT, XE, Xt, Ym, XF, Xz, VT, Uo, XY, XZ, XR, XA, Xx, Xv, Xn, Yx, Yy, Vn, Ys, XU, XT, UH, YK, YD, Yj, Yk, XJ, XQ, YB, Zn, Zo, YO, Xw, XD, Yz, Ya, Zl, Sy.eqb, Fin.reduceBEq, cond_true, cond_false, XeK, Xap, Wu, el2, List.length_cons, List.length_nil, Vv VG, Uh VG, pw, XeX (show s.ws.length < 100 by lia), XiE, dd0, ZX, Dd.word, hp, Xdj, XlN, Xpg, lt_int, XhI, XhC, XhE, Xky, Xe2]
    have e' : s.st i .done = ({ s.add i .done with cn := s.cn - 1, pn := decide (s.cn - 1 < 0) } : Ps).go i none := rfl
    have go := w3.goes0 (S := S) (G := G) (rmv := .ref j) (i, .done) Wy
    rw [e'] at e ⊢
    simp only [Ps.add] at go e ⊢
    rw [go]
    simp only [YD, Xw, XD, XG]
    rw [e]
    rfl
  | _ =>
    simp only [Xk, Xj, Xm, XE, Xt, Ym, XF, Xz, XY, XR, XA, Xx, Xv, Xn, Yx, Yy, Vn, Ys, UH, YK, YD, Yj, Yk, XJ, XQ, Xw, XD, XG, Yz, Ya, Zl, Sy.eqb, Fin.reduceBEq, cond_true, cond_false, Xap, el2, List.length_cons, List.length_nil, Vv VG, Uh VG, pw, XeX (show s.ws.length < 100 by lia), XiE, dd0, ZX, Dd.word, Xe2]
    rw [show s.st i _ = s.add i _ from rfl] at e ⊢
    rw [e]
    rfl
end
end
section
set_option genInjectivity false in
inductive Oc where
  | none
  | panic
  | fin (s : Ps)
noncomputable def live (n : Nat) (s : Ps) (en : List Nat) : List Nat := (List.range n).filter fun i => !(s.ws.map Prod.fst).contains i && !en.contains i
noncomputable def pick (ds : List Nat) (tk m : Nat) : Nat × Nat := if m ≤ 1 then (0, tk) else ((ds.getD tk 0) % m, tk + 1)
noncomputable def run (rm : Bool → Int) (n : Nat) (P : Nat → List Dd) (ds : List Nat) : Nat → Ps → List Nat → Nat → Oc
  | 0, _, _, _ => .none
  | f + 1, s, en, tk =>
    if live n s en = [] then .fin s else
      let p := pick ds tk (live n s en).length
      let i := (live n s en).getD p.1 0
      match (P i)[s.dn i]? with
      | .none => run rm n P ds f s (en ++ [i]) p.2
      | .some d => if (s.put rm i d).pn then .panic else run rm n P ds f (s.put rm i d) en p.2
theorem Xh1 {rm : Bool → Int} {n : Nat} {P : Nat → List Dd} {ds : List Nat} {f : Nat} {s : Ps} {en : List Nat} {tk : Nat} : run rm n P ds (f + 1) s en tk =
    if live n s en = [] then .fin s else
      let p := pick ds tk (live n s en).length
      let i := (live n s en).getD p.1 0
      match (P i)[s.dn i]? with
      | .none => run rm n P ds f s (en ++ [i]) p.2
      | .some d => if (s.put rm i d).pn then .panic else run rm n P ds f (s.put rm i d) en p.2 := rfl
structure Bs (S : Sg) (n : Nat) (P : Nat → List Dd) (ds : List Nat) (rm : Bool → Int) (pj j dj : Nat) (pr : Nat → Nat) : Prop where
  hp : S[pj]? = some (.list ((List.range n).map fun i => .ref (pr i)))
  hi : ∀ i, i < n → S[pr i]? = some (.list ((P i).map Dd.mv))
  hd : S[dj]? = some (.list (ds.map fun d : Nat => .int (d : Int)))
  hr : S[j]? = some (.list [.int (rm false), .int (rm true)])
  ld : ds.length ≤ 8
  n3 : n ≤ 3
  l4 : ∀ i, (P i).length ≤ 4
section
variable {S G : Sg} {j n : Nat} {s : Ps} {rm : Bool → Int} {rmv : MV}
theorem Xdw : ∃ T : Sg, T.length = S.length + 9 + n ∧ ∀ G, pS S rmv n s G = T ++ G := by
  refine ⟨S ++ pL S.length rmv (s.ph n) [], ?_, fun G => ?_⟩
  · simp [pL, Ps.ph]; lia
  · simp [pS, pH, pL, List.append_assoc]
theorem Xm8 : (pS S rmv n s G).length = S.length + 9 + n + G.length := by
  obtain ⟨T, h, e⟩ := Xdw (S := S) (n := n) (s := s) (rmv := rmv)
  rw [e, List.length_append, h]
theorem Xo2 {k : Nat} : (pS S rmv n s G)[S.length + 9 + n + k]? = G[k]? := by
  obtain ⟨T, h, e⟩ := Xdw (S := S) (n := n) (s := s) (rmv := rmv)
  rw [e, ← h, List.getElem?_append_right (Nat.le_add_right _ _), Nat.add_sub_cancel_left]
theorem Xoc {k : Nat} {o : MO} : (pS S rmv n s G).set (S.length + 9 + n + k) o = pS S rmv n s (G.set k o) := by
  obtain ⟨T, h, e⟩ := Xdw (S := S) (n := n) (s := s) (rmv := rmv)
  rw [e, e, ← h, List.set_append_right _ _ (Nat.le_add_right _ _), Nat.add_sub_cancel_left]
theorem Xav {α : Type} {f : α → Int} : ∀ {l : List α}, Xaf (l.map fun i => .int (f i)) = some (l.map f)
  | [] => rfl
  | a :: l => congrArg (Option.map (f a :: ·)) (Xav (l := l))
theorem Xih {l : List Nat} {v : Nat} : ((l.map fun i : Nat => (i : Int)).any (· == (v : Int))) = l.contains v := by
  induction l with
  | nil => rfl
  | cons a l ih =>
    simp only [List.map_cons, List.any_cons, List.contains_cons, ih]
    congr 1
    by_cases h : a = v
    · subst h; simp
    · have h1 : ((a : Int) == (v : Int)) = false := by simpa using fun e => h (by lia)
      have h2 : (v == a) = false := by simpa using fun e => h e.symm
      rw [h1, h2]
theorem XjP {σ : Sg} {i : Nat} {k : Int} {l : List MV} {ns : List Int} (h : σ[i]? = some (.list l)) (e : Xaf l = some ns) : inB σ (.int k) (.ref i) = some (ns.any (· == k)) := by
  show ((lsO σ[i]?).bind fun l => (Xaf l).map fun ns => ns.any (· == k)) = _
  rw [h]; show (Xaf l).map _ = _
  rw [e]; rfl
theorem Xeu {σ : Sg} {i v : Nat} {l : List Nat} (h : σ[i]? = some (.list (l.map fun i : Nat => .int (i : Int)))) : Wq (.int v) (.ref i) σ = .ok (.bool (!l.contains v)) σ := by
  have e : inB σ (.int v) (.ref i) = some (l.contains v) := by
    rw [← Xih]; exact XjP h Xav
  unfold Wq; rw [e]; rfl
theorem Xmr {fr : Fr} (h : fr.lookup 62 = some (.ref S.length)) (hl : s.ws.length < 100) :
    Zz (XI (Xc 62) (Xd (.str 26))) [] (XC 37) YU (XI (Xc 37) (Xd (.int 0))) fr (pS S rmv n s G) = .ok (.ref (pS S rmv n s G).length) (pS S rmv n s (G ++ [.list ((s.ws.map Prod.fst).map fun i : Nat => .int (i : Int))])) := by
  unfold Zz
  simp only [Xk, Xj, Xm, XE, Xt, Ym, Xap, h, R.bind, VG, List.length_map]
  have := XbP (x := 37) (I := fun _ => True) (fun _ _ _ => trivial) (f := fun v => match v with | .tup (a :: _) => some a | _ => none) (p := YU) (e := XI (Xc 37) (Xd (.int 0))) (σ := pS S rmv n s G) (i := S.length + 5) (l := s.ws.map Zh) VG (by simp; lia)
    (fun v hv fr acc _ => by
      obtain ⟨r, _, rfl⟩ := List.mem_map.mp hv
      rfl)
    (fun v hv y hy fr acc _ => by
      obtain ⟨r, _, rfl⟩ := List.mem_map.mp hv
      simp only [Zh] at hy
      cases hy
      simp only [Xk, Xj, Xm, XE, Xt, Ym, Xh, if_true, Xan])
    s.ws.length 0 [] [] (by simp) (Nat.le_refl _) trivial
  rw [show frC [] fr = [] from rfl, this]
  rw [Wh]
  congr 4
  simp only [List.nil_append, List.drop_zero, List.filterMap_map]
  congr 1
  induction s.ws with
  | nil => rfl
  | cons a l ih => simp [Zh, ih]
theorem Xhm {α β : Type} {p : α → Bool} {f : α → β} {l : List α} : l.filterMap (fun i => if p i then some (f i) else none) = (l.filter p).map f := by
  induction l with
  | nil =>
    exact rfl
  | cons a l ih =>
    have ih := ih
    cases h : p a <;> simp [h, ih]
theorem Xne {σ : Sg} {fr : Fr} {e w pj : Nat} {en ws : List Nat} {pl : List MV} (hp : fr.lookup 65 = some (.ref pj)) (hpj : σ[pj]? = some (.list pl)) (hn : pl.length = n) (hn3 : n < 1000)
    (he : fr.lookup 8 = some (.ref e)) (hw : fr.lookup 26 = some (.ref w)) (hE : σ[e]? = some (.list (en.map fun i : Nat => .int (i : Int)))) (hW : σ[w]? = some (.list (ws.map fun i : Nat => .int (i : Int)))) :
    Vq (XB ZN (Xe (Xc 65) Xi)) [8, 26] (XC 34) (UO (XN Wq (Xc 34) (Xc 26)) (UO (XN Wq (Xc 34) (Xc 8)) YU)) (Xc 34) fr σ =
      .ok (.ref σ.length) (σ ++ [.list (((List.range n).filter fun i => !ws.contains i && !en.contains i).map fun i : Nat => .int (i : Int))]) := by
  unfold Vq
  have e1 : ZN [.ref pj] σ = .ok (.int n) σ := by
    unfold ZN; dsimp only; rw [hpj]; dsimp only; rw [hn]
    rw [if_pos (by lia)]; rfl
  simp only [Xk, Xj, XA, Xx, Xv, Xn, XU, XT, ZI, hp, e1, R.bind]
  rw [if_pos (by lia)]
  have := XaQ (x := 34) (I := fun fr => fr.lookup 8 = some (.ref e) ∧ fr.lookup 26 = some (.ref w)) (fun fr v h => ⟨by rw [Xh, if_neg (by decide)]; exact h.1, by rw [Xh, if_neg (by decide)]; exact h.2⟩)
    (f := fun i => if !ws.contains i && !en.contains i then some (.int i) else none)
    (p := (UO (XN Wq (Xc 34) (Xc 26)) (UO (XN Wq (Xc 34) (Xc 8)) YU))) (e := Xc 34) (σ := σ) (m := n) hn3
    (fun v hv fr acc hI => by
      cases h : ws.contains v <;> cases h2 : en.contains v <;> simp only [Xk, Xj, XE, Xt, XF, Xz, Ui, Ze, Zc, Ug, Fin.reduceEq, Xh, if_true, if_false, hI.1, hI.2, Xeu (Yv hE), Xeu (Yv hW), h, h2, Bool.not_false, Bool.not_true, Bool.and_self, Bool.and_false, Bool.false_and, Option.isSome, Bool.false_eq_true])
    (fun v hv y hy fr acc hI => by
      simp only [Xk, Xj, Xh, if_true]
      split at hy <;> cases hy
      rfl)
    n 0 (frC [8, 26] fr) [] (by simp) (Nat.le_refl _) ⟨by simp [frC, he, hw], by simp only [frC, List.filterMap_cons, he, hw, Option.map_some, List.filterMap_nil]; rfl⟩
  rw [show ((n : Int).toNat + 1) = n + 1 by simp]
  rw [this]
  simp only [List.nil_append, List.drop_zero, Xhm]
structure K6 (fr : Fr) (pj dj own e tk : Nat) : Prop where
  h1 : fr.lookup 65 = some (.ref pj)
  h2 : fr.lookup 48 = some (.ref dj)
  h3 : fr.lookup 62 = some (.ref own)
  h4 : fr.lookup 8 = some (.ref e)
  h5 : fr.lookup 40 = some (.int tk)
noncomputable def n6 (x : Sy) : Bool := decide (x = 65) || decide (x = 48) || decide (x = 62) || decide (x = 8) || decide (x = 40)
theorem K6.set {fr : Fr} {pj dj own e tk : Nat} (k : K6 fr pj dj own e tk) (x : Sy) (v : MV) (h : n6 x = false) : K6 (fset fr x v) pj dj own e tk := by
  simp only [n6, Bool.or_eq_false_iff, decide_eq_false_iff_not] at h
  refine @cps _ fun Γ γ => ?_
  obtain ⟨⟨⟨⟨a, b⟩, c⟩, d⟩, f⟩ := h
  refine γ ?_; clear γ Γ
  exact ⟨by rw [Xh, if_neg (Ne.symm a)]; exact k.h1, by rw [Xh, if_neg (Ne.symm b)]; exact k.h2, by rw [Xh, if_neg (Ne.symm c)]; exact k.h3, by rw [Xh, if_neg (Ne.symm d)]; exact k.h4, by rw [Xh, if_neg (Ne.symm f)]; exact k.h5⟩
theorem XhT {σ : Sg} {i p : Nat} {l : List Nat} (h : σ[i]? = some (.list (l.map fun i : Nat => .int (i : Int)))) (hp : p < l.length) (h2 : p < 1000) : Zx (.ref i) (.int p) σ = .ok (.int (l.getD p 0 : Nat)) σ :=
  Zr h (by simp [hp]) h2
theorem XhW {σ : Sg} {a b : Nat} (h : 0 < b) : XaT (.int a) (.int b) σ = .ok (.int ((a % b : Nat) : Int)) σ := by
  simp only [XaT]
  rw [if_pos (by lia)]; rfl
theorem Xdp {σ : Sg} {a : Nat} : UJ (.int a) (.int 1) σ = .ok (.int ((a + 1 : Nat) : Int)) σ := rfl
theorem Xa4 {σ : Sg} {i : Nat} {l : List MV} (h : σ[i]? = some (.list l)) (h2 : l.length < 1000) : ZN [.ref i] σ = .ok (.int l.length) σ := by
  unfold ZN; dsimp only; rw [h]; dsimp only
  rw [if_pos (by lia)]; rfl
theorem Xm5 {σ : Sg} {a b : Nat} : oGt (.int a) (.int b) σ = .ok (.bool (decide (a > b))) σ := by
  simp only [oGt, rB]
  congr 2
  simp
theorem Xfi {σ : Sg} {a b : Nat} : oLt (.int a) (.int b) σ = .ok (.bool (decide (a < b))) σ := by
  simp only [oLt, rB]
  congr 2
  simp
theorem XaG {ds : List Nat} {tk m : Nat} (h : 0 < m) : (pick ds tk m).1 < m := by
  unfold pick
  split
  · exact h
  · exact Nat.mod_lt _ h
theorem XnO {σ : Sg} {fr : Fr} {pj dj own e tk sm : Nat} {l ds : List Nat} (k : K6 fr pj dj own e tk) (hs : fr.lookup 70 = some (.ref sm)) (hS : σ[sm]? = some (.list (l.map fun i : Nat => .int (i : Int)))) (hD : σ[dj]? = some (.list (ds.map fun i : Nat => .int (i : Int)))) (h0 : 0 < l.length) (h9 : l.length < 100) (hd : ds.length < 100) (rest : XM) :
    ∃ fr', K6 fr' pj dj own e (pick ds tk l.length).2 ∧ fr'.lookup 34 = some (.int (l.getD (pick ds tk l.length).1 0 : Nat)) ∧
      Xo (YE (XI (Xc 70) (Xd (.int 0))) (XC 34)) (Xo (YZ (XN oGt (XB ZN (Xe (Xc 70) Xi)) (Xd (.int 1))) (Xo (VB (Yw (Xe (XI (Xc 70) (mIf (XN oLt (Xc 40) (XB ZN (Xe (Xc 48) Xi))) (YI XaT (XI (Xc 48) (Xc 40)) (XB ZN (Xe (Xc 70) Xi))) (Xd (.int 0)))) (Xe (YI UJ (Xc 40) (Xd (.int 1))) Xi))) [34, 40]) Xp) Xp) rest) fr σ = rest fr' σ := by
  have g0 : Zx (.ref sm) (.int 0) σ = .ok (.int (l.getD 0 0 : Nat)) σ := XhT (p := 0) hS h0 (by lia)
  have gl : ZN [.ref sm] σ = .ok (.int (l.length : Nat)) σ := by
    have := Xa4 hS (by simp; lia)
    rw [List.length_map] at this; exact this
  have gd : ZN [.ref dj] σ = .ok (.int (ds.length : Nat)) σ := by
    have := Xa4 hD (by simp; lia)
    rw [List.length_map] at this; exact this
  have k1 := k.set 34 (.int (l.getD 0 0 : Nat)) rfl
  have k2 : (fset fr 34 (.int (l.getD 0 0 : Nat))).lookup 70 = some (.ref sm) := by rw [Xh, if_neg (by decide)]; exact hs
  have k3 : (fset fr 34 (.int (l.getD 0 0 : Nat))).lookup 34 = some (.int (l.getD 0 0 : Nat)) := by rw [Xh, if_pos rfl]
  simp only [Xk, Xj, Xm, XE, Xt, Ym, XF, XY, Xx, XU, Yj, Yk, XJ, XQ, Xw, XD, hs, g0]
  generalize fset fr 34 (.int (l.getD 0 0 : Nat)) = fr1 at k1 k2 k3 ⊢
  have gt1 : oGt (.int (l.length : Nat)) (.int 1) σ = .ok (.bool (decide (l.length > 1))) σ := Xm5 (b := 1)
  by_cases h1 : l.length > 1
  · have e1 : pick ds tk l.length = ((ds.getD tk 0) % l.length, tk + 1) := by unfold pick; rw [if_neg (by lia)]
    rw [e1]
    simp only [Xk, Xj, Xm, XE, Xt, Ym, XF, Xz, Vf, XZ, XA, Xx, Xv, Xn, Yx, XU, XT, Ud, Xw, k2, gl, gt1, h1, decide_true, k1.h5, k1.h2, gd, Xfi]
    have gp := XhT (p := ds.getD tk 0 % l.length) hS (Nat.mod_lt _ h0) (by have := Nat.mod_lt (ds.getD tk 0) h0; lia)
    have sw : ∀ v : MV, [v, MV.int ((tk + 1 : Nat) : Int)].length = [(34 : Sy), 40].length := fun _ => rfl
    refine ⟨fset (fset fr1 40 (.int ((tk + 1 : Nat) : Int))) 34 (.int (l.getD (ds.getD tk 0 % l.length) 0 : Nat)), ?_, ?_, ?_⟩
    · refine K6.set (K6.mk ?_ ?_ ?_ ?_ ?_) _ _ rfl
      · rw [Xh, if_neg (by decide)]; exact k1.h1
      · rw [Xh, if_neg (by decide)]; exact k1.h2
      · rw [Xh, if_neg (by decide)]; exact k1.h3
      · rw [Xh, if_neg (by decide)]; exact k1.h4
      · rw [Xh, if_pos rfl]
    · rw [Xh, if_pos rfl]
    · by_cases h2 : tk < ds.length
      · have gk := XhT (p := tk) hD h2 (by lia)
        simp only [Xk, Xj, Xm, YT, XE, Xt, Ym, XZ, XA, Xx, Xv, Xn, Yy, XU, XT, XD, XG, Zs, Uc, h2, decide_true, gk, k1.h5, k1.h2, k2, gl, XhW h0, gp, Xdp, el2, List.length_cons, List.length_nil, WY (sw _), List.reverse_cons, List.reverse_nil, List.nil_append, List.cons_append]
      · have z : ds.getD tk 0 = 0 := by rw [List.getD_eq_getElem?_getD, List.getElem?_eq_none (by lia)]; rfl
        have g0' : Zx (.ref sm) (.int 0) σ = .ok (.int (l.getD (ds.getD tk 0 % l.length) 0 : Nat)) σ := by rw [z, Nat.zero_mod]; exact g0
        simp only [Xk, Xj, Xm, YT, XE, Xt, XR, XA, Xx, Xv, Xn, Yy, XD, XG, Zs, Uc, h2, decide_false, k1.h5, g0', Xdp, el2, List.length_cons, List.length_nil, WY (sw _), List.reverse_cons, List.reverse_nil, List.nil_append, List.cons_append]
  · have e1 : pick ds tk l.length = (0, tk) := by unfold pick; rw [if_pos (by lia)]
    rw [e1]
    simp only [Xj, Xm, XE, Xt, Xz, XR, XA, Xv, Xn, XT, XD, XG, k2, gl, gt1, h1, decide_false]
    exact ⟨fr1, k1, k3, rfl⟩
end
end
section
noncomputable def Xcl : XM := (Xo (YE (Zz (XI (Xc 62) (Xd (.str 26))) [] (XC 37) YU (XI (Xc 37) (Xd (.int 0)))) (XC 26)) (Xo (XaM (Vq (XB ZN (Xe (Xc 65) Xi)) [8, 26] (XC 34) (UO (XN Wq (Xc 34) (Xc 26)) (UO (XN Wq (Xc 34) (Xc 8)) YU)) (Xc 34)) 70) (Xo (YZ (XN oEq (Xc 70) (XO Xi)) (Xo (Zg (Yw (Xe (mIf (XN oNe (Xc 26) (XO Xi)) (Xd (.str 5)) (Xd (.str 12))) (Xe (XI (Xc 62) (Xd (.str 24))) (Xe (XI (Xc 62) (Xd (.str 7))) (Xe (XB XaJ (Xe (Xc 26) Xi)) Xi)))))) Xp) Xp) (Xo (YE (XI (Xc 70) (Xd (.int 0))) (XC 34)) (Xo (YZ (XN oGt (XB ZN (Xe (Xc 70) Xi)) (Xd (.int 1))) (Xo (VB (Yw (Xe (XI (Xc 70) (mIf (XN oLt (Xc 40) (XB ZN (Xe (Xc 48) Xi))) (YI XaT (XI (Xc 48) (Xc 40)) (XB ZN (Xe (Xc 70) Xi))) (Xd (.int 0)))) (Xe (YI UJ (Xc 40) (Xd (.int 1))) Xi))) [34, 40]) Xp) Xp) (Xo (YZ (XN oEq (XI (XI (Xc 62) (Xd (.str 7))) (Xc 34)) (XB ZN (Xe (XI (Xc 65) (Xc 34)) Xi))) (Xo (Zd (mLm Yt (Xc 8) (Xe (Xc 34) Xi))) (Xo (mFl .cont) Xp)) Xp) (Xo (Zd (XB WD (Xe (Xc 62) (Xe (Xc 34) (Xe (XI (XI (Xc 65) (Xc 34)) (XI (XI (Xc 62) (Xd (.str 7))) (Xc 34))) Xi))))) (Xo (YZ (UI (XI (Xc 62) (Xd (.str 14)))) (Xo (Zg (Yw (Xe (Xd (.str 14)) (Xe (Xd .none) (Xe (Xd .none) (Xe (XO Xi) Xi)))))) Xp) Xp) Xp))))))))
noncomputable def WI (s : Ps) : Sy := if s.ws = [] then 12 else 5
noncomputable def wsI (s : Ps) : List Int := (s.ws.map Prod.fst).map fun i : Nat => (i : Int)
noncomputable def Due (S : Sg) (rmv : MV) (n : Nat) : Oc → MV → Sg → Prop
  | .none, _, _ => False
  | .panic, v, _ => ∃ z, v = .tup [.str 14, .none, .none, .ref z]
  | .fin s, v, σ => ∃ z G, v = .tup [.str (WI s), .ref (S.length + 6), .ref (S.length + 8 + n), .ref z] ∧ σ = pS S rmv n s G ∧ σ[z]? = some (.list ((Xa5 (wsI s)).map .int))
section
variable {S G : Sg} {j n : Nat} {s : Ps} {rm : Bool → Int} {rmv : MV} {L : Nat → Nat}
theorem Xpu (f : Nat) : ∀ {s : Ps}, s.W rm n L → (s.lp rm f).W rm n L := by
  induction f with
  | zero =>
    intro s w
    exact w
  | succ f ih =>
    intro s w
    rw [Xjf]
    have w1 := (Xf0 w false).1
    have w2 := (Xf0 w1 true).1
    have w3 := (Xl9 w2).1
    split
    · exact w
    · split
      · exact ih w1
      · split
        · exact ih w2
        · split
          · exact ih w3
          · exact w3
theorem Xif (w : s.W rm n L) {i : Nat} {d : Dd} (hi : i ∉ s.ws.map Prod.fst) (hn : i < n) (hd : s.dn i < L i) : (s.put rm i d).W rm n L := Xpu 10 (Xmi w hi hn hd)
theorem Xai {n : Nat} {s : Ps} {en : List Nat} {i : Nat} (h : i ∈ live n s en) : i < n ∧ i ∉ s.ws.map Prod.fst ∧ i ∉ en := by
  unfold live at h
  obtain ⟨h1, h2⟩ := List.mem_filter.mp h
  simp only [Bool.and_eq_true, Bool.not_eq_true', List.contains_eq_mem, decide_eq_false_iff_not] at h2
  exact ⟨by simpa using h1, h2.1, h2.2⟩
theorem Xkr {n : Nat} {s : Ps} {en : List Nat} : (live n s en).length ≤ n := by
  unfold live
  have := List.length_filter_le (fun i => !(s.ws.map Prod.fst).contains i && !en.contains i) (List.range n)
  simpa using this
theorem XoQ {fr : Fr} {w tk pj dj e : Nat} (k : K6 fr pj dj S.length e tk) (hw : fr.lookup 26 = some (.ref w)) (hW : (pS S rmv n s G)[w]? = some (.list ((s.ws.map Prod.fst).map fun i : Nat => .int (i : Int)))) (hl : s.ws.length ≤ 3) :
    ∃ v σ', Zg (Yw (Xe (mIf (XN oNe (Xc 26) (XO Xi)) (Xd (.str 5)) (Xd (.str 12))) (Xe (XI (Xc 62) (Xd (.str 24))) (Xe (XI (Xc 62) (Xd (.str 7))) (Xe (XB XaJ (Xe (Xc 26) Xi)) Xi))))) fr (pS S rmv n s G) = .ok (.ret v, fr) σ' ∧ Due S rmv n (.fin s) v σ' := by
  have e1 := XbQ hW
  rw [Wh] at e1
  have e2 : XaJ [.ref w] (pS S rmv n s (G ++ [.list []])) = .ok (.ref (pS S rmv n s (G ++ [.list []])).length) (pS S rmv n s (G ++ [.list []] ++ [.list ((Xa5 (wsI s)).map .int)])) := by
    have hW' : (pS S rmv n s (G ++ [.list []]))[w]? = some (.list ((s.ws.map Prod.fst).map fun i : Nat => .int (i : Int))) := by rw [← Wh]; exact Yv hW
    simp only [XaJ, hW', Xav, List.length_map]
    rw [if_pos (by lia), Wh]
    rfl
  have e3 : (pS S rmv n s (G ++ [.list []] ++ [.list ((Xa5 (wsI s)).map .int)]))[(pS S rmv n s (G ++ [.list []])).length]? = some (.list ((Xa5 (wsI s)).map .int)) := by
    rw [← Wh]; exact YC
  refine ⟨_, _, ?_, (pS S rmv n s (G ++ [.list []])).length, _, rfl, rfl, e3⟩
  cases hs : s.ws with
  | nil =>
    rw [hs] at e1
    simp only [Xk, Xj, Xm, XE, Xt, Ym, XF, Xz, Vf, XR, XA, Xx, Xv, Xn, Yx, Yy, Yd, Yf, XU, XT, Yg, Yn, el0, el4, List.length_cons, List.length_nil, hw, Wh, e1, k.h3, XdT, XcG, e2, List.map_nil, List.isEmpty_nil, Bool.not_true, WI, hs, if_true]
  | cons a l =>
    rw [hs] at e1
    simp only [Xk, Xj, Xm, XE, Xt, Ym, XF, Xz, Vf, XZ, XA, Xx, Xv, Xn, Yx, Yy, Yd, Yf, XU, XT, Yg, Yn, reduceCtorEq, el0, el4, List.length_cons, List.length_nil, hw, Wh, e1, k.h3, XdT, XcG, e2, List.map_cons, List.isEmpty_cons, Bool.not_false, WI, hs, if_false]
theorem XkI {P : Nat → List Dd} {ds : List Nat} {pj dj : Nat} {pr : Nat → Nat} (B : Bs S n P ds rm pj j dj pr) {s : Ps} {G : Sg} :
    (pS S (.ref j) n s G)[pj]? = some (.list ((List.range n).map fun i => .ref (pr i))) ∧ (∀ i, i < n → (pS S (.ref j) n s G)[pr i]? = some (.list ((P i).map Dd.mv))) ∧ (pS S (.ref j) n s G)[dj]? = some (.list (ds.map fun d : Nat => .int (d : Int))) :=
  ⟨Xct B.hp, fun i h => Xct (B.hi i h), Xct B.hd⟩
theorem XnT {P : Nat → List Dd} {ds : List Nat} {pj dj : Nat} {pr : Nat → Nat} (B : Bs S n P ds rm pj j dj pr) {fr : Fr} {tk : Nat} {en : List Nat} (k : K6 fr pj dj S.length (S.length + 9 + n + 0) tk) (w : s.W rm n fun i => (P i).length) (hp : s.pn = false) (hen : en.length < 100) :
    if live n s en = [] then ∃ v fr' σ', Xcl fr (pS S (.ref j) n s (.list (en.map fun i : Nat => .int (i : Int)) :: G)) = .ok (.ret v, fr') σ' ∧ Due S (.ref j) n (.fin s) v σ' else
      match (P ((live n s en).getD (pick ds tk (live n s en).length).1 0))[s.dn ((live n s en).getD (pick ds tk (live n s en).length).1 0)]? with
      | .none => ∃ fr' G', Xcl fr (pS S (.ref j) n s (.list (en.map fun i : Nat => .int (i : Int)) :: G)) = .ok (.cont, fr') (pS S (.ref j) n s (.list ((en ++ [(live n s en).getD (pick ds tk (live n s en).length).1 0]).map fun i : Nat => .int (i : Int)) :: G')) ∧ K6 fr' pj dj S.length (S.length + 9 + n + 0) (pick ds tk (live n s en).length).2
      | .some d => if (s.put rm ((live n s en).getD (pick ds tk (live n s en).length).1 0) d).pn then ∃ v fr' σ', Xcl fr (pS S (.ref j) n s (.list (en.map fun i : Nat => .int (i : Int)) :: G)) = .ok (.ret v, fr') σ' ∧ Due S (.ref j) n .panic v σ'
        else ∃ fr' G', Xcl fr (pS S (.ref j) n s (.list (en.map fun i : Nat => .int (i : Int)) :: G)) = .ok (.next, fr') (pS S (.ref j) n (s.put rm ((live n s en).getD (pick ds tk (live n s en).length).1 0) d) (.list (en.map fun i : Nat => .int (i : Int)) :: G')) ∧ K6 fr' pj dj S.length (S.length + 9 + n + 0) (pick ds tk (live n s en).length).2 := by
  have hl := w.wl
  have n3 := B.n3
  generalize hr : Xcl fr (pS S (.ref j) n s (.list (en.map fun i : Nat => .int (i : Int)) :: G)) = r
  unfold Xcl at hr
  have e1 := Xmr (S := S) (rmv := .ref j) (n := n) (s := s) (G := .list (en.map fun i : Nat => .int (i : Int)) :: G) k.h3 (by lia)
  rw [Xw] at hr
  generalize hw : (pS S (.ref j) n s (.list (en.map fun i : Nat => .int (i : Int)) :: G)).length = wj at e1
  have hW : (pS S (.ref j) n s (.list (en.map fun i : Nat => .int (i : Int)) :: G ++ [.list ((s.ws.map Prod.fst).map fun i : Nat => .int (i : Int))]))[wj]? = some (.list ((s.ws.map Prod.fst).map fun i : Nat => .int (i : Int))) := by
    rw [← hw, ← Wh]; exact YC
  rw [List.cons_append] at e1 hW
  rw [Yj, e1, Yk, XQ, XJ, XD, Xw] at hr
  have k1 := k.set 26 (.ref wj) rfl
  have kw : (fset fr 26 (.ref wj)).lookup 26 = some (.ref wj) := by rw [Xh, if_pos rfl]
  generalize fset fr 26 (.ref wj) = fr1 at k1 kw hr
  generalize G ++ [.list ((s.ws.map Prod.fst).map fun i : Nat => .int (i : Int))] = G1 at hW hr
  have hE : ∀ G, (pS S (.ref j) n s (.list (en.map fun i : Nat => .int (i : Int)) :: G))[S.length + 9 + n + 0]? = some (.list (en.map fun i : Nat => .int (i : Int))) := fun G => by rw [Xo2]; rfl
  have e2 := Xne (n := n) k1.h1 (XkI B).1 (by simp) (by lia) k1.h4 kw (hE G1) hW
  rw [UD, e2, Vk, XD, Xw] at hr
  generalize hs : (pS S (.ref j) n s (.list (en.map fun i : Nat => .int (i : Int)) :: G1)).length = sj at hr
  have hS : (pS S (.ref j) n s (.list (en.map fun i : Nat => .int (i : Int)) :: G1 ++ [.list ((live n s en).map fun i : Nat => .int (i : Int))]))[sj]? = some (.list ((live n s en).map fun i : Nat => .int (i : Int))) := by
    rw [← hs, ← Wh]; exact YC
  have hW : (pS S (.ref j) n s (.list (en.map fun i : Nat => .int (i : Int)) :: G1 ++ [.list ((live n s en).map fun i : Nat => .int (i : Int))]))[wj]? = some (.list ((s.ws.map Prod.fst).map fun i : Nat => .int (i : Int))) := by
    rw [← Wh]; exact Yv hW
  rw [Wh, show ((List.range n).filter fun i => !(s.ws.map Prod.fst).contains i && !en.contains i) = live n s en from rfl] at hr
  have k2 := k1.set 70 (.ref sj) rfl
  have kw : (fset fr1 70 (.ref sj)).lookup 26 = some (.ref wj) := by rw [Xh, if_neg (by decide)]; exact kw
  have ks : (fset fr1 70 (.ref sj)).lookup 70 = some (.ref sj) := by rw [Xh, if_pos rfl]
  rw [List.cons_append] at hS hW hr
  generalize fset fr1 70 (.ref sj) = fr2 at k2 kw ks hr
  generalize G1 ++ [.list ((live n s en).map fun i : Nat => .int (i : Int))] = G2 at hS hW hr
  have e3 := Xck hS
  rw [Wh, List.cons_append] at e3
  have hS : (pS S (.ref j) n s (.list (en.map fun i : Nat => .int (i : Int)) :: (G2 ++ [.list []])))[sj]? = some (.list ((live n s en).map fun i : Nat => .int (i : Int))) := by
    rw [← List.cons_append, ← Wh]; exact Yv hS
  have hW : (pS S (.ref j) n s (.list (en.map fun i : Nat => .int (i : Int)) :: (G2 ++ [.list []])))[wj]? = some (.list ((s.ws.map Prod.fst).map fun i : Nat => .int (i : Int))) := by
    rw [← List.cons_append, ← Wh]; exact Yv hW
  simp only [XY, XF, Xk, ks, Xj, XE, Zk, Xt, Wh, List.cons_append, e3, Xz] at hr
  generalize G2 ++ [.list []] = G3 at hS hW hr
  split
  · rename_i hz
    rw [hz] at hr
    refine @cps _ fun Γ γ => ?_
    obtain ⟨v, σ', e4, e5⟩ := XoQ k2 kw hW hl
    refine γ ?_; clear γ Γ
    simp only [List.map_nil, List.isEmpty_nil, XZ, Xw, e4, Xq] at hr
    exact ⟨v, fr2, σ', hr.symm, e5⟩
  · rename_i hz
    have h0 : 0 < (live n s en).length := List.length_pos_iff.mpr hz
    have hne : ((live n s en).map fun i : Nat => MV.int (i : Int)).isEmpty = false := by simpa using hz
    rw [hne, XR, XG, XD] at hr
    have ln := Xkr (n := n) (s := s) (en := en)
    obtain ⟨fr3, k3, kn, e4⟩ := XnO k2 ks hS (XkI B).2.2 h0 (by lia) (by have := B.ld; lia) (Xo (YZ (XN oEq (XI (XI (Xc 62) (Xd (.str 7))) (Xc 34)) (XB ZN (Xe (XI (Xc 65) (Xc 34)) Xi))) (Xo (Zd (mLm Yt (Xc 8) (Xe (Xc 34) Xi))) (Xo (mFl .cont) Xp)) Xp) (Xo (Zd (XB WD (Xe (Xc 62) (Xe (Xc 34) (Xe (XI (XI (Xc 65) (Xc 34)) (XI (XI (Xc 62) (Xd (.str 7))) (Xc 34))) Xi))))) (Xo (YZ (UI (XI (Xc 62) (Xd (.str 14)))) (Xo (Zg (Yw (Xe (Xd (.str 14)) (Xe (Xd .none) (Xe (Xd .none) (Xe (XO Xi) Xi)))))) Xp) Xp) Xp)))
    rw [e4] at hr
    have hm : (live n s en).getD (pick ds tk (live n s en).length).1 0 ∈ live n s en := by
      have := XaG (ds := ds) (tk := tk) h0
      rw [List.getD_eq_getElem?_getD, List.getElem?_eq_getElem this]
      exact List.getElem_mem this
    obtain ⟨hi, hnw, _⟩ := Xai hm
    generalize (live n s en).getD (pick ds tk (live n s en).length).1 0 = i at *
    have gp := Zr (σ := pS S (.ref j) n s (.list (en.map fun i : Nat => .int (i : Int)) :: G3)) (XkI B).1 (j := i) (v := .ref (pr i)) (by simp [hi]) (by lia)
    have gl : ZN [.ref (pr i)] (pS S (.ref j) n s (.list (en.map fun i : Nat => .int (i : Int)) :: G3)) = .ok (.int ((P i).length : Nat)) (pS S (.ref j) n s (.list (en.map fun i : Nat => .int (i : Int)) :: G3)) := by
      have := Xa4 ((XkI B (s := s) (G := .list (en.map fun i : Nat => .int (i : Int)) :: G3)).2.1 i hi) (by have := B.l4 i; simp; lia)
      rw [List.length_map] at this; exact this
    rw [Xw] at hr
    simp only [XY, Xk, Xj, Xm, XE, Xt, Ym, XF, Xz, XY, XA, Xx, Xv, Xn, XU, XT, k3.h3, k3.h1, kn, XcG, Xds hi (show n < 1000 by lia), gp, gl, Xag] at hr
    cases hd : (P i)[s.dn i]? with
    | none =>
      have := List.getElem?_eq_none_iff.mp hd
      have hq : ((s.dn i : Int) == ((P i).length : Int)) = true := by
        have := w.dl i
        simp; lia
      rw [hq] at hr
      have pE : Yt (S.length + 9 + n + 0) (en.map fun i : Nat => .int (i : Int)) [.int i] (pS S (.ref j) n s (.list (en.map fun i : Nat => .int (i : Int)) :: G3)) = .ok .none (pS S (.ref j) n s (.list ((en ++ [i]).map fun i : Nat => .int (i : Int)) :: G3)) := by
        show VS ((en.map fun i : Nat => MV.int (i : Int)).length + 1) _ = _
        rw [UY (by simp; lia), Xoc]
        simp
      simp only [Xk, Xj, XZ, XA, Xx, Xv, Xn, UH, YK, YD, Xau, Xw, XD, Za, k3.h4, kn, Vv (hE G3), Uh (hE G3), pE] at hr
      exact ⟨fr3, G3, hr.symm, k3⟩
    | some d =>
      have hlt := (List.getElem?_eq_some_iff.mp hd).1
      have hq : ((s.dn i : Int) == ((P i).length : Int)) = false := by
        simp; lia
      rw [hq] at hr
      have gd : Zx (.ref (pr i)) (.int (s.dn i : Int)) (pS S (.ref j) n s (.list (en.map fun i : Nat => .int (i : Int)) :: G3)) = .ok d.mv (pS S (.ref j) n s (.list (en.map fun i : Nat => .int (i : Int)) :: G3)) :=
        Zr ((XkI B).2.1 i hi) (by simp [hd]) (by have := B.l4 i; lia)
      obtain ⟨G4, e5⟩ := Xo1 (G := .list (en.map fun i : Nat => .int (i : Int)) :: G3) w B.hr (d := d) hnw hi hlt hp
      rw [List.cons_append] at e5
      simp only [Xk, Xj, Xm, XE, Xt, Ym, Xz, YS, XY, XR, XA, Xx, Xv, Xn, XU, XT, YK, YD, Xw, XD, XG, k3.h3, k3.h1, kn, gp, XcG, Xds hi (show n < 1000 by lia), gd, e5, Wu] at hr
      dsimp only
      split
      · rename_i hpn
        simp only [hpn, Xm, XZ, XA, Xx, Xv, Yx, Yd, Yf, Yg, Xw, List.length_nil] at hr
        exact ⟨_, _, _, hr.symm, _, rfl⟩
      · rename_i hpn
        have hpn : (s.put rm i d).pn = false := by simpa using hpn
        simp only [hpn, XR, XD, XG] at hr
        exact ⟨fr3, _, hr.symm, k3⟩
theorem Xoy {P : Nat → List Dd} {ds : List Nat} {pj dj : Nat} {pr : Nat → Nat} (B : Bs S n P ds rm pj j dj pr) (f : Nat) : ∀ (k : Nat) (fr : Fr) (tk : Nat) (en : List Nat) (s : Ps) (G : Sg), f + k = 40 → en.length ≤ k → K6 fr pj dj S.length (S.length + 9 + n + 0) tk → (s.W rm n fun i => (P i).length) → s.pn = false → run rm n P ds f s en tk ≠ .none →
    ∃ v fr' σ', loopI (nxR 40) (XC 75) Xcl (f + 1) k fr (pS S (.ref j) n s (.list (en.map fun i : Nat => .int (i : Int)) :: G)) = .ok (.ret v, fr') σ' ∧ Due S (.ref j) n (run rm n P ds f s en tk) v σ' := by
  induction f with
  | zero =>
    intro k fr tk en s G hf he kk w hp hn
    exact absurd rfl hn
  | succ f ih =>
    intro k fr tk en s G hf he kk w hp hn
    have it := XnT (G := G) B (kk.set 75 (.int k) rfl) w hp (show en.length < 100 by lia)
    rw [Xh1] at hn ⊢
    rw [UW]
    simp only [nxR, show ((k : Int) < 40) from by lia, if_true, XC, R.bind]
    split at it
    · rename_i hz
      rw [if_pos hz]
      refine @cps _ fun Γ γ => ?_
      obtain ⟨v, fr', σ', e, h⟩ := it
      refine γ ?_; clear γ Γ
      rw [e]
      exact ⟨v, fr', σ', rfl, h⟩
    · rename_i hz
      rw [if_neg hz] at hn ⊢
      simp only at hn ⊢
      have hm : (live n s en).getD (pick ds tk (live n s en).length).1 0 ∈ live n s en := by
        have := XaG (ds := ds) (tk := tk) (List.length_pos_iff.mpr hz)
        rw [List.getD_eq_getElem?_getD, List.getElem?_eq_getElem this]
        exact List.getElem_mem this
      obtain ⟨hi, hnw, _⟩ := Xai hm
      generalize (live n s en).getD (pick ds tk (live n s en).length).1 0 = i at *
      cases hd : (P i)[s.dn i]? with
      | none =>
        rw [hd] at it hn
        simp only at it hn ⊢
        refine @cps _ fun Γ γ => ?_
        obtain ⟨fr', G', e, k'⟩ := it
        refine γ ?_; clear γ Γ
        rw [e]
        exact ih (k + 1) fr' _ (en ++ [i]) s G' (by lia) (by simp; lia) k' w hp hn
      | some d =>
        rw [hd] at it hn
        simp only at it hn ⊢
        split at it
        · rename_i hpn
          rw [if_pos hpn]
          refine @cps _ fun Γ γ => ?_
          obtain ⟨v, fr', σ', e, h⟩ := it
          refine γ ?_; clear γ Γ
          rw [e]
          exact ⟨v, fr', σ', rfl, h⟩
        · rename_i hpn
          rw [if_neg hpn] at hn ⊢
          refine @cps _ fun Γ γ => ?_
          obtain ⟨fr', G', e, k'⟩ := it
          refine γ ?_; clear γ Γ
          rw [e]
          exact ih (k + 1) fr' _ en _ G' (by lia) (by lia) k' (Xif w hnw hi (List.getElem?_eq_some_iff.mp hd).1) (by simpa using hpn) hn
end
end
section
noncomputable def Wt (b k : Nat) : Sg := MO.list ((List.range k).map fun i => MV.ref (b + 1 + i)) :: List.replicate k (MO.list [])
theorem XiY {x : Sy} {σ : Sg} {m : Nat} (hm : m < 1000) (f : Nat) : ∀ (k : Nat) (fr : Fr), f + k = m →
    Uk (nxR m) (XC x) YU (XO Xi) σ.length (f + 1) k fr (σ ++ Wt σ.length k) = .ok (.ref σ.length) (σ ++ Wt σ.length m) := by
  induction f with
  | zero =>
    intro k fr h
    have : k = m := by lia
    subst this
    rw [Uu, nxR, if_neg (by lia)]
  | succ f ih =>
    intro k fr h
    have ih := ih (k + 1) (fset fr x (.int k)) (by lia)
    rw [Uu, nxR, if_pos (by lia)]
    simp only [XC, Zf, R.bind, YU, if_true, Zk, Vo]
    have e1 : (σ ++ Wt σ.length k ++ [MO.list []])[σ.length]? = some (MO.list ((List.range k).map fun i => MV.ref (σ.length + 1 + i))) := by simp [Wt]
    simp only [e1]
    rw [UY (by simp; lia)]
    simp only
    have e2 : (σ ++ Wt σ.length k ++ [MO.list []]).set σ.length (MO.list ((List.range k).map (fun i => MV.ref (σ.length + 1 + i)) ++ [MV.ref (σ ++ Wt σ.length k).length])) = σ ++ Wt σ.length (k + 1) := by
      rw [List.append_assoc, List.set_append_right _ _ (Nat.le_refl _), Nat.sub_self]
      unfold Wt
      rw [List.cons_append, List.set_cons_zero, List.range_succ, List.replicate_succ']
      simp
      lia
    rw [e2, ih]
noncomputable def s0 (c : Int) : Ps := { k := fun _ => [], x := fun _ => false, ow := none, cn := c, ws := [], vals := fun _ => [], dn := fun _ => 0, pn := false }
theorem Xkl {x : Sy} {σ : Sg} {m : Nat} {fr : Fr} {e : EM} (hm : m < 1000) (he : e fr σ = .ok (.int m) σ) :
    Vq e [] (XC x) YU (XO Xi) fr σ = .ok (.ref σ.length) (σ ++ Wt σ.length m) := by
  unfold Vq
  simp only [he, Zf, R.bind]
  rw [if_pos (by lia), show (m : Int).toNat + 1 = m + 1 by simp]
  exact XiY hm m 0 _ (by lia)
theorem UZ {a : EM} {b : EMs} {fr : Fr} {σ σ1 σ2 : Sg} {x : MV} {l : List MV} (h1 : a fr σ = .ok x σ1) (h2 : b fr σ1 = .ok l σ2) : Xe a b fr σ = .ok (x :: l) σ2 := by
  rw [Xx, h1, Xv, h2]; rfl
theorem Xcs {b k : Nat} : (Wt b k).length = k + 1 := by simp [Wt]
theorem XoT {σ : Sg} {n : Nat} (hn : n ≤ 3) : WG (.ref σ.length) (.int n) (σ ++ [.list [.int 0]]) = .ok (.ref (σ.length + 1)) (σ ++ [.list [.int 0]] ++ [.list (List.replicate n (.int 0))]) := by
  simp only [WG, YC]
  rw [if_pos (by lia), UY (by simp)]
  simp
theorem XlJ {S : Sg} {n pj j : Nat} {c : Int} {pl : List MV} (hp : S[pj]? = some (.list pl)) (hn : pl.length = n) (hn3 : n ≤ 3) :
    Wg [.ref pj, .ref j, .int c] S = .ok (.ref S.length) (pS S (.ref j) n (s0 c) []) := by
  unfold Wg
  rw [f3]
  unfold Xax
  have e1 : ZN [.ref pj] S = .ok (.int n) S := by rw [Xa4 hp (by lia), hn]
  have ed : ∃ fr : Fr, fr = [(65, .ref pj), (17, .ref j), (4, .int c), (57, .int n)] := ⟨_, rfl⟩
  obtain ⟨fr, hfr⟩ := ed
  have l1 : fr.lookup 17 = some (.ref j) := by rw [hfr]; rfl
  have l2 : fr.lookup 4 = some (.int c) := by rw [hfr]; rfl
  have l3 : fr.lookup 57 = some (.int n) := by rw [hfr]; rfl
  have step : YE (XB ZN (Xe (Xc 65) Xi)) (XC 57) [(65, .ref pj), (17, .ref j), (4, .int c)] S = .ok (.next, fr) S := by
    rw [hfr]; simp only [Xk, Xj, XA, Xx, Xv, Xn, XU, XT, Yj, Yk, XJ, XQ, Yz, Ya, Zl, Sy.eqb, Fin.reduceBEq, cond_true, cond_false, e1]
  rw [Xw, step, XD, Xw, Yg, Xnt]
  obtain ⟨σ1, h1⟩ : ∃ σ1 : Sg, σ1 = S ++ [.dict []] := ⟨_, rfl⟩
  have c1 : XO (Xe (XO Xi) (Xe (XO Xi) Xi)) fr σ1 = .ok (.ref (σ1.length + 2)) (σ1 ++ [.list [], .list [], .list [.ref σ1.length, .ref (σ1.length + 1)]]) := by
    simp only [Yd, Xx, XA, Yf, el0, List.length_nil, Xv, Xn, List.length_cons, List.length_append, el2, List.append_assoc, List.cons_append, List.nil_append]
  obtain ⟨σ2, h2⟩ : ∃ σ2 : Sg, σ2 = σ1 ++ [.list [], .list [], .list [.ref σ1.length, .ref (σ1.length + 1)]] := ⟨_, rfl⟩
  have c3 : XO (Xe (Xd (.bool false)) (Xe (Xd (.bool false)) Xi)) fr σ2 = .ok (.ref σ2.length) (σ2 ++ [.list [.bool false, .bool false]]) := by
    simp only [Yd, Xx, XA, Xm, Yf, List.length_nil, Xv, Xn, List.length_cons, el2]
  obtain ⟨σ3, h3⟩ : ∃ σ3 : Sg, σ3 = σ2 ++ [.list [.bool false, .bool false]] := ⟨_, rfl⟩
  have c6 : XO Xi fr σ3 = .ok (.ref σ3.length) (σ3 ++ [.list []]) := rfl
  obtain ⟨σ4, h4⟩ : ∃ σ4 : Sg, σ4 = σ3 ++ [.list []] := ⟨_, rfl⟩
  have c7 := Xkl (x := 34) (σ := σ4) (m := n) (fr := fr) (e := Xc 57) (by lia) (by simp only [Xk, l3, Xj])
  obtain ⟨σ5, h5⟩ : ∃ σ5 : Sg, σ5 = σ4 ++ Wt σ4.length n := ⟨_, rfl⟩
  have c8 : YI WG (XO (Xe (Xd (.int 0)) Xi)) (Xc 57) fr σ5 = .ok (.ref (σ5.length + 1)) (σ5 ++ [.list [.int 0]] ++ [.list (List.replicate n (.int 0))]) := by
    simp only [YT, Yd, Xx, Xm, Xv, XA, Xn, Yf, List.length_cons, List.length_nil, el1, XE, Xk, l3, Xj, Xt, XoT hn3]
  obtain ⟨σ6, h6⟩ : ∃ σ6 : Sg, σ6 = σ5 ++ [.list [.int 0]] ++ [.list (List.replicate n (.int 0))] := ⟨_, rfl⟩
  rw [← h1]
  rw [← h2] at c1
  rw [← h3] at c3
  rw [← h4] at c6
  rw [← h5] at c7
  rw [← h6] at c8
  rw [UZ c1 (UZ (x := .ref j) (σ1 := σ2) (by simp only [Xk, l1, Xj]) (UZ c3 (UZ (x := .none) (σ1 := σ3) rfl (UZ (x := .int c) (σ1 := σ3) (by simp only [Xk, l2, Xj]) (UZ c6 (UZ c7 (UZ c8 (UZ (x := .bool false) (σ1 := σ6) rfl (XA (σ := σ6))))))))))]
  have hd : σ6 = S ++ (.dict [] :: [.list [], .list [], .list [.ref σ1.length, .ref (σ1.length + 1)], .list [.bool false, .bool false], .list []] ++ Wt σ4.length n ++ [.list [.int 0], .list (List.replicate n (.int 0))]) := by
    rw [h6, h5, h4, h3, h2, h1]
    simp
  have z1 : σ1.length = S.length + 1 := by rw [h1]; simp
  have z2 : σ2.length = S.length + 4 := by rw [h2]; simp [z1]
  have z3 : σ3.length = S.length + 5 := by rw [h3]; simp [z2]
  have z4 : σ4.length = S.length + 6 := by rw [h4]; simp [z3]
  have z5 : σ5.length = S.length + 7 + n := by rw [h5]; simp [z4, Xcs]; lia
  rw [XnA (by rw [hd]; simp) rfl, Yn, Xq, Xu]
  rw [hd, List.set_append_right _ _ (Nat.le_refl _), Nat.sub_self]
  unfold pS pH pL Wt Ps.ph s0 Xdd Xio
  rw [z1, z2, z3, z4, z5]
  simp
  refine ⟨⟨rfl, by lia⟩, ?_⟩
  simp [Function.comp_def, List.map_const']
section
variable {S : Sg} {j n : Nat} {rm : Bool → Int}
theorem XkT {P : Nat → List Dd} {c : Int} (h0 : ∀ c, 0 ≤ rm c) (h1 : ∀ c, rm c ≤ 1) (n3 : n ≤ 3) (l4 : ∀ i, (P i).length ≤ 4) : (s0 c).W rm n fun i => (P i).length :=
  ⟨by simp [s0], by simp [s0], by simp [s0], by simp [s0], by simpa [s0] using h0, h1, n3, l4⟩
theorem XlC {P : Nat → List Dd} {ds : List Nat} {pj dj : Nat} {pr : Nat → Nat} {c : Int} (B : Bs S n P ds rm pj j dj pr) (h0 : ∀ c, 0 ≤ rm c) (h1 : ∀ c, rm c ≤ 1) (hr : run rm n P ds 40 (s0 c) [] 0 ≠ .none) :
    ∃ v σ', VJ [.ref pj, .ref j, .int c, .ref dj] S = .ok v σ' ∧ Due S (.ref j) n (run rm n P ds 40 (s0 c) [] 0) v σ' := by
  unfold VJ
  rw [f4]
  unfold Xar
  have eb := XlJ (c := c) (j := j) B.hp (n := n) (by simp) B.n3
  have hG : (pS S (.ref j) n (s0 c) [] ++ [.list []]) = pS S (.ref j) n (s0 c) [.list []] := by rw [Wh]; rfl
  have hl : (pS S (.ref j) n (s0 c) []).length = S.length + 9 + n + 0 := by rw [Xm8]; simp
  have hu : ∀ (a b d : MV) (ts : TMs) (fr : Fr) (σ : Sg), ZC 3 ts (.tup [a, b, d]) fr σ = ts [a, b, d] fr σ := fun a b d ts fr σ => XbH rfl
  have kk : K6 [(65, .ref pj), (17, .ref j), (4, .int c), (48, .ref dj), (62, .ref S.length), (40, .int 0), (8, .ref (S.length + 9 + n + 0))] pj dj S.length (S.length + 9 + n + 0) 0 := ⟨rfl, rfl, rfl, rfl, rfl⟩
  have st : YE (Yw (Xe (XB Wg (Xe (Xc 65) (Xe (Xc 17) (Xe (Xc 4) Xi)))) (Xe (Xd (.int 0)) (Xe (XO Xi) Xi)))) (ZC 3 (ZQ (XC 62) (ZQ (XC 40) (ZQ (XC 8) XbA)))) [(65, .ref pj), (17, .ref j), (4, .int c), (48, .ref dj)] S = .ok (.next, [(65, .ref pj), (17, .ref j), (4, .int c), (48, .ref dj), (62, .ref S.length), (40, .int 0), (8, .ref (S.length + 9 + n + 0))]) (pS S (.ref j) n (s0 c) [.list []]) := by
    simp only [Xk, Xj, Xm, XA, Xx, Xv, Xn, Yx, Yy, Yd, Yf, XU, XT, Yj, Yk, XJ, XQ, Zt, YR, YQ, Yz, Ya, Zl, Sy.eqb, Fin.reduceBEq, cond_true, cond_false, eb, hG, hl, List.length_cons, List.length_nil, el0, el3, hu]
  rw [Xw, st, XD, Xw]
  refine @cps _ fun Γ γ => ?_
  obtain ⟨v, fr', σ', e, hd⟩ := Xoy (G := []) B 40 0 _ 0 [] (s0 c) rfl (Nat.le_refl _) kk (XkT h0 h1 B.n3 B.l4) rfl hr
  refine γ ?_; clear γ Γ
  have ef : Xa0 (fun fr σ => Zf ((Xd (.int 40)) fr σ)) (XC 75) Xcl [(65, .ref pj), (17, .ref j), (4, .int c), (48, .ref dj), (62, .ref S.length), (40, .int 0), (8, .ref (S.length + 9 + n + 0))] (pS S (.ref j) n (s0 c) [.list []]) = .ok (.ret v, fr') σ' := by
    unfold Xa0
    simp only [Xm, Zf, R.bind]
    rw [if_pos (by lia)]
    exact e
  unfold Xcl at ef
  rw [ef, Xq]
  exact ⟨v, σ', rfl, hd⟩
end
end
section
inductive Ad where
  | grp | gw | chs | ch (c : Bool) | bf (c : Bool) | sd (c : Bool) | rc (c : Bool) | mu | mw | vs | v (i : Nat) | dn | wd | cho | sch | all | go (i : Nat) | tmp
noncomputable def Ad.code : Ad → Nat × Nat
  | .grp => (0, 0) | .gw => (1, 0) | .chs => (2, 0) | .mu => (3, 0) | .mw => (4, 0) | .vs => (5, 0) | .dn => (6, 0) | .wd => (7, 0) | .cho => (8, 0) | .sch => (9, 0) | .all => (10, 0) | .tmp => (11, 0)
  | .ch c => (12, c.toNat) | .bf c => (13, c.toNat) | .sd c => (14, c.toNat) | .rc c => (15, c.toNat) | .v i => (16, i) | .go i => (17, i)
noncomputable def Ad.decode (p : Nat × Nat) : Ad := ([.grp, .gw, .chs, .mu, .mw, .vs, .dn, .wd, .cho, .sch, .all, .tmp, .ch (p.2 == 1), .bf (p.2 == 1), .sd (p.2 == 1), .rc (p.2 == 1), .v p.2, .go p.2] : List Ad).getD p.1 .tmp
theorem Ad.decode_code (a : Ad) : Ad.decode a.code = a := by
  cases a with
  | ch c => cases c <;> rfl
  | bf c => cases c <;> rfl
  | sd c => cases c <;> rfl
  | rc c => cases c <;> rfl
  | _ => rfl
noncomputable def Ad.dec (a b : Ad) : Decidable (a = b) := if h : a.code = b.code then isTrue (by rw [← a.decode_code, h, b.decode_code]) else isFalse fun e => h (e ▸ rfl)
inductive Gs where
  | ready | blocked | ended
  deriving DecidableEq
noncomputable def Gs.sy : Gs → Sy
  | .ready => 15
  | .blocked => 1
  | .ended => 8
noncomputable def Gs.wf : Gs → Sy → MV
  | .blocked, x => .str x
  | _, _ => .none
structure Ld where
  tmp : Option (List MV)
  fr : Nat → Nat
  wf : Nat → MV
  vals : Nat → List Vl
  dn : Nat → Nat
  here : Option Nat
  tk : Nat
  mw : List Nat
  ow : Option Nat
  gw : List Nat
  st : Nat → Gs
  x : Bool → Bool
  cn : Int
  rc : Bool → List Nat
  sd : Bool → List (Nat × Int)
  k : Bool → List Int
noncomputable def Xd4 (p : Nat × Int) : MV := .tup [.int p.1, .int p.2, .none, .none]
noncomputable def XeI (i : Nat) : MV := .tup [.int i, .none, .none, .none]
noncomputable def iMV (i : Nat) : MV := .int i
noncomputable def ob (rm : Bool → Int) (n dj : Nat) (ad : Ad → Nat) (t : Ld) : Ad → Option MO
  | .grp => some (.inst .waitgroup [(4, .int t.cn), (41, .ref (ad .gw))])
  | .gw => some (.list (t.gw.map iMV))
  | .chs => some (.list [.ref (ad (.ch false)), .ref (ad (.ch true))])
  | .ch c => some (.inst .channel [(36, .int (rm c)), (30, .ref (ad (.bf c))), (38, .ref (ad (.sd c))), (35, .ref (ad (.rc c))), (3, .bool (t.x c))])
  | .bf c => some (.list ((t.k c).map .int))
  | .sd c => some (.list ((t.sd c).map Xd4))
  | .rc c => some (.list ((t.rc c).map XeI))
  | .mu => some (.inst .mutex [(13, oN t.ow), (41, .ref (ad .mw))])
  | .mw => some (.list (t.mw.map iMV))
  | .vs => some (.list ((List.range n).map fun i => .ref (ad (.v i))))
  | .v i => if i < n then some (.list ((t.vals i).map vMV)) else none
  | .dn => some (.list ((List.range n).map fun i => iMV (t.dn i)))
  | .wd => some (.list [.ref (ad .chs), .ref (ad .mu), .ref (ad .grp), .ref (ad .vs), .ref (ad .dn)])
  | .cho => some (.inst .choices [(37, .ref dj), (40, iMV t.tk)])
  | .sch => some (.inst .scheduler [(31, .ref (ad .cho)), (28, .ref (ad .all)), (33, match t.here with | some i => .ref (ad (.go i)) | none => .none)])
  | .all => some (.list ((List.range n).map fun i => .ref (ad (.go i))))
  | .go i => if i < n then some (.inst .goroutine [(34, iMV i), (39, .str (t.st i).sy), (42, t.wf i), (32, .ref (t.fr i)), (29, .none)]) else none
  | .tmp => t.tmp.map .list
structure Lh (S : Sg) (rm : Bool → Int) (n dj : Nat) (ad : Ad → Nat) (t : Ld) (σ : Sg) : Prop where
  at_ : ∀ (a : Ad) (o : MO), ob rm n dj ad t a = some o → σ[ad a]? = some o
  inj : ∀ a a', (ob rm n dj ad t a).isSome = true → (ob rm n dj ad t a').isSome = true → ad a = ad a' → a = a'
  ge : ∀ a, (ob rm n dj ad t a).isSome = true → S.length ≤ ad a
  old : ∀ (i : Nat) (o : MO), S[i]? = some o → σ[i]? = some o
noncomputable def mv (ad : Ad → Nat) (b : Ad) (L : Nat) : Ad → Nat := fun x => @ite Nat (x = b) (Ad.dec x b) L (ad x)
section
variable {S σ : Sg} {rm : Bool → Int} {n dj : Nat} {ad : Ad → Nat} {t t' : Ld}
theorem Lh.push (h : Lh S rm n dj ad t σ) (o : MO) : Lh S rm n dj ad t (σ ++ [o]) :=
  ⟨fun a o' e => Yv (h.at_ a o' e), h.inj, h.ge, fun i o' e => Yv (h.old i o' e)⟩
theorem Xae {σ : Sg} {i j : Nat} {o : MO} (h : i ≠ j) : (σ.set i o)[j]? = σ[j]? := by rw [List.getElem?_set_ne h]
theorem Xku {σ : Sg} {i : Nat} {o o' : MO} (h : σ[i]? = some o') : (σ.set i o)[i]? = some o := by
  rw [List.getElem?_set_self (List.getElem?_eq_some_iff.mp h).1]
theorem Uf {S : Sg} {i : Nat} {o : MO} (h : S[i]? = some o) : i < S.length := (List.getElem?_eq_some_iff.mp h).1
theorem Lh.set (h : Lh S rm n dj ad t σ) (a : Ad) {o o0 : MO} (h0 : ob rm n dj ad t a = some o0) (h1 : ob rm n dj ad t' a = some o) (h2 : ∀ x, x ≠ a → ob rm n dj ad t' x = ob rm n dj ad t x) : Lh S rm n dj ad t' (σ.set (ad a) o) := by
  have key : ∀ x, (ob rm n dj ad t' x).isSome = (ob rm n dj ad t x).isSome := fun x => by
    by_cases e : x = a
    · subst e; rw [h0, h1]; rfl
    · rw [h2 x e]
  refine ⟨fun x o' e => ?_, fun x y hx hy e => h.inj x y (key x ▸ hx) (key y ▸ hy) e, fun x hx => h.ge x (key x ▸ hx), fun i o' e => ?_⟩
  · by_cases ex : x = a
    · subst ex
      rw [h1] at e
      cases e
      exact Xku (h.at_ _ _ h0)
    · rw [h2 x ex] at e
      rw [Xae]
      · exact h.at_ _ _ e
      · exact fun q => ex (h.inj a x (by rw [h0]; rfl) (by rw [e]; rfl) q).symm
  · rw [Xae]
    · exact h.old _ _ e
    · have := h.ge a (by rw [h0]; rfl)
      have := Uf e
      lia
theorem Lh.move (h : Lh S rm n dj ad t σ) (a b : Ad) (L : Nat) {o o0 l : MO} (hab : a ≠ b) (hL : ∀ x, (ob rm n dj ad t x).isSome = true → ad x ≠ L) (hg : S.length ≤ L) (hl : σ[L]? = some l) (h0 : ob rm n dj ad t a = some o0)
    (h1 : ob rm n dj (mv ad b L) t' a = some o) (h3 : ob rm n dj (mv ad b L) t' b = some l) (h2 : ∀ x, x ≠ a → x ≠ b → ob rm n dj (mv ad b L) t' x = ob rm n dj ad t x) : Lh S rm n dj (mv ad b L) t' (σ.set (ad a) o) := by
  have hmb : mv ad b L b = L := by simp [mv]
  have hmx : ∀ x, x ≠ b → mv ad b L x = ad x := fun x hx => by simp [mv, hx]
  have key : ∀ x, x ≠ b → (ob rm n dj (mv ad b L) t' x).isSome = true → (ob rm n dj ad t x).isSome = true := fun x hx hs => by
    by_cases e : x = a
    · subst e; rw [h0]; rfl
    · rw [h2 x e hx] at hs; exact hs
  refine ⟨fun x o' e => ?_, fun x y hx hy e => ?_, fun x hx => ?_, fun i o' e => ?_⟩
  · by_cases ex : x = a
    · subst ex
      rw [h1] at e
      cases e
      rw [hmx _ hab]
      exact Xku (h.at_ _ _ h0)
    · by_cases eb : x = b
      · subst eb
        rw [h3] at e
        cases e
        rw [hmb, Xae]
        · exact hl
        · exact hL a (by rw [h0]; rfl)
      · rw [h2 x ex eb] at e
        rw [hmx _ eb, Xae]
        · exact h.at_ _ _ e
        · exact fun q => ex (h.inj a x (by rw [h0]; rfl) (by rw [e]; rfl) q).symm
  · by_cases eb : x = b <;> by_cases ec : y = b
    · rw [eb, ec]
    · subst eb
      rw [hmb, hmx _ ec] at e
      exact absurd e.symm (hL y (key y ec hy))
    · subst ec
      rw [hmb, hmx _ eb] at e
      exact absurd e (hL x (key x eb hx))
    · rw [hmx _ eb, hmx _ ec] at e
      exact h.inj x y (key x eb hx) (key y ec hy) e
  · by_cases eb : x = b
    · subst eb; rw [hmb]; exact hg
    · rw [hmx _ eb]; exact h.ge x (key x eb hx)
  · rw [Xae]
    · exact h.old _ _ e
    · have := h.ge a (by rw [h0]; rfl)
      have := Uf e
      lia
theorem Lh.tmp (h : Lh S rm n dj ad t σ) (L : Nat) (l : List MV) (hL : ∀ x, (ob rm n dj ad t x).isSome = true → ad x ≠ L) (hg : S.length ≤ L) (hl : σ[L]? = some (.list l)) : Lh S rm n dj (mv ad .tmp L) { t with tmp := some l } σ := by
  have hmb : mv ad .tmp L .tmp = L := by simp [mv]
  have hmx : ∀ x, x ≠ .tmp → mv ad .tmp L x = ad x := fun x hx => by simp [mv, hx]
  have h2 : ∀ x, x ≠ .tmp → ob rm n dj (mv ad .tmp L) { t with tmp := some l } x = ob rm n dj ad t x := fun x hx => by
    cases x <;> first | rfl | (exfalso; exact hx rfl)
  refine ⟨fun x o' e => ?_, fun x y hx hy e => ?_, fun x hx => ?_, h.old⟩
  · by_cases eb : x = .tmp
    · subst eb
      cases e
      rw [hmb]; exact hl
    · rw [h2 x eb] at e
      rw [hmx _ eb]; exact h.at_ _ _ e
  · by_cases eb : x = .tmp <;> by_cases ec : y = .tmp
    · rw [eb, ec]
    · subst eb
      rw [hmb, hmx _ ec] at e
      rw [h2 _ ec] at hy
      exact absurd e.symm (hL y hy)
    · subst ec
      rw [hmb, hmx _ eb] at e
      rw [h2 _ eb] at hx
      exact absurd e (hL x hx)
    · rw [hmx _ eb, hmx _ ec] at e
      rw [h2 _ eb] at hx
      rw [h2 _ ec] at hy
      exact h.inj x y hx hy e
  · by_cases eb : x = .tmp
    · subst eb; rw [hmb]; exact hg
    · rw [hmx _ eb]; rw [h2 _ eb] at hx; exact h.ge x hx
theorem Lh.fresh (h : Lh S rm n dj ad t σ) {k : Nat} : ∀ x, (ob rm n dj ad t x).isSome = true → ad x ≠ σ.length + k := fun x hx => by
  obtain ⟨o, ho⟩ := Option.isSome_iff_exists.mp hx
  have := Uf (h.at_ _ _ ho)
  lia
theorem Lh.len (h : Lh S rm n dj ad t σ) : S.length ≤ σ.length := by
  have := h.ge .grp rfl
  have := Uf (h.at_ .grp _ rfl)
  lia
end
end
section
noncomputable def wH (rm : Bool → Int) (n dj : Nat) (ad : Ad → Nat) (t : Ld) (a : Ad) (σ : Sg) : Sg := σ.set (ad a) ((ob rm n dj ad t a).getD (.list []))
theorem ZV {σ : Sg} {i : Nat} {c : Cl} {f : Sy} {l : List (Sy × MV)} {v : MV} (h : σ[i]? = some (.inst c l)) (hl : l.lookup f = some v) : UF c f (.ref i) σ = .ok v σ := by
  simp only [UF, h, if_true, hl, rO]
theorem UV {σ : Sg} {i : Nat} {c : Cl} {f : Sy} {l : List (Sy × MV)} {v : MV} (h : σ[i]? = some (.inst c l)) (hl : l.length < 100) : Zb c f v (.ref i) σ = .ok () (σ.set i (.inst c (fset l f v))) := by
  simp only [Zb, h]
  rw [if_pos ⟨trivial, hl⟩]
theorem ubd_self {α : Type} {f : Bool → α} {i : Bool} {v : α} : ubd f i v i = v := by simp [ubd]
theorem Xac {α : Type} {f : Bool → α} {i j : Bool} {v : α} (h : j ≠ i) : ubd f i v j = f j := by simp [ubd, h]
theorem UT {α : Type} {f : Nat → α} {i : Nat} {v : α} : upd f i v i = v := by simp [upd]
theorem Xa3 {α : Type} {f : Nat → α} {i j : Nat} {v : α} (h : j ≠ i) : upd f i v j = f j := by simp [upd, h]
section
variable {S σ : Sg} {rm : Bool → Int} {n dj : Nat} {ad : Ad → Nat} {t : Ld}
theorem Lh.wr (h : Lh S rm n dj ad t σ) (a : Ad) (t' : Ld) (h0 : (ob rm n dj ad t a).isSome = true) (h1 : (ob rm n dj ad t' a).isSome = true) (h2 : ∀ x, x ≠ a → ob rm n dj ad t' x = ob rm n dj ad t x) : Lh S rm n dj ad t' (wH rm n dj ad t' a σ) := by
  obtain ⟨o0, e0⟩ := Option.isSome_iff_exists.mp h0
  obtain ⟨o1, e1⟩ := Option.isSome_iff_exists.mp h1
  unfold wH
  rw [e1]
  exact h.set a e0 e1 h2
-- reads
theorem Lh.r_closed (h : Lh S rm n dj ad t σ) (c : Bool) : UF .channel 3 (.ref (ad (.ch c))) σ = .ok (.bool (t.x c)) σ := ZV (h.at_ (.ch c) _ rfl) rfl
theorem Lh.r_recv (h : Lh S rm n dj ad t σ) (c : Bool) : UF .channel 35 (.ref (ad (.ch c))) σ = .ok (.ref (ad (.rc c))) σ := ZV (h.at_ (.ch c) _ rfl) rfl
theorem Lh.r_send (h : Lh S rm n dj ad t σ) (c : Bool) : UF .channel 38 (.ref (ad (.ch c))) σ = .ok (.ref (ad (.sd c))) σ := ZV (h.at_ (.ch c) _ rfl) rfl
theorem Lh.r_buf (h : Lh S rm n dj ad t σ) (c : Bool) : UF .channel 30 (.ref (ad (.ch c))) σ = .ok (.ref (ad (.bf c))) σ := ZV (h.at_ (.ch c) _ rfl) rfl
theorem Lh.r_room (h : Lh S rm n dj ad t σ) (c : Bool) : UF .channel 36 (.ref (ad (.ch c))) σ = .ok (.int (rm c)) σ := ZV (h.at_ (.ch c) _ rfl) rfl
theorem Lh.r_owner (h : Lh S rm n dj ad t σ) : UF .mutex 13 (.ref (ad .mu)) σ = .ok (oN t.ow) σ := ZV (h.at_ .mu _ rfl) rfl
theorem Lh.r_mwait (h : Lh S rm n dj ad t σ) : UF .mutex 41 (.ref (ad .mu)) σ = .ok (.ref (ad .mw)) σ := ZV (h.at_ .mu _ rfl) rfl
theorem Lh.r_count (h : Lh S rm n dj ad t σ) : UF .waitgroup 4 (.ref (ad .grp)) σ = .ok (.int t.cn) σ := ZV (h.at_ .grp _ rfl) rfl
theorem Lh.r_gwait (h : Lh S rm n dj ad t σ) : UF .waitgroup 41 (.ref (ad .grp)) σ = .ok (.ref (ad .gw)) σ := ZV (h.at_ .grp _ rfl) rfl
theorem Lh.r_choices (h : Lh S rm n dj ad t σ) : UF .scheduler 31 (.ref (ad .sch)) σ = .ok (.ref (ad .cho)) σ := ZV (h.at_ .sch _ rfl) rfl
theorem Lh.r_all (h : Lh S rm n dj ad t σ) : UF .scheduler 28 (.ref (ad .sch)) σ = .ok (.ref (ad .all)) σ := ZV (h.at_ .sch _ rfl) rfl
theorem Lh.r_here (h : Lh S rm n dj ad t σ) {i : Nat} (e : t.here = some i) : UF .scheduler 33 (.ref (ad .sch)) σ = .ok (.ref (ad (.go i))) σ := by
  refine ZV (h.at_ .sch _ rfl) ?_
  rw [e]; rfl
theorem Lh.r_row (h : Lh S rm n dj ad t σ) : UF .choices 37 (.ref (ad .cho)) σ = .ok (.ref dj) σ := ZV (h.at_ .cho _ rfl) rfl
theorem Lh.r_taken (h : Lh S rm n dj ad t σ) : UF .choices 40 (.ref (ad .cho)) σ = .ok (.int t.tk) σ := ZV (h.at_ .cho _ rfl) rfl
theorem Lh.at_go (h : Lh S rm n dj ad t σ) {i : Nat} (hi : i < n) : σ[ad (.go i)]? = some (.inst .goroutine [(34, iMV i), (39, .str (t.st i).sy), (42, t.wf i), (32, .ref (t.fr i)), (29, .none)]) := h.at_ (.go i) _ (by simp [ob, hi])
theorem Lh.r_num (h : Lh S rm n dj ad t σ) {i : Nat} (hi : i < n) : UF .goroutine 34 (.ref (ad (.go i))) σ = .ok (.int i) σ := ZV (h.at_go hi) rfl
theorem Lh.r_state (h : Lh S rm n dj ad t σ) {i : Nat} (hi : i < n) : UF .goroutine 39 (.ref (ad (.go i))) σ = .ok (.str (t.st i).sy) σ := ZV (h.at_go hi) rfl
theorem Lh.r_wf (h : Lh S rm n dj ad t σ) {i : Nat} (hi : i < n) : UF .goroutine 42 (.ref (ad (.go i))) σ = .ok (t.wf i) σ := ZV (h.at_go hi) rfl
theorem Lh.at_v (h : Lh S rm n dj ad t σ) {i : Nat} (hi : i < n) : σ[ad (.v i)]? = some (.list ((t.vals i).map vMV)) := h.at_ (.v i) _ (by simp [ob, hi])
theorem Lh.at_bf (h : Lh S rm n dj ad t σ) (c : Bool) : σ[ad (.bf c)]? = some (.list ((t.k c).map .int)) := h.at_ (.bf c) _ rfl
theorem Lh.at_sd (h : Lh S rm n dj ad t σ) (c : Bool) : σ[ad (.sd c)]? = some (.list ((t.sd c).map Xd4)) := h.at_ (.sd c) _ rfl
theorem Lh.at_rc (h : Lh S rm n dj ad t σ) (c : Bool) : σ[ad (.rc c)]? = some (.list ((t.rc c).map XeI)) := h.at_ (.rc c) _ rfl
theorem Lh.at_mw (h : Lh S rm n dj ad t σ) : σ[ad .mw]? = some (.list (t.mw.map iMV)) := h.at_ .mw _ rfl
theorem Lh.at_gw (h : Lh S rm n dj ad t σ) : σ[ad .gw]? = some (.list (t.gw.map iMV)) := h.at_ .gw _ rfl
theorem Lh.at_all (h : Lh S rm n dj ad t σ) : σ[ad .all]? = some (.list ((List.range n).map fun i => .ref (ad (.go i)))) := h.at_ .all _ rfl
theorem Lh.at_vs (h : Lh S rm n dj ad t σ) : σ[ad .vs]? = some (.list ((List.range n).map fun i => .ref (ad (.v i)))) := h.at_ .vs _ rfl
theorem Lh.at_dn (h : Lh S rm n dj ad t σ) : σ[ad .dn]? = some (.list ((List.range n).map fun i => iMV (t.dn i))) := h.at_ .dn _ rfl
-- writes
theorem Lh.s_x (h : Lh S rm n dj ad t σ) (c b : Bool)  : Zb .channel 3 (.bool b) (.ref (ad (.ch c))) σ = .ok () (wH rm n dj ad { t with x := ubd t.x c b } (.ch c) σ) ∧ Lh S rm n dj ad { t with x := ubd t.x c b } (wH rm n dj ad { t with x := ubd t.x c b } (.ch c) σ) := by
  refine ⟨?_, h.wr (.ch c) { t with x := ubd t.x c b } (rfl) (rfl) (fun x hx => by cases x <;> first | rfl | (rename_i y; have hy : y ≠ c := fun e => hx (e ▸ rfl); simp only [ob, Xac hy]))⟩
  rw [UV (h.at_ (.ch c) _ rfl) (by simp)]
  first | rfl | simp [wH, ob, Zl, Ya, Sy.eqb, Fin.reduceBEq, ubd_self]
theorem Lh.s_ow (h : Lh S rm n dj ad t σ) (o : Option Nat)  : Zb .mutex 13 (oN o) (.ref (ad .mu)) σ = .ok () (wH rm n dj ad { t with ow := o } .mu σ) ∧ Lh S rm n dj ad { t with ow := o } (wH rm n dj ad { t with ow := o } .mu σ) := by
  refine ⟨?_, h.wr .mu { t with ow := o } (rfl) (rfl) (fun x hx => by cases x <;> first | rfl | (exact absurd rfl hx))⟩
  rw [UV (h.at_ .mu _ rfl) (by simp)]
  first | rfl | simp [wH, ob, Zl, Ya, Sy.eqb, Fin.reduceBEq, ubd_self, UT, oN, iMV]
theorem Lh.s_cn (h : Lh S rm n dj ad t σ) (c : Int)  : Zb .waitgroup 4 (.int c) (.ref (ad .grp)) σ = .ok () (wH rm n dj ad { t with cn := c } .grp σ) ∧ Lh S rm n dj ad { t with cn := c } (wH rm n dj ad { t with cn := c } .grp σ) := by
  refine ⟨?_, h.wr .grp { t with cn := c } (rfl) (rfl) (fun x hx => by cases x <;> first | rfl | (exact absurd rfl hx))⟩
  rw [UV (h.at_ .grp _ rfl) (by simp)]
  first | rfl | simp [wH, ob, Zl, Ya, Sy.eqb, Fin.reduceBEq, ubd_self, UT, oN, iMV]
theorem Lh.s_tk (h : Lh S rm n dj ad t σ) (k : Nat)  : Zb .choices 40 (.int k) (.ref (ad .cho)) σ = .ok () (wH rm n dj ad { t with tk := k } .cho σ) ∧ Lh S rm n dj ad { t with tk := k } (wH rm n dj ad { t with tk := k } .cho σ) := by
  refine ⟨?_, h.wr .cho { t with tk := k } (rfl) (rfl) (fun x hx => by cases x <;> first | rfl | (exact absurd rfl hx))⟩
  rw [UV (h.at_ .cho _ rfl) (by simp)]
  first | rfl | simp [wH, ob, Zl, Ya, Sy.eqb, Fin.reduceBEq, ubd_self, UT, oN, iMV]
theorem Lh.s_here (h : Lh S rm n dj ad t σ) (i : Nat)  : Zb .scheduler 33 (.ref (ad (.go i))) (.ref (ad .sch)) σ = .ok () (wH rm n dj ad { t with here := some i } .sch σ) ∧ Lh S rm n dj ad { t with here := some i } (wH rm n dj ad { t with here := some i } .sch σ) := by
  refine ⟨?_, h.wr .sch { t with here := some i } (rfl) (rfl) (fun x hx => by cases x <;> first | rfl | (exact absurd rfl hx))⟩
  rw [UV (h.at_ .sch _ rfl) (by simp)]
  first | rfl | simp [wH, ob, Zl, Ya, Sy.eqb, Fin.reduceBEq, ubd_self, UT, oN, iMV]
theorem Lh.s_st (h : Lh S rm n dj ad t σ) {i : Nat} (g : Gs) (hi : i < n) : Zb .goroutine 39 (.str g.sy) (.ref (ad (.go i))) σ = .ok () (wH rm n dj ad { t with st := upd t.st i g } (.go i) σ) ∧ Lh S rm n dj ad { t with st := upd t.st i g } (wH rm n dj ad { t with st := upd t.st i g } (.go i) σ) := by
  refine ⟨?_, h.wr (.go i) { t with st := upd t.st i g } (by simp [ob, hi]) (by simp [ob, hi]) (fun x hx => by cases x <;> first | rfl | (rename_i y; have hy : y ≠ i := fun e => hx (e ▸ rfl); simp only [ob, Xa3 hy]))⟩
  rw [UV (h.at_go hi) (by simp)]
  first | rfl | simp [wH, ob, Zl, Ya, Sy.eqb, Fin.reduceBEq, UT, iMV, hi]
theorem Lh.s_wf (h : Lh S rm n dj ad t σ) {i : Nat} (m : MV) (hi : i < n) : Zb .goroutine 42 m (.ref (ad (.go i))) σ = .ok () (wH rm n dj ad { t with wf := upd t.wf i m } (.go i) σ) ∧ Lh S rm n dj ad { t with wf := upd t.wf i m } (wH rm n dj ad { t with wf := upd t.wf i m } (.go i) σ) := by
  refine ⟨?_, h.wr (.go i) { t with wf := upd t.wf i m } (by simp [ob, hi]) (by simp [ob, hi]) (fun x hx => by cases x <;> first | rfl | (rename_i y; have hy : y ≠ i := fun e => hx (e ▸ rfl); simp only [ob, Xa3 hy]))⟩
  rw [UV (h.at_go hi) (by simp)]
  first | rfl | simp [wH, ob, Zl, Ya, Sy.eqb, Fin.reduceBEq, UT, iMV, hi]
theorem Lh.s_fr (h : Lh S rm n dj ad t σ) {i : Nat} (r : Nat) (hi : i < n) : Zb .goroutine 32 (.ref r) (.ref (ad (.go i))) σ = .ok () (wH rm n dj ad { t with fr := upd t.fr i r } (.go i) σ) ∧ Lh S rm n dj ad { t with fr := upd t.fr i r } (wH rm n dj ad { t with fr := upd t.fr i r } (.go i) σ) := by
  refine ⟨?_, h.wr (.go i) { t with fr := upd t.fr i r } (by simp [ob, hi]) (by simp [ob, hi]) (fun x hx => by cases x <;> first | rfl | (rename_i y; have hy : y ≠ i := fun e => hx (e ▸ rfl); simp only [ob, Xa3 hy]))⟩
  rw [UV (h.at_go hi) (by simp)]
  first | rfl | simp [wH, ob, Zl, Ya, Sy.eqb, Fin.reduceBEq, UT, iMV, hi]
theorem Lh.s_bf (h : Lh S rm n dj ad t σ) (c : Bool) (l : List Int)  : σ.set (ad (.bf c)) (.list (l.map .int)) = (wH rm n dj ad { t with k := ubd t.k c l } (.bf c) σ) ∧ Lh S rm n dj ad { t with k := ubd t.k c l } (wH rm n dj ad { t with k := ubd t.k c l } (.bf c) σ) := by
  refine ⟨?_, h.wr (.bf c) { t with k := ubd t.k c l } (rfl) (rfl) (fun x hx => by cases x <;> first | rfl | (rename_i y; have hy : y ≠ c := fun e => hx (e ▸ rfl); simp only [ob, Xac hy]))⟩
  first | rfl | simp [wH, ob, ubd_self]
theorem Lh.s_sd (h : Lh S rm n dj ad t σ) (c : Bool) (l : List (Nat × Int))  : σ.set (ad (.sd c)) (.list (l.map Xd4)) = (wH rm n dj ad { t with sd := ubd t.sd c l } (.sd c) σ) ∧ Lh S rm n dj ad { t with sd := ubd t.sd c l } (wH rm n dj ad { t with sd := ubd t.sd c l } (.sd c) σ) := by
  refine ⟨?_, h.wr (.sd c) { t with sd := ubd t.sd c l } (rfl) (rfl) (fun x hx => by cases x <;> first | rfl | (rename_i y; have hy : y ≠ c := fun e => hx (e ▸ rfl); simp only [ob, Xac hy]))⟩
  first | rfl | simp [wH, ob, ubd_self]
theorem Lh.s_rc (h : Lh S rm n dj ad t σ) (c : Bool) (l : List Nat)  : σ.set (ad (.rc c)) (.list (l.map XeI)) = (wH rm n dj ad { t with rc := ubd t.rc c l } (.rc c) σ) ∧ Lh S rm n dj ad { t with rc := ubd t.rc c l } (wH rm n dj ad { t with rc := ubd t.rc c l } (.rc c) σ) := by
  refine ⟨?_, h.wr (.rc c) { t with rc := ubd t.rc c l } (rfl) (rfl) (fun x hx => by cases x <;> first | rfl | (rename_i y; have hy : y ≠ c := fun e => hx (e ▸ rfl); simp only [ob, Xac hy]))⟩
  first | rfl | simp [wH, ob, ubd_self]
theorem Lh.s_mw (h : Lh S rm n dj ad t σ) (l : List Nat)  : σ.set (ad .mw) (.list (l.map iMV)) = (wH rm n dj ad { t with mw := l } .mw σ) ∧ Lh S rm n dj ad { t with mw := l } (wH rm n dj ad { t with mw := l } .mw σ) := by
  refine ⟨?_, h.wr .mw { t with mw := l } (rfl) (rfl) (fun x hx => by cases x <;> first | rfl | (exact absurd rfl hx))⟩
  first | rfl | simp [wH, ob, ubd_self, UT]
theorem Lh.s_gw (h : Lh S rm n dj ad t σ) (l : List Nat)  : σ.set (ad .gw) (.list (l.map iMV)) = (wH rm n dj ad { t with gw := l } .gw σ) ∧ Lh S rm n dj ad { t with gw := l } (wH rm n dj ad { t with gw := l } .gw σ) := by
  refine ⟨?_, h.wr .gw { t with gw := l } (rfl) (rfl) (fun x hx => by cases x <;> first | rfl | (exact absurd rfl hx))⟩
  first | rfl | simp [wH, ob, ubd_self, UT]
theorem Lh.s_v (h : Lh S rm n dj ad t σ) {i : Nat} (l : List Vl) (hi : i < n) : σ.set (ad (.v i)) (.list (l.map vMV)) = (wH rm n dj ad { t with vals := upd t.vals i l } (.v i) σ) ∧ Lh S rm n dj ad { t with vals := upd t.vals i l } (wH rm n dj ad { t with vals := upd t.vals i l } (.v i) σ) := by
  refine ⟨?_, h.wr (.v i) { t with vals := upd t.vals i l } (by simp [ob, hi]) (by simp [ob, hi]) (fun x hx => by cases x <;> first | rfl | (rename_i y; have hy : y ≠ i := fun e => hx (e ▸ rfl); simp only [ob, Xa3 hy]))⟩
  first | rfl | simp [wH, ob, UT, hi]
theorem Lh.s_dn (h : Lh S rm n dj ad t σ) (d : Nat → Nat)  : σ.set (ad .dn) (.list ((List.range n).map fun i => iMV (d i))) = (wH rm n dj ad { t with dn := d } .dn σ) ∧ Lh S rm n dj ad { t with dn := d } (wH rm n dj ad { t with dn := d } .dn σ) := by
  refine ⟨?_, h.wr .dn { t with dn := d } (rfl) (rfl) (fun x hx => by cases x <;> first | rfl | (exact absurd rfl hx))⟩
  first | rfl | simp [wH, ob, ubd_self, UT]
end
end
section
set_option genInjectivity false in
inductive What where
  | sent | recv (v : Vl) | panic
set_option genInjectivity false in
inductive LRow where
  | done (v : Option Vl) | blocked | panic (t : Sy) | woken (g : Nat) (w : What)
noncomputable def What.mv : What → MV
  | .sent => .tup [.str 21]
  | .recv v => .tup [.str 16, oI v.1, .bool v.2]
  | .panic => .tup [.str 14, .str 19]
noncomputable def LRow.mv : LRow → MV
  | .done none => .tup [.str 7]
  | .done (some v) => .tup [.str 7, oI v.1, .bool v.2]
  | .blocked => .tup [.str 1]
  | .panic t => .tup [.str 14, .str t]
  | .woken g w => .tup [.str 27, .int g, .none, .none, w.mv]
noncomputable def Ld.offer (rm : Bool → Int) (t : Ld) (c : Bool) (i : Nat) (v : Int) : List LRow × Ld :=
  if t.x c then ([.panic 19], t) else match t.rc c with
    | g :: r => ([.done none, .woken g (.recv (some v, true))], { t with rc := ubd t.rc c r })
    | [] => if ((t.k c).length : Int) < rm c then ([.done none], { t with k := ubd t.k c (t.k c ++ [v]) }) else ([.blocked], { t with sd := ubd t.sd c (t.sd c ++ [(i, v)]) })
noncomputable def Ld.take (t : Ld) (c : Bool) (i : Nat) : List LRow × Ld :=
  match t.k c, t.sd c with
  | v :: k, [] => ([.done (some (some v, true))], { t with k := ubd t.k c k })
  | v :: k, (g, u) :: r => ([.done (some (some v, true)), .woken g .sent], { t with k := ubd t.k c (k ++ [u]), sd := ubd t.sd c r })
  | [], (g, u) :: r => ([.done (some (some u, true)), .woken g .sent], { t with sd := ubd t.sd c r })
  | [], [] => if t.x c then ([.done (some (none, false))], t) else ([.blocked], { t with rc := ubd t.rc c (t.rc c ++ [i]) })
noncomputable def Ld.close (t : Ld) (c : Bool) : List LRow × Ld :=
  if t.x c then ([.panic 20], t) else
    (.done none :: ((t.rc c).map (fun g => .woken g (.recv (none, false))) ++ (t.sd c).map (fun p => .woken p.1 .panic)), { t with x := ubd t.x c true, rc := ubd t.rc c [], sd := ubd t.sd c [] })
structure Ld.Bd (t : Ld) : Prop where
  k : ∀ c, (t.k c).length < 100
  sd : ∀ c, (t.sd c).length < 100
  rc : ∀ c, (t.rc c).length < 100
  mw : t.mw.length < 100
  gw : t.gw.length < 100
section
variable {S σ : Sg} {rm : Bool → Int} {n dj : Nat} {ad : Ad → Nat} {t : Ld}
theorem el5 {α : Type} {r : R α} : VS (0 + 1 + 1 + 1 + 1 + 1) r = r := rfl
theorem Xkc {σ : Sg} {a b c d : MV} {l : List MV} : Zx (.tup (a :: b :: c :: d :: l)) (.int 3) σ = .ok d σ := rfl
theorem Xdm {σ : Sg} {a b c d what : MV} : UK [.tup [a, b, c, d], what] σ = .ok (.tup [.str 27, a, c, d, what]) σ := by
  unfold UK
  rw [f2]
  unfold XaC
  simp only [Xk, Xj, Xm, XE, Xt, Ym, XA, Xx, Xv, Xn, Yx, Yy, Xu, Yg, Yn, Xw, Xq, Yz, Sy.eqb, Fin.reduceBEq, cond_true, cond_false, Vb, Xhr, Xkc, el5, List.length_cons, List.length_nil]
noncomputable def mov : Ad → Bool
  | .rc _ => true
  | .sd _ => true
  | .gw => true
  | .tmp => true
  | _ => false
noncomputable def Same (ad ad' : Ad → Nat) : Prop := ∀ a, mov a = false → ad' a = ad a
theorem Same.refl {ad : Ad → Nat} : Same ad ad := fun _ _ => rfl
theorem Same.mv {ad ad' : Ad → Nat} (h : Same ad ad') {b : Ad} {L : Nat} (hb : mov b = true) : Same ad (mv ad' b L) := fun a ha => by
  unfold Mine.Internal.mv
  rw [if_neg (fun e => by rw [e, hb] at ha; cases ha)]
  exact h a ha
theorem Same.trans {ad ad' ad'' : Ad → Nat} (h : Same ad ad') (k : Same ad' ad'') : Same ad ad'' := fun a ha => (k a ha).trans (h a ha)
noncomputable def XkJ (S : Sg) (rm : Bool → Int) (n dj : Nat) (ad : Ad → Nat) (m : R MV) (p : List LRow × Ld) : Prop :=
  ∃ σ' ad', m = .ok (.ref (ad' .tmp)) σ' ∧ Same ad ad' ∧ Lh S rm n dj ad' { p.2 with tmp := some (p.1.map LRow.mv) } σ'
theorem ZW {ad' : Ad → Nat} {p : List LRow × Ld} {t' : Ld} {m : R MV} (s : Same ad ad') (h : Lh S rm n dj ad' t' σ) (ht : { t' with tmp := some (p.1.map LRow.mv) } = { p.2 with tmp := some (p.1.map LRow.mv) }) (e : m = .ok (.ref σ.length) (σ ++ [.list (p.1.map LRow.mv)])) : XkJ S rm n dj ad m p :=
  ⟨_, mv ad' .tmp σ.length, by rw [e]; simp [mv], s.mv rfl, ht ▸ (h.push _).tmp σ.length _ (h.fresh (k := 0)) h.len YC⟩
theorem Xim {p : Nat × Int} : Xd4 p = .tup [.int p.1, .int p.2, .none, .none] := rfl
theorem Xlt {i : Nat} : XeI i = .tup [.int i, .none, .none, .none] := rfl
theorem XbI {σ : Sg} {i : Nat} {l : List MV} {v : MV} (h : l.length < 1000) : Yt i l [v] σ = .ok .none (σ.set i (.list (l ++ [v]))) := UY (by lia)
theorem Lh.push_bf (h : Lh S rm n dj ad t σ) (b : t.Bd) (c : Bool) (v : Int) : Yt (ad (.bf c)) ((t.k c).map .int) [.int v] σ = .ok .none (wH rm n dj ad { t with k := ubd t.k c (t.k c ++ [v]) } (.bf c) σ) := by
  rw [XbI (by have := b.k c; simp; lia), ← (h.s_bf c _).1, List.map_append]; rfl
theorem Lh.push_sd (h : Lh S rm n dj ad t σ) (b : t.Bd) (c : Bool) (i : Nat) (v : Int) : Yt (ad (.sd c)) ((t.sd c).map Xd4) [.tup [.int i, .int v, .none, .none]] σ = .ok .none (wH rm n dj ad { t with sd := ubd t.sd c (t.sd c ++ [(i, v)]) } (.sd c) σ) := by
  rw [XbI (by have := b.sd c; simp; lia), ← (h.s_sd c _).1, List.map_append]; rfl
theorem Lh.push_rc (h : Lh S rm n dj ad t σ) (b : t.Bd) (c : Bool) (i : Nat) : Yt (ad (.rc c)) ((t.rc c).map XeI) [.tup [.int i, .none, .none, .none]] σ = .ok .none (wH rm n dj ad { t with rc := ubd t.rc c (t.rc c ++ [i]) } (.rc c) σ) := by
  rw [XbI (by have := b.rc c; simp; lia), ← (h.s_rc c _).1, List.map_append]; rfl
theorem Lh.len_bf (h : Lh S rm n dj ad t σ) (b : t.Bd) (c : Bool) : ZN [.ref (ad (.bf c))] σ = .ok (.int (t.k c).length) σ := by
  rw [Xa4 (h.at_bf c) (by have := b.k c; simp; lia), List.length_map]
theorem Xgv (h : Lh S rm n dj ad t σ) (b : t.Bd) (c : Bool) (i : Nat) (v : Int) :
    XkJ S rm n dj ad (Xdh [.ref (ad (.ch c)), .tup [.int i, .int v, .none, .none]] σ) (t.offer rm c i v) := by
  unfold Xdh
  rw [f2]
  unfold Xd3
  rcases hx : t.x c
  · have h1 := h.push (.list [])
    have ne := XbQ (h.at_rc c)
    rcases hr : t.rc c with _ | ⟨g, r⟩
    · rw [hr] at ne
      rcases hd : decide (((t.k c).length : Int) < rm c)
      · have hd' := of_decide_eq_false hd
        have e2 := h1.push_sd b c i v
        have h2 := (h1.s_sd c (t.sd c ++ [(i, v)])).2
        simp only [Xk, Xj, Xm, XE, Xt, XF, Xz, YS, XY, XR, XA, Xx, Xv, Xn, Yx, Yy, Yd, Yf, Yh, Ys, XU, XT, Xu, UH, Yg, Yn, YK, YD, Xw, XD, Xq, XG, Yz, Sy.eqb, Fin.reduceBEq, cond_true, cond_false, el0, el1, List.length_cons, List.length_nil, List.map_nil, List.isEmpty_nil, Bool.not_true, h.r_closed c, hx, h.r_recv c, ne, h1.r_buf c, h1.len_bf b c, h1.r_room c, lt_int, hd, Vv (h1.at_sd c), Uh (h1.at_sd c), h1.r_send c, e2]
        rw [show t.offer rm c i v = ([.blocked], { t with sd := ubd t.sd c (t.sd c ++ [(i, v)]) }) by unfold Ld.offer; simp only [hx, hr, hd', if_false, Bool.false_eq_true]]
        exact ZW .refl h2 rfl rfl
      · have hd' := of_decide_eq_true hd
        have e2 := h1.push_bf b c v
        have h2 := (h1.s_bf c (t.k c ++ [v])).2
        simp only [Xk, Xj, Xm, XE, Xt, Ym, XF, Xz, YS, XY, XZ, XR, XA, Xx, Xv, Xn, Yx, Yy, Yd, Yf, Yh, Ys, XU, XT, Xu, UH, Yg, Yn, YK, YD, Xw, XD, Xq, XG, Yz, Sy.eqb, Fin.reduceBEq, cond_true, cond_false, Xab, el0, el1, List.length_cons, List.length_nil, List.map_nil, List.isEmpty_nil, Bool.not_true, h.r_closed c, hx, h.r_recv c, ne, h1.r_buf c, h1.len_bf b c, h1.r_room c, lt_int, hd, Vv (h1.at_bf c), Uh (h1.at_bf c), e2]
        rw [show t.offer rm c i v = ([.done none], { t with k := ubd t.k c (t.k c ++ [v]) }) by unfold Ld.offer; simp only [hx, hr, hd', if_false, Bool.false_eq_true, if_true]]
        exact ZW .refl h2 rfl rfl
    · rw [hr] at ne
      have ra := h1.at_rc c
      rw [hr, List.map_cons] at ra
      have h2 := (h1.s_rc c r).2
      have bl := b.rc c
      rw [hr] at bl
      simp only [Xk, Xj, Xm, XE, Xt, Ym, XF, Xz, YS, XY, XZ, XR, XA, Xx, Xv, Xn, Yx, Yy, Yd, Yf, Yh, Ys, XU, XT, Xu, UH, Yg, Yn, Yj, Yk, XJ, XQ, Xw, XD, Xq, XG, Yz, Ya, Zl, Sy.eqb, Fin.reduceBEq, cond_true, cond_false, Xab, el0, el1, el2, el3, List.length_cons, List.length_nil, Xdm, List.map_cons, List.isEmpty_cons, Bool.not_false, h.r_closed c, hx, h.r_recv c, h1.r_recv c, ne, Vv ra, Uh ra, XgU (show (r.map XeI).length + 1 < 1000000 by simp at bl ⊢; lia), (h1.s_rc c r).1, Xlt]
      rw [show t.offer rm c i v = ([.done none, .woken g (.recv (some v, true))], { t with rc := ubd t.rc c r }) by unfold Ld.offer; simp only [hx, hr, if_false, Bool.false_eq_true]]
      exact ZW .refl h2 rfl rfl
  · simp only [Xk, Xj, Xm, Xz, YS, XY, XZ, XA, Xx, Xv, Xn, Yx, Yy, Yd, Yf, Yh, Ys, Xu, Yg, Yn, Xw, Xq, Yz, Sy.eqb, Fin.reduceBEq, cond_true, cond_false, el1, el2, List.length_cons, List.length_nil, h.r_closed c, hx]
    rw [show t.offer rm c i v = ([.panic 19], t) by unfold Ld.offer; rw [if_pos hx]]
    exact ZW .refl h rfl rfl
theorem Xnj {b : Ad} {L : Nat} (h : b ≠ .tmp) : mv ad .tmp L b = ad b := by simp [mv, h]
noncomputable def Ld.filled (t : Ld) (c : Bool) : List LRow × Ld :=
  match t.sd c with
  | [] => ([], t)
  | (g, u) :: r => ([.woken g .sent], { t with sd := ubd t.sd c r, k := ubd t.k c (t.k c ++ [u]) })
theorem XhF {c : Bool} : (t.filled c).2.tmp = t.tmp := by unfold Ld.filled; split <;> rfl
theorem XeB (h : Lh S rm n dj ad t σ) (b : t.Bd) (c : Bool) :
    ∃ σ', Xcw [.ref (ad (.ch c))] σ = .ok (.ref σ'.length) (σ' ++ [.list ((t.filled c).1.map LRow.mv)]) ∧ Lh S rm n dj ad (t.filled c).2 σ' := by
  unfold Xcw
  rw [f1]
  unfold XcE Ld.filled
  have h1 := h.push (.list [])
  have eq := Xck (h.at_sd c)
  rcases hr : t.sd c with _ | ⟨⟨g, u⟩, r⟩
  · rw [hr] at eq
    simp only [Xk, Xj, XE, Xt, XF, Xz, XY, XZ, XA, Yd, Yf, Yh, Ys, Xu, Yg, Yn, Xw, Xq, Yz, Sy.eqb, Fin.reduceBEq, cond_true, el0, List.length_nil, List.map_nil, List.isEmpty_nil, h.r_send c, eq]
    exact ⟨_, rfl, h1⟩
  · rw [hr] at eq
    have ra := h1.at_sd c
    rw [hr, List.map_cons] at ra
    have h2 := (h1.s_sd c r).2
    have bl := b.sd c
    rw [hr] at bl
    have b2 : ({ t with sd := ubd t.sd c r } : Ld).Bd := ⟨b.k, fun c' => by
      show ((ubd t.sd c r) c').length < 100
      unfold ubd; split
      · simp at bl; lia
      · exact b.sd c', b.rc, b.mw, b.gw⟩
    have e2 := h2.push_bf b2 c u
    have h3 := (h2.s_bf c (t.k c ++ [u])).2
    simp only [Xk, Xj, Xm, XE, Xt, Ym, XF, Xz, XY, XR, XA, Xx, Xv, Xn, Yx, Yy, Yd, Yf, Yh, Ys, XU, XT, Xu, UH, Yg, Yn, YK, YD, Yj, Yk, XJ, XQ, Xw, XD, Xq, XG, Yz, Ya, Zl, Sy.eqb, Fin.reduceBEq, cond_true, cond_false, Xab, el0, el1, List.length_cons, List.length_nil, Xdm, List.map_cons, List.map_nil, List.isEmpty_cons, h.r_send c, h1.r_send c, eq, Vv ra, Uh ra, XgU (show (r.map Xd4).length + 1 < 1000000 by simp at bl ⊢; lia), (h1.s_sd c r).1, Xim, h2.r_buf c, Vv (h2.at_bf c), Uh (h2.at_bf c), e2]
    exact ⟨_, rfl, h3⟩
theorem XhG (h : Lh S rm n dj ad t σ) (b : t.Bd) (c : Bool) (i : Nat) :
    XkJ S rm n dj ad (Xfz [.ref (ad (.ch c)), .tup [.int i, .none, .none, .none]] σ) (t.take c i) := by
  unfold Xfz
  rw [f2]
  unfold Xfu
  have h1 := h.push (.list [])
  have ne := XbQ (h.at_bf c)
  rcases hk : t.k c with _ | ⟨v, k⟩
  · rw [hk] at ne
    have h2 := h1.push (.list [])
    have ne2 := XbQ (h1.at_sd c)
    rcases hr : t.sd c with _ | ⟨⟨g, u⟩, r⟩
    · rw [hr] at ne2
      rcases hx : t.x c
      · have e2 := h2.push_rc b c i
        have h3 := (h2.s_rc c (t.rc c ++ [i])).2
        simp only [Xk, Xj, Xm, XE, Xt, XF, Xz, YS, XY, XR, XA, Xx, Xv, Xn, Yx, Yy, Yd, Yf, Yh, Ys, Xu, UH, Yg, Yn, YK, YD, Xw, XD, Xq, XG, Yz, Sy.eqb, Fin.reduceBEq, cond_true, cond_false, el0, el1, List.length_cons, List.length_nil, List.map_nil, List.isEmpty_nil, Bool.not_true, h.r_buf c, ne, h1.r_send c, ne2, h2.r_closed c, hx, h2.r_recv c, Vv (h2.at_rc c), Uh (h2.at_rc c), e2]
        rw [show t.take c i = ([.blocked], { t with rc := ubd t.rc c (t.rc c ++ [i]) }) by unfold Ld.take; simp only [hk, hr, hx, if_false, Bool.false_eq_true]]
        exact ZW .refl h3 rfl rfl
      · simp only [Xk, Xj, Xm, XE, Xt, XF, Xz, YS, XY, XZ, XR, XA, Xx, Xv, Xn, Yx, Yy, Yd, Yf, Yh, Ys, Xu, Yg, Yn, Xw, XD, Xq, XG, Yz, Sy.eqb, Fin.reduceBEq, cond_true, cond_false, el0, el1, el3, List.length_cons, List.length_nil, List.map_nil, List.isEmpty_nil, Bool.not_true, h.r_buf c, ne, h1.r_send c, ne2, h2.r_closed c, hx]
        rw [show t.take c i = ([.done (some (none, false))], t) by unfold Ld.take; simp only [hk, hr, hx, if_true]]
        exact ZW .refl h2 rfl rfl
    · rw [hr] at ne2
      have ra := h2.at_sd c
      rw [hr, List.map_cons] at ra
      have h3 := (h2.s_sd c r).2
      have bl := b.sd c
      rw [hr] at bl
      simp only [Xk, Xj, Xm, XE, Xt, Ym, XF, Xz, XY, XZ, XR, XA, Xx, Xv, Xn, Yx, Yy, Yd, Yf, Yh, Ys, XU, XT, Xu, UH, Yg, Yn, Yj, Yk, XJ, XQ, Xw, XD, Xq, XG, Yz, Ya, Zl, Sy.eqb, Fin.reduceBEq, cond_true, cond_false, Xab, el0, el1, el2, el3, List.length_cons, List.length_nil, Xdm, List.map_cons, List.map_nil, List.isEmpty_cons, List.isEmpty_nil, Bool.not_true, Bool.not_false, h.r_buf c, ne, h1.r_send c, h2.r_send c, ne2, Vv ra, Uh ra, XgU (show (r.map Xd4).length + 1 < 1000000 by simp at bl ⊢; lia), (h2.s_sd c r).1, Xim]
      rw [show t.take c i = ([.done (some (some u, true)), .woken g .sent], { t with sd := ubd t.sd c r }) by unfold Ld.take; simp only [hk, hr]]
      exact ZW .refl h3 rfl rfl
  · rw [hk] at ne
    have ra := h1.at_bf c
    rw [hk, List.map_cons] at ra
    have h2 := (h1.s_bf c k).2
    have bl := b.k c
    rw [hk] at bl
    have b2 : ({ t with k := ubd t.k c k } : Ld).Bd := ⟨fun c' => by
      show ((ubd t.k c k) c').length < 100
      unfold ubd; split
      · simp at bl; lia
      · exact b.k c', b.sd, b.rc, b.mw, b.gw⟩
    simp only [Xk, Xj, Xm, YT, XE, Xt, XF, Xz, XY, XZ, XA, Xx, Xv, Xn, Yx, Yy, Yd, Yf, Yh, Ys, YJ, UH, Yg, Yj, Yk, XJ, XQ, Xw, XD, Yz, Ya, Zl, Sy.eqb, Fin.reduceBEq, cond_true, cond_false, el0, el1, el3, List.length_cons, List.length_nil, List.map_cons, List.isEmpty_cons, Bool.not_false, h.r_buf c, h1.r_buf c, ne, Vv ra, Uh ra, XgU (show (k.map MV.int).length + 1 < 1000000 by simp at bl ⊢; lia), (h1.s_bf c k).1]
    generalize wH rm n dj ad { t with k := ubd t.k c k } (.bf c) (σ ++ [.list []]) = σ2 at h2 ⊢
    have h3 := (h2.push (.list [.tup [.str 7, .int v, .bool true]])).tmp σ2.length _ (h2.fresh (k := 0)) h2.len YC
    obtain ⟨σ4, e4, h4⟩ := XeB h3 (⟨b2.k, b2.sd, b2.rc, b2.mw, b2.gw⟩) c
    rw [Xnj (by simp)] at e4
    have k4 := (h2.push (.list [.tup [.str 7, .int v, .bool true]])).at_ (.ch c) _ rfl
    have f4 : σ4[σ2.length]? = some (.list [.tup [.str 7, .int v, .bool true]]) := by
      have := h4.at_ .tmp (.list [.tup [.str 7, .int v, .bool true]]) (by show ((Ld.filled _ c).2.tmp.map MO.list) = _; rw [XhF]; rfl)
      simpa [mv] using this
    simp only [WN (nm := none) k4 rfl, Xt, XA, Yu, e4, UJ, Yv f4, YC]
    rw [UY (by unfold Ld.filled; split <;> simp)]
    simp only [Xu, Yn, Xq]
    rcases hr : t.sd c with _ | ⟨⟨g, u⟩, r⟩
    · unfold Ld.filled at h4 ⊢
      simp only [hr] at h4 ⊢
      rw [show t.take c i = ([.done (some (some v, true))], { t with k := ubd t.k c k }) by unfold Ld.take; simp only [hk, hr]]
      exact ZW (Same.refl.mv rfl) (h4.push _) rfl rfl
    · unfold Ld.filled at h4 ⊢
      simp only [hr, ubd_self] at h4 ⊢
      rw [show t.take c i = ([.done (some (some v, true)), .woken g .sent], { t with k := ubd t.k c (k ++ [u]), sd := ubd t.sd c r }) by unfold Ld.take; simp only [hk, hr]]
      refine ZW (Same.refl.mv rfl) (h4.push _) ?_ rfl
      simp only [Ld.mk.injEq, true_and]
      funext c'
      unfold ubd
      split <;> rfl
end
end
section
theorem XeJ {tt : TM} {I : Fr → Prop} {f : MV → Option MV} {p : BM} {e : EM} {σ : Sg} {i : Nat} {l : List MV} (hi : σ[i]? = some (.list l)) (hlen : l.length < 1000)
    (hp : ∀ v ∈ l, ∀ fr acc, I fr → ∃ fr', I fr' ∧ tt v fr (σ ++ [.list acc]) = .ok fr' (σ ++ [.list acc]) ∧ p fr' (σ ++ [.list acc]) = .ok (f v).isSome (σ ++ [.list acc]) ∧ ∀ y, f v = some y → e fr' (σ ++ [.list acc]) = .ok y (σ ++ [.list acc])) :
    ∀ (n k : Nat) (fr : Fr) (acc : List MV), n + k = l.length → acc.length ≤ k → I fr → Uk (nxL i) tt p e σ.length (n + 1) k fr (σ ++ [.list acc]) = .ok (.ref σ.length) (σ ++ [.list (acc ++ (l.drop k).filterMap f)])
  | 0, k, fr, acc, hn, ha, hfr => by
    have : l[k]? = none := List.getElem?_eq_none (by lia)
    have hd : l.drop k = [] := List.drop_eq_nil_of_le (by lia)
    simp only [Uk, nxL, Yv hi, this, hd, List.filterMap_nil, List.append_nil]
  | n + 1, k, fr, acc, hn, ha, hfr => by
    have hk : k < l.length := by lia
    have hv : l[k]? = some l[k] := List.getElem?_eq_getElem hk
    have hd : l.drop k = l[k] :: l.drop (k + 1) := List.drop_eq_getElem_cons hk
    have hm : l[k] ∈ l := List.getElem_mem hk
    refine @cps _ fun Γ γ => ?_
    obtain ⟨fr', hI, h1, h2, h3⟩ := hp _ hm fr acc hfr
    refine γ ?_; clear γ Γ
    rw [Uu]
    simp only [nxL, Yv hi, hv]
    rw [h1]
    simp only [Zf, R.bind]
    rw [h2]
    simp only [Zf]
    cases hf : f l[k] with
    | none =>
      simp only [Option.isSome_none, Bool.false_eq_true, if_false]
      have ih := XeJ hi hlen hp n (k + 1) fr' acc (by lia) (by lia) hI
      rw [ih, hd, List.filterMap_cons_none hf]
    | some y =>
      simp only [Option.isSome_some, if_true]
      rw [h3 y hf]
      simp only [Vo, YC, Xco]
      rw [UY (by lia)]
      simp only
      have ih := XeJ hi hlen hp n (k + 1) fr' (acc ++ [y]) (by lia) (by simp; lia) hI
      rw [ih, hd, List.filterMap_cons_some hf]
      simp
theorem XfT {m : EM} {fs : List Sy} {tt : TM} {p : BM} {e : EM} {fr : Fr} {σ0 σ : Sg} {i : Nat} {l : List MV} (I : Fr → Prop) (f : MV → Option MV) (hm : m fr σ0 = .ok (.ref i) σ) (hi : σ[i]? = some (.list l)) (hlen : l.length < 1000) (hI : I (frC fs fr))
    (hp : ∀ v ∈ l, ∀ fr acc, I fr → ∃ fr', I fr' ∧ tt v fr (σ ++ [.list acc]) = .ok fr' (σ ++ [.list acc]) ∧ p fr' (σ ++ [.list acc]) = .ok (f v).isSome (σ ++ [.list acc]) ∧ ∀ y, f v = some y → e fr' (σ ++ [.list acc]) = .ok y (σ ++ [.list acc])) :
    Zz m fs tt p e fr σ0 = .ok (.ref σ.length) (σ ++ [.list (l.filterMap f)]) := by
  unfold Zz
  rw [hm]
  simp only [R.bind, hi]
  have := XeJ hi hlen hp l.length 0 (frC fs fr) [] (by simp) (Nat.le_refl _) hI
  rw [this]
  simp
section
variable {S σ : Sg} {rm : Bool → Int} {n dj : Nat} {ad : Ad → Nat} {t : Ld}
noncomputable def Yr (g : Nat × MV × What) : MV := .tup [.tup [.int g.1, g.2.1, .none, .none], g.2.2.mv]
theorem XgR {a b : MV} {ts : TMs} {fr : Fr} {σ : Sg} : ZC 2 ts (.tup [a, b]) fr σ = ts [a, b] fr σ := XbH rfl
theorem Xna {σ : Sg} {i : Nat} (l : List (Nat × MV × What)) (hi : σ[i]? = some (MO.list (l.map Yr))) (hl : l.length < 500) :
    ∃ met, US [.ref i] σ = .ok (.ref σ.length) (σ ++ [MO.list (l.map Yr)] ++ [MO.list met]) := by
  unfold US
  rw [f1]
  unfold VW
  rw [Xw]
  have st : VB (Yw (Xe (XO Xi) (Xe (XO Xi) Xi))) [52, 58] [(66, .ref i)] σ = .ok (.next, [(66, .ref i), (58, .ref (σ.length + 1)), (52, .ref σ.length)]) (σ ++ [MO.list []] ++ [MO.list []]) := by
    simp only [XA, Xx, Xv, Xn, Yx, Yy, Yd, Yf, Ud, Ya, Zl, Zs, Uc, Sy.eqb, Fin.reduceBEq, cond_false, el0, el2, List.length_cons, List.length_nil, WY (show [MV.ref σ.length, MV.ref (σ ++ [MO.list []]).length].length = [(52 : Sy), 58].length from rfl), List.reverse_cons, List.reverse_nil, List.nil_append, List.cons_append]
    simp
  rw [st, XD]
  have key : ∀ (n k : Nat) (fr : Fr) (met : List MV), n + k = l.length → met.length ≤ k → (fr.lookup 66 = some (.ref i) ∧ fr.lookup 58 = some (.ref (σ.length + 1)) ∧ fr.lookup 52 = some (.ref σ.length)) →
      ∃ fr' met', loopI (nxL i) (ZC 2 (ZQ (XC 77) (ZQ (XC 79) XbA))) (Xo (YZ (mOr (XN oIs (XI (Xc 77) (Xd (.int 3))) (Xd .none)) (mOr Wa WQ)) (Xo (Zd (mLm Yt (Xc 52) (Xe (Yw (Xe (Xc 77) (Xe (Xc 79) Xi))) Xi))) (Xo (Zd (mLm Yt (Xc 58) (Xe (XI (Xc 77) (Xd (.int 3))) Xi))) Xp)) Xp) Xp) (n + 1) k fr (σ ++ [MO.list ((l.take k).map Yr)] ++ [MO.list met]) = .ok (.next, fr') (σ ++ [MO.list (l.map Yr)] ++ [MO.list met']) ∧ fr'.lookup 52 = some (.ref σ.length) := by
    intro n
    induction n with
    | zero =>
      intro k fr met hk hm hfr
      have : k = l.length := by lia
      subst this
      refine ⟨fr, met, ?_, hfr.2.2⟩
      rw [UW]
      simp only [nxL, Yv (Yv hi)]
      rw [List.getElem?_eq_none (by simp), List.take_length]
    | succ n ih =>
      intro k fr met hk hm hfr
      have hk' : k < l.length := by lia
      obtain ⟨⟨g, v, w⟩, hg⟩ : ∃ x, l[k] = x := ⟨_, rfl⟩
      have hv : (l.map Yr)[k]? = some (.tup [.tup [.int g, v, .none, .none], w.mv]) := by
        rw [List.getElem?_map, List.getElem?_eq_getElem hk', hg]; rfl
      rw [UW]
      simp only [nxL, Yv (Yv hi), hv]
      have lk : (∀ x : Sy, x ≠ 77 → x ≠ 79 → (fset (fset fr 77 (.tup [.int g, v, .none, .none])) 79 w.mv).lookup x = fr.lookup x) ∧ (fset (fset fr 77 (.tup [.int g, v, .none, .none])) 79 w.mv).lookup 77 = some (.tup [.int g, v, .none, .none]) ∧ (fset (fset fr 77 (.tup [.int g, v, .none, .none])) 79 w.mv).lookup 79 = some w.mv :=
        ⟨fun x h1 h2 => by rw [Xh, if_neg h2, Xh, if_neg h1], by rw [Xh, if_neg (by decide), Xh, if_pos rfl], by rw [Xh, if_pos rfl]⟩
      have ut : ZC 2 (ZQ (XC 77) (ZQ (XC 79) XbA)) (.tup [.tup [.int g, v, .none, .none], w.mv]) fr (σ ++ [MO.list ((l.take k).map Yr)] ++ [MO.list met]) = .ok (fset (fset fr 77 (.tup [.int g, v, .none, .none])) 79 w.mv) (σ ++ [MO.list ((l.take k).map Yr)] ++ [MO.list met]) := by
        rw [XgR]; rfl
      rw [ut]
      generalize fset (fset fr 77 (.tup [.int g, v, .none, .none])) 79 w.mv = fr1 at lk ⊢
      obtain ⟨lk1, lk2, lk3⟩ := lk
      have lf : fr1.lookup 52 = some (.ref σ.length) := by rw [lk1 _ (by decide) (by decide)]; exact hfr.2.2
      have lm : fr1.lookup 58 = some (.ref (σ.length + 1)) := by rw [lk1 _ (by decide) (by decide)]; exact hfr.2.1
      have lr : fr1.lookup 66 = some (.ref i) := by rw [lk1 _ (by decide) (by decide)]; exact hfr.1
      have a1 : (σ ++ [MO.list ((l.take k).map Yr)] ++ [MO.list met])[σ.length]? = some (MO.list ((l.take k).map Yr)) := Yv YC
      have s1 : (σ ++ [MO.list ((l.take k).map Yr)] ++ [MO.list met]).set σ.length (MO.list ((l.take k).map Yr ++ [MV.tup [.tup [.int g, v, .none, .none], w.mv]])) = σ ++ [MO.list ((l.take (k + 1)).map Yr)] ++ [MO.list met] := by
        rw [List.append_assoc, List.set_append_right _ _ (Nat.le_refl _), Nat.sub_self, List.take_add_one, List.getElem?_eq_getElem hk', hg]
        simp [Yr]
      have a2 : (σ ++ [MO.list ((l.take (k + 1)).map Yr)] ++ [MO.list met])[σ.length + 1]? = some (MO.list met) := by
        have := YC (σ := σ ++ [MO.list ((l.take (k + 1)).map Yr)]) (o := .list met)
        simpa using this
      have s2 : (σ ++ [MO.list ((l.take (k + 1)).map Yr)] ++ [MO.list met]).set (σ.length + 1) (MO.list (met ++ [MV.none])) = σ ++ [MO.list ((l.take (k + 1)).map Yr)] ++ [MO.list (met ++ [MV.none])] := by
        have := Xco (σ := σ ++ [MO.list ((l.take (k + 1)).map Yr)]) (o := .list met) (o' := MO.list (met ++ [MV.none]))
        simpa using this
      obtain ⟨fr', met', e, hf⟩ := ih (k + 1) fr1 (met ++ [MV.none]) (by lia) (by simp; lia) ⟨lr, lm, lf⟩
      refine ⟨fr', met', ?_, hf⟩
      rw [← e]
      have hl1 : ((l.take k).map Yr).length < 1000 := by simp; lia
      have is0 : ∀ σ : Sg, oIs .none .none σ = .ok (.bool true) σ := fun _ => rfl
      simp only [R.bind, Xk, Xj, Xm, XE, Xt, Ym, XF, Xz, VM, UA, XY, XZ, XA, Xx, Xv, Xn, Yx, Yy, UH, YK, YD, Xw, XD, XG, ZI, lk2, lk3, Xkc, is0, lf, lm, Vv a1, Uh a1, el2, List.length_cons, List.length_nil, XbI hl1, s1, Vv a2, Uh a2, XbI (show met.length < 1000 by lia), s2]
  refine @cps _ fun Γ γ => ?_
  obtain ⟨fr', met', e, hf⟩ := key l.length 0 [(66, .ref i), (58, .ref (σ.length + 1)), (52, .ref σ.length)] [] (by simp) (Nat.le_refl _) ⟨rfl, rfl, rfl⟩
  refine γ ?_; clear γ Γ
  refine ⟨met', ?_⟩
  have ef : Xaj (Xc 66) (ZC 2 (ZQ (XC 77) (ZQ (XC 79) XbA))) (Xo (YZ (mOr (XN oIs (XI (Xc 77) (Xd (.int 3))) (Xd .none)) (mOr Wa WQ)) (Xo (Zd (mLm Yt (Xc 52) (Xe (Yw (Xe (Xc 77) (Xe (Xc 79) Xi))) Xi))) (Xo (Zd (mLm Yt (Xc 58) (Xe (XI (Xc 77) (Xd (.int 3))) Xi))) Xp)) Xp) Xp) [(66, .ref i), (58, .ref (σ.length + 1)), (52, .ref σ.length)] (σ ++ [MO.list []] ++ [MO.list []]) = .ok (.next, fr') (σ ++ [MO.list (l.map Yr)] ++ [MO.list met']) := by
    unfold Xaj
    simp only [Xk, Xn5, Xj, R.bind, Yv (Yv hi), List.length_map]
    exact e
  rw [Xw, ef, XD]
  simp only [Xk, Xj, Xu, Yg, Yn, Xw, Xq, hf]
theorem XdK {α β γ : Type} {f : β → Option γ} {g : α → β} {h : α → γ} (e : ∀ a, f (g a) = some (h a)) : ∀ l : List α, (l.map g).filterMap f = l.map h
  | [] => rfl
  | a :: l => by rw [List.map_cons, List.filterMap_cons_some (e a), XdK e l, List.map_cons]
theorem Lh.lt (h : Lh S rm n dj ad t σ) : ∀ x, (ob rm n dj ad t x).isSome = true → ad x < σ.length := fun x hx => by
  obtain ⟨o, ho⟩ := Option.isSome_iff_exists.mp hx
  exact Uf (h.at_ _ _ ho)
noncomputable def Uq (l : List Nat) : List (Nat × MV × What) := l.map fun g => (g, .none, .recv (none, false))
noncomputable def UC (l : List (Nat × Int)) : List (Nat × MV × What) := l.map fun p => (p.1, .int p.2, .panic)
theorem XkN {rm : Bool → Int} {n dj : Nat} {ad : Ad → Nat} {t : Ld} {c : Bool} {A : Nat} {l : List Nat} {x : Ad} (h1 : x ≠ .ch c) (h2 : x ≠ .rc c) : ob rm n dj (mv ad (.rc c) A) { t with rc := ubd t.rc c l } x = ob rm n dj ad t x := by
  cases x with
  | ch y => have hy : y ≠ c := fun e => h1 (e ▸ rfl); simp [ob, mv, hy]
  | rc y => have hy : y ≠ c := fun e => h2 (e ▸ rfl); exact congrArg (fun q : List Nat => some (MO.list (q.map XeI))) (Xac hy)
  | _ => rfl
theorem Xkj {rm : Bool → Int} {n dj : Nat} {ad : Ad → Nat} {t : Ld} {c : Bool} {A : Nat} {l : List (Nat × Int)} {x : Ad} (h1 : x ≠ .ch c) (h2 : x ≠ .sd c) : ob rm n dj (mv ad (.sd c) A) { t with sd := ubd t.sd c l } x = ob rm n dj ad t x := by
  cases x with
  | ch y => have hy : y ≠ c := fun e => h1 (e ▸ rfl); simp [ob, mv, hy]
  | sd y => have hy : y ≠ c := fun e => h2 (e ▸ rfl); exact congrArg (fun q : List (Nat × Int) => some (MO.list (q.map Xd4))) (Xac hy)
  | _ => rfl
theorem Lh.emptied (h : Lh S rm n dj ad t σ) (c : Bool) {A : Nat} (hA : ∀ x, (ob rm n dj ad t x).isSome = true → ad x < A) (hS : S.length ≤ A) (a1 : σ[A]? = some (.list [])) (a2 : σ[A + 1]? = some (.list [])) (fr : Fr) (hs : fr.lookup 43 = some (.ref (ad (.ch c)))) :
    ∃ σ' o1 o2, ZC 2 (ZQ (Zw .channel 35 (Xc 43)) (ZQ (Zw .channel 38 (Xc 43)) XbA)) (.tup [.ref A, .ref (A + 1)]) fr σ = .ok fr σ' ∧ σ' = (σ.set (ad (.ch c)) o1).set (ad (.ch c)) o2 ∧ Lh S rm n dj (mv (mv ad (.rc c) A) (.sd c) (A + 1)) { t with rc := ubd t.rc c [], sd := ubd t.sd c [] } σ' := by
  have h1 : Lh S rm n dj (mv ad (.rc c) A) { t with rc := ubd t.rc c [] } (σ.set (ad (.ch c)) (.inst .channel [(36, .int (rm c)), (30, .ref (ad (.bf c))), (38, .ref (ad (.sd c))), (35, .ref A), (3, .bool (t.x c))])) := by
    refine h.move (.ch c) (.rc c) A (by simp) (fun x hx e => by have := hA x hx; lia) hS a1 rfl (by first | rfl | simp [ob, mv]) (by simp [ob, ubd_self]) (fun x h1 h2 => XkN h1 h2)
  have e1 : mv ad (.rc c) A (.ch c) = ad (.ch c) := by simp [mv]
  have e2 : mv ad (.rc c) A (.sd c) = ad (.sd c) := by simp [mv]
  have hne : ad (.ch c) ≠ A + 1 := by have := hA (.ch c) rfl; lia
  have h2 := h1.move (t' := { t with rc := ubd t.rc c [], sd := ubd t.sd c [] }) (.ch c) (.sd c) (A + 1) (o := .inst .channel [(36, .int (rm c)), (30, .ref (ad (.bf c))), (38, .ref (A + 1)), (35, .ref A), (3, .bool (t.x c))]) (l := .list []) (by simp) (fun x hx e => by
      unfold mv at e
      split at e
      · lia
      · rename_i hx'
        have : (ob rm n dj ad t x).isSome = true := by
          cases x <;> first | exact hx | rfl
        have := hA x this
        lia) (by lia) (by rw [Xae hne]; exact a2) rfl (by first | rfl | simp [ob, mv]) (by simp [ob, ubd_self]) (fun x h1 h2 => Xkj (t := { t with rc := ubd t.rc c [] }) h1 h2)
  rw [e1] at h2
  refine ⟨_, _, _, ?_, rfl, h2⟩
  have s1 := UV (f := 35) (v := .ref A) (h.at_ (.ch c) _ rfl) (by simp)
  have s2 := UV (f := 38) (v := .ref (A + 1)) (e1 ▸ h1.at_ (.ch c) _ rfl) (by simp)
  simp only [mv, if_true] at s2
  simp only [Zl, Ya, Sy.eqb, Fin.reduceBEq, cond_true, cond_false] at s1 s2
  rw [XgR]
  simp only [Xk, Xj, YB, YF, YG, YR, YQ, hs, s1]
  simp [YB, Zt, YQ, reduceCtorEq, s2]
end
end
section
section
variable {S σ : Sg} {rm : Bool → Int} {n dj : Nat} {ad : Ad → Nat} {t : Ld}
theorem Xlu (l : List Nat) : (l.map XeI).filterMap (fun v => some (MV.tup [v, .tup [.str 16, .none, .bool false]])) = (Uq l).map Yr := by
  unfold Uq
  rw [List.map_map]
  exact XdK (f := fun v => some (MV.tup [v, .tup [.str 16, .none, .bool false]])) (g := XeI) (fun _ => rfl) l
theorem Xmu (l : List (Nat × Int)) : (l.map Xd4).filterMap (fun v => some (MV.tup [v, .tup [.str 14, .str 19]])) = (UC l).map Yr := by
  unfold UC
  rw [List.map_map]
  exact XdK (f := fun v => some (MV.tup [v, .tup [.str 14, .str 19]])) (g := Xd4) (fun _ => rfl) l
noncomputable def wk8 : MV → Option MV := fun v => match v with | .tup [.tup [g, _, _, _], w] => some (.tup [.str 27, g, .none, .none, w]) | _ => none
theorem XnI (a : List Nat) (b : List (Nat × Int)) : ((Uq a ++ UC b).map Yr).filterMap wk8 = (a.map (fun g => LRow.woken g (.recv (none, false))) ++ b.map (fun p => LRow.woken p.1 .panic)).map LRow.mv := by
  rw [List.map_append, List.filterMap_append, List.map_append]
  have h1 : ((Uq a).map Yr).filterMap wk8 = (a.map (fun g => LRow.woken g (.recv (none, false)))).map LRow.mv := by
    unfold Uq
    rw [List.map_map, List.map_map]
    exact XdK (f := wk8) (fun _ => rfl) a
  have h2 : ((UC b).map Yr).filterMap wk8 = (b.map (fun p => LRow.woken p.1 .panic)).map LRow.mv := by
    unfold UC
    rw [List.map_map, List.map_map]
    exact XdK (f := wk8) (fun _ => rfl) b
  rw [h1, h2]
theorem Xgf (h : Lh S rm n dj ad t σ) (b : t.Bd) (c : Bool) :
    XkJ S rm n dj ad (Xdq [.ref (ad (.ch c))] σ) (t.close c) := by
  unfold Xdq
  rw [f1]
  unfold Xdy
  rcases hx : t.x c
  · have h1 := (h.s_x c true).2
    have e1 := (h.s_x c true).1
    generalize ht : ({ t with x := ubd t.x c true } : Ld) = t1 at h1 e1
    have hrc : t1.rc = t.rc := by rw [← ht]
    have hsd : t1.sd = t.sd := by rw [← ht]
    generalize wH rm n dj ad t1 (.ch c) σ = σ1 at h1 e1
    have b1 := b.rc c
    have b2 := b.sd c
    have c1 : Zz (Yl .channel 35 (Xc 43)) [] (XC 77) YU (Yw (Xe (Xc 77) (Xe (Yw (Xe (Xd (.str 16)) (Xe (Xd .none) (Xe (Xd (.bool false)) Xi)))) Xi))) [(43, .ref (ad (.ch c)))] σ1 = .ok (.ref σ1.length) (σ1 ++ [.list ((Uq (t.rc c)).map Yr)]) := by
      refine (XfT (I := fun _ => True) (fun v => some (MV.tup [v, .tup [.str 16, .none, .bool false]])) (σ := σ1) (i := ad (.rc c)) ?_ (h1.at_rc c) (by rw [hrc]; simp; lia) trivial (fun v _ fr acc _ => ⟨fset fr 77 v, trivial, rfl, rfl, fun y hy => ?_⟩)).trans ?_
      · simp only [Xk, Xj, Yh, Ys, Yz, Sy.eqb, Fin.reduceBEq, cond_true, h1.r_recv c]
      · cases hy
        simp only [Xk, Xj, Xm, XA, Xx, Xv, Xn, Yx, Yy, el2, el3, List.length_cons, List.length_nil, Xh, if_true]
      · rw [hrc, Xlu]
    have h2 := h1.push (.list ((Uq (t.rc c)).map Yr))
    have c2 : Zz (Yl .channel 38 (Xc 43)) [] (XC 77) YU (Yw (Xe (Xc 77) (Xe (Yw (Xe (Xd (.str 14)) (Xe (Xd (.str 19)) Xi))) Xi))) [(43, .ref (ad (.ch c))), (66, .ref σ1.length)] (σ1 ++ [.list ((Uq (t.rc c)).map Yr)]) = .ok (.ref (σ1 ++ [MO.list ((Uq (t.rc c)).map Yr)]).length) (σ1 ++ [.list ((Uq (t.rc c)).map Yr)] ++ [.list ((UC (t.sd c)).map Yr)]) := by
      refine (XfT (I := fun _ => True) (fun v => some (MV.tup [v, .tup [.str 14, .str 19]])) (σ := σ1 ++ [.list ((Uq (t.rc c)).map Yr)]) (i := ad (.sd c)) ?_ (h2.at_sd c) (by rw [hsd]; simp; lia) trivial (fun v _ fr acc _ => ⟨fset fr 77 v, trivial, rfl, rfl, fun y hy => ?_⟩)).trans ?_
      · simp only [Xk, Xj, Yh, Ys, Yz, Sy.eqb, Fin.reduceBEq, cond_true, cond_false, h2.r_send c]
      · cases hy
        simp only [Xk, Xj, Xm, XA, Xx, Xv, Xn, Yx, Yy, el2, List.length_cons, List.length_nil, Xh, if_true]
      · rw [hsd, Xmu]
    have a1 : (σ1 ++ [MO.list ((Uq (t.rc c)).map Yr)] ++ [MO.list ((UC (t.sd c)).map Yr)])[σ1.length]? = some (.list ((Uq (t.rc c)).map Yr)) := Yv YC
    have x1 : XbW σ1.length ((Uq (t.rc c)).map Yr) [.ref (σ1 ++ [MO.list ((Uq (t.rc c)).map Yr)]).length] (σ1 ++ [MO.list ((Uq (t.rc c)).map Yr)] ++ [MO.list ((UC (t.sd c)).map Yr)]) = .ok .none (σ1 ++ [MO.list ((Uq (t.rc c) ++ UC (t.sd c)).map Yr)] ++ [MO.list ((UC (t.sd c)).map Yr)]) := by
      simp only [XbW]
      rw [if_neg (by simp), YC]
      simp only
      rw [UY (by simp [Uq, UC]; lia), List.append_assoc, List.set_append_right _ _ (Nat.le_refl _), Nat.sub_self]
      simp
    have h3 := (h1.push (.list ((Uq (t.rc c) ++ UC (t.sd c)).map Yr))).push (.list ((UC (t.sd c)).map Yr))
    have a3 : (σ1 ++ [MO.list ((Uq (t.rc c) ++ UC (t.sd c)).map Yr)] ++ [MO.list ((UC (t.sd c)).map Yr)])[σ1.length]? = some (.list ((Uq (t.rc c) ++ UC (t.sd c)).map Yr)) := Yv YC
    have l3 : σ1.length < (σ1 ++ [MO.list ((Uq (t.rc c) ++ UC (t.sd c)).map Yr)] ++ [MO.list ((UC (t.sd c)).map Yr)]).length := by simp
    have n3 : ad (.ch c) ≠ σ1.length := by have := h1.lt (.ch c) rfl; lia
    rw [Xw]
    simp only [XY, Xk, Xj, Xm, Xz, YS, XY, XR, XA, Xx, Xv, Xn, Yx, Yy, Yd, Yf, Yh, Ys, UH, YK, YD, Yj, Yk, XJ, YB, YF, YG, Xw, XD, XG, Vk, UD, Yz, Ya, Zl, Sy.eqb, Fin.reduceBEq, cond_true, cond_false, el0, el2, List.length_cons, List.length_nil, h.r_closed c, hx, e1, c1, Vv YC, c2, Uh a1, x1]
    generalize σ1 ++ [MO.list ((Uq (t.rc c) ++ UC (t.sd c)).map Yr)] ++ [MO.list ((UC (t.sd c)).map Yr)] = σ3 at h3 a3 l3 ⊢
    have h4 := (h3.push (.list [])).push (.list [])
    obtain ⟨σ5, o1, o2, u5, e5, h5⟩ := h4.emptied c (A := σ3.length) h3.lt h3.len (Yv YC) (by have := YC (σ := σ3 ++ [MO.list []]) (o := .list []); simpa using this) [(43, .ref (ad (.ch c))), (66, .ref σ1.length)] rfl
    have l4 : (σ3 ++ [MO.list []]).length = σ3.length + 1 := by simp
    have a5 : σ5[σ1.length]? = some (.list ((Uq (t.rc c) ++ UC (t.sd c)).map Yr)) := by
      rw [e5, Xae n3, Xae n3]
      exact Yv (Yv a3)
    simp only [l4, u5, Xm, YT, XA, Xx, Xv, Xn, Yx, Yy, Yd, Yg, XJ, Xw, XD]
    have h6 := h5.push (.list [.tup [.str 7]])
    obtain ⟨σ6, e6⟩ : ∃ σ6 : Sg, σ6 = σ5 ++ [.list [.tup [.str 7]]] := ⟨_, rfl⟩
    rw [← e6] at h6
    have a6 : σ6[σ5.length]? = some (.list [.tup [.str 7]]) := by rw [e6]; exact YC
    obtain ⟨met, c7⟩ := Xna (σ := σ6) (Uq (t.rc c) ++ UC (t.sd c)) (by rw [e6]; exact Yv a5) (by simp [Uq, UC]; lia)
    obtain ⟨σ7, e7⟩ : ∃ σ7 : Sg, σ7 = σ6 ++ [.list ((Uq (t.rc c) ++ UC (t.sd c)).map Yr)] ++ [.list met] := ⟨_, rfl⟩
    have h7 := (h6.push (.list ((Uq (t.rc c) ++ UC (t.sd c)).map Yr))).push (.list met)
    rw [← e7] at h7 c7
    have a7 : σ7[σ5.length]? = some (.list [.tup [.str 7]]) := by rw [e7]; exact Yv (Yv a6)
    have a7' : σ7[σ6.length]? = some (.list ((Uq (t.rc c) ++ UC (t.sd c)).map Yr)) := by rw [e7]; exact Yv YC
    have c8 : Zz (XB US (Xe (Xc 66) Xi)) [] (ZC 2 (ZQ (XC 77) (ZQ (XC 79) XbA))) YU (XB UK (Xe (Xc 77) (Xe (Xc 79) Xi))) [(43, .ref (ad (.ch c))), (66, .ref σ1.length)] σ6 = .ok (.ref σ7.length) (σ7 ++ [.list (((t.rc c).map (fun g => LRow.woken g (.recv (none, false))) ++ (t.sd c).map (fun p => LRow.woken p.1 .panic)).map LRow.mv)]) := by
      refine (XfT (I := fun _ => True) wk8 (σ := σ7) (i := σ6.length) ?_ a7' (by simp [Uq, UC]; lia) trivial (fun v hv fr acc _ => ?_)).trans ?_
      · simp only [Xk, Xj, XA, Xx, Xv, Xn, XU, XT, Yz, Sy.eqb, Fin.reduceBEq, cond_true, cond_false, c7]
      · obtain ⟨⟨g, x, w⟩, _, rfl⟩ := List.mem_map.mp hv
        refine ⟨fset (fset fr 77 (.tup [.int g, x, .none, .none])) 79 w.mv, trivial, ?_, rfl, fun y hy => ?_⟩
        · unfold Yr
          rw [XgR]; rfl
        · simp only [Yr] at hy
          cases hy
          simp only [Xk, Xj, XA, Xx, Xv, Xn, XU, XT, Fin.reduceEq, Xdm, Xh, if_true, if_false]
      · rw [XnI]
    simp only [el1, List.length_cons, List.length_nil, XE, Xt, XA, Xv, Xn, Yf, ← e6, c8, UJ, Yv a7, YC]
    rw [UY (by simp; lia)]
    simp only [Xu, Yn, Xq]
    rw [show t.close c = (.done none :: ((t.rc c).map (fun g => .woken g (.recv (none, false))) ++ (t.sd c).map (fun p => .woken p.1 .panic)), { t with x := ubd t.x c true, rc := ubd t.rc c [], sd := ubd t.sd c [] }) by unfold Ld.close; simp only [hx, Bool.false_eq_true, if_false]]
    refine ZW ((Same.refl.mv rfl).mv rfl) (h7.push _) ?_ rfl
    simp only [← ht]
  · simp only [Xk, Xj, Xm, Xz, YS, XY, XZ, XA, Xx, Xv, Xn, Yx, Yy, Yd, Yf, Yh, Ys, Xu, Yg, Yn, Xw, Xq, Yz, Sy.eqb, Fin.reduceBEq, cond_true, el1, el2, List.length_cons, List.length_nil, h.r_closed c, hx]
    rw [show t.close c = ([.panic 20], t) by unfold Ld.close; rw [if_pos hx]]
    exact ZW .refl h rfl rfl
end
end
section
section
variable {S σ : Sg} {rm : Bool → Int} {n dj : Nat} {ad : Ad → Nat} {t : Ld}
theorem Xm6 {σ : Sg} {i v : Nat} {l : List Nat} (h : σ[i]? = some (.list (l.map iMV))) : oIn (.int v) (.ref i) σ = .ok (.bool (l.contains v)) σ := by
  have e : inB σ (.int v) (.ref i) = some (l.contains v) := by
    rw [← Xih]; exact XjP (l := l.map fun i : Nat => .int (i : Int)) h Xav
  unfold oIn; rw [e]; rfl
noncomputable def Xhb (b : Bool) : MV := .tup [.str (if b then 7 else 1)]
noncomputable def Ld.lock (t : Ld) (i : Nat) : Bool × Ld := match t.ow with
  | none => (true, { t with ow := some i })
  | some _ => (false, { t with mw := t.mw ++ [i] })
theorem Lh.push_mw (h : Lh S rm n dj ad t σ) (b : t.Bd) (i : Nat) : Yt (ad .mw) (t.mw.map iMV) [.int i] σ = .ok .none (wH rm n dj ad { t with mw := t.mw ++ [i] } .mw σ) := by
  rw [XbI (by have := b.mw; simp; lia), ← (h.s_mw _).1, List.map_append]; rfl
theorem Lh.push_gw (h : Lh S rm n dj ad t σ) (b : t.Bd) (i : Nat) : Yt (ad .gw) (t.gw.map iMV) [.int i] σ = .ok .none (wH rm n dj ad { t with gw := t.gw ++ [i] } .gw σ) := by
  rw [XbI (by have := b.gw; simp; lia), ← (h.s_gw _).1, List.map_append]; rfl
theorem Xey {i : Nat} (ho : t.ow = none) : t.lock i = (true, { t with ow := some i }) := by unfold Ld.lock; rw [ho]
theorem Xez {i o : Nat} (ho : t.ow = some o) : t.lock i = (false, { t with mw := t.mw ++ [i] }) := by unfold Ld.lock; rw [ho]
theorem Xfn {σ : Sg} : oIs .none .none σ = .ok (.bool true) σ := rfl
theorem XgX {σ : Sg} {i : Int} : oIs (.int i) .none σ = .ok (.bool false) σ := rfl
theorem Xg2 (h : Lh S rm n dj ad t σ) (b : t.Bd) (i : Nat) (hi : i ∉ t.mw) :
    ∃ σ', XfQ [.ref (ad .mu), .int i] σ = .ok (Xhb (t.lock i).1) σ' ∧ Lh S rm n dj ad (t.lock i).2 σ' := by
  unfold XfQ
  rw [f2]
  unfold XfK
  have ro := h.r_owner
  obtain ⟨o, ho⟩ : ∃ o, t.ow = o := ⟨_, rfl⟩
  rw [ho] at ro
  cases o with
  | none =>
    rw [Xey ho]
    have e1 : Zb .mutex 13 (.int i) (.ref (ad .mu)) σ = _ := (h.s_ow (some i)).1
    simp only [Xk, Xj, Xm, XE, Xt, XF, Xz, XY, XZ, Yh, Ys, Xu, Yg, Yn, Yj, Yk, XJ, YB, YF, YG, Xw, XD, Xq, Yz, Sy.eqb, Fin.reduceBEq, cond_true, cond_false, ro, oN, Xfn, e1]
    exact ⟨_, rfl, (h.s_ow (some i)).2⟩
  | some o =>
    rw [Xez ho]
    have ni : t.mw.contains i = false := by simpa using hi
    simp only [Xk, Xj, Xm, XE, Xt, XF, Xz, XY, XR, XA, Xx, Xv, Xn, Yh, Ys, Xu, UH, Yg, Yn, YK, YD, Xw, XD, Xq, XG, Yz, Sy.eqb, Fin.reduceBEq, cond_true, cond_false, ro, oN, XgX, h.r_mwait, Xm6 h.at_mw, ni, Vv h.at_mw, Uh h.at_mw, h.push_mw b i]
    exact ⟨_, rfl, (h.s_mw _).2⟩
noncomputable def Ld.unlock (t : Ld) : Option Nat × Ld := match t.mw with
  | [] => (none, { t with ow := none })
  | g :: r => (some g, { t with ow := some g, mw := r })
theorem XeG (h : Lh S rm n dj ad t σ) (ho : t.ow = none) : Xal [.ref (ad .mu)] σ = .exc σ := by
  unfold Xal
  rw [f1]
  unfold Xbj
  simp only [Xk, Xj, Xm, XE, Xt, XF, Xz, XY, XZ, Yh, Ys, Zq, Xw, Zp, Us, Yz, Sy.eqb, Fin.reduceBEq, cond_true, h.r_owner, Xh7, ho, Option.isNone_none]
theorem XdZ (hm : t.mw = []) : t.unlock = (none, { t with ow := none }) := by unfold Ld.unlock; rw [hm]
theorem XcX {g : Nat} {r : List Nat} (hm : t.mw = g :: r) : t.unlock = (some g, { t with ow := some g, mw := r }) := by unfold Ld.unlock; rw [hm]
theorem XeM (h : Lh S rm n dj ad t σ) (b : t.Bd) (ho : t.ow ≠ none) :
    ∃ σ', Xal [.ref (ad .mu)] σ = .ok (oN t.unlock.1) σ' ∧ Lh S rm n dj ad t.unlock.2 σ' := by
  unfold Xal
  rw [f1]
  unfold Xbj
  obtain ⟨o, ho⟩ := Option.ne_none_iff_exists'.mp ho
  have ro := h.r_owner
  rw [ho] at ro
  have h1 := h.push (.list [])
  have ne := XbQ h.at_mw
  obtain ⟨l, hm⟩ : ∃ l, t.mw = l := ⟨_, rfl⟩
  rw [hm] at ne
  cases l with
  | nil =>
    rw [XdZ hm]
    have e1 : Zb .mutex 13 .none (.ref (ad .mu)) (σ ++ [.list []]) = _ := (h1.s_ow none).1
    have h2 := (h1.s_ow none).2
    simp only [Xk, Xj, Xm, XE, Xt, XF, Xz, Vf, XY, XR, XA, Yd, Yf, Yh, Ys, Xu, Yg, Yn, Yj, Yk, XJ, YB, YF, YG, Xw, XD, Xq, XG, Yz, Sy.eqb, Fin.reduceBEq, cond_true, el0, List.length_nil, List.map_nil, List.isEmpty_nil, Bool.not_true, ro, oN, XgX, h.r_mwait, ne, e1, h2.r_owner]
    exact ⟨_, rfl, h2⟩
  | cons g r =>
    rw [XcX hm]
    have ra := h1.at_mw
    rw [hm, List.map_cons] at ra
    have bl := b.mw
    rw [hm] at bl
    have h2 := (h1.s_mw r).2
    have e2 := (h1.s_mw r).1
    have e3 : Zb .mutex 13 (iMV g) (.ref (ad .mu)) _ = _ := (h2.s_ow (some g)).1
    have h3 := (h2.s_ow (some g)).2
    simp only [Xk, Xj, Xm, XE, Xt, XF, Xz, Vf, XY, XZ, XR, XA, Xx, Xv, Xn, Yd, Yf, Yh, Ys, Xu, UH, Yg, Yn, Yj, Yk, XJ, YB, YF, YG, Xw, XD, Xq, XG, Yz, Sy.eqb, Fin.reduceBEq, cond_true, el0, List.length_nil, List.map_cons, List.isEmpty_cons, Bool.not_false, ro, oN, XgX, h.r_mwait, h1.r_mwait, ne, Vv ra, Uh ra, XgU (show (r.map iMV).length + 1 < 1000000 by simp at bl ⊢; lia), e2, e3, h3.r_owner]
    exact ⟨_, rfl, h3⟩
noncomputable def Ld.wait (t : Ld) (i : Nat) : Bool × Ld := if t.cn = 0 then (true, t) else (false, { t with gw := t.gw ++ [i] })
theorem Xhd (h : Lh S rm n dj ad t σ) (b : t.Bd) (i : Nat) :
    ∃ σ', XfG [.ref (ad .grp), .int i] σ = .ok (Xhb (t.wait i).1) σ' ∧ Lh S rm n dj ad (t.wait i).2 σ' := by
  unfold XfG
  rw [f2]
  unfold Xe0 Ld.wait
  rcases hc : (t.cn == 0)
  · have hc' : ¬ t.cn = 0 := by simpa using hc
    simp only [Xk, Xj, Xm, XE, Xt, XF, Xz, XY, XR, XA, Xx, Xv, Xn, Yh, Ys, Xu, UH, Yg, Yn, YK, YD, Xw, XD, Xq, XG, Yz, Sy.eqb, Fin.reduceBEq, cond_true, cond_false, h.r_count, Xag, hc, h.r_gwait, Vv h.at_gw, Uh h.at_gw, h.push_gw b i, if_neg hc']
    exact ⟨_, rfl, (h.s_gw _).2⟩
  · have hc' : t.cn = 0 := by simpa using hc
    simp only [Xk, Xj, Xm, XE, Xt, XF, Xz, XY, XZ, Yh, Ys, Xu, Yg, Yn, Xw, Xq, Yz, Sy.eqb, Fin.reduceBEq, cond_true, cond_false, h.r_count, Xag, hc, if_pos hc']
    exact ⟨_, rfl, h⟩
theorem add_int {σ : Sg} {a b : Int} : UJ (.int a) (.int b) σ = .ok (.int (a + b)) σ := rfl
theorem gt_int {σ : Sg} {a b : Int} : oGt (.int a) (.int b) σ = .ok (.bool (decide (a > b))) σ := rfl
theorem XiD (h : Lh S rm n dj ad t σ) (m : Int) (hc : t.cn + m < 0) : XbE [.ref (ad .grp), .int m] σ = .exc σ := by
  unfold XbE
  rw [f2]
  unfold XdG
  simp only [Xk, Xj, Xm, YT, XE, Xt, XF, Xz, XY, XZ, Yh, Ys, Zq, Xw, Zp, Us, Yz, Sy.eqb, Fin.reduceBEq, cond_true, cond_false, h.r_count, add_int, lt_int, hc, decide_true]
theorem XiQ (h : Lh S rm n dj ad t σ) (m : Int) (hc : ¬ t.cn + m < 0) :
    ∃ σ' ad' L, XbE [.ref (ad .grp), .int m] σ = .ok (.ref L) σ' ∧ Same ad ad' ∧ (∀ x, (ob rm n dj ad' (if t.cn + m > 0 then { t with cn := t.cn + m } else { t with cn := t.cn + m, gw := [] }) x).isSome = true → ad' x ≠ L) ∧ S.length ≤ L ∧ Lh S rm n dj ad' (if t.cn + m > 0 then { t with cn := t.cn + m } else { t with cn := t.cn + m, gw := [] }) σ' ∧
      σ'[L]? = some (.list ((if t.cn + m > 0 then [] else t.gw).map iMV)) := by
  unfold XbE
  rw [f2]
  unfold XdG
  have e1 := (h.s_cn (t.cn + m)).1
  have h1 := (h.s_cn (t.cn + m)).2
  generalize wH rm n dj ad { t with cn := t.cn + m } .grp σ = σ1 at e1 h1
  by_cases hg : t.cn + m > 0
  · simp only [Xk, Xj, Xm, YT, XE, Xt, XF, Xz, XY, XZ, XR, XA, Yd, Yf, Yh, Ys, Xu, Yg, Yn, Yj, Yk, XJ, YB, YF, YG, Xw, XD, Xq, XG, Yz, Sy.eqb, Fin.reduceBEq, cond_true, cond_false, el0, List.length_nil, List.map_nil, h.r_count, h1.r_count, add_int, lt_int, gt_int, hc, hg, decide_true, decide_false, e1, if_true]
    exact ⟨_, ad, _, rfl, .refl, h1.fresh (k := 0), h1.len, h1.push _, YC⟩
  · have h2 := h1.push (.list [])
    have s1 := UV (f := 41) (v := .ref σ1.length) (h2.at_ .grp _ rfl) (by simp)
    simp only [Zl, Ya, Sy.eqb, Fin.reduceBEq, cond_true, cond_false] at s1
    have h3 := h2.move (t' := { t with cn := t.cn + m, gw := [] }) .grp .gw σ1.length (o := .inst .waitgroup [(4, .int (t.cn + m)), (41, .ref σ1.length)]) (l := .list []) (by simp) (fun x hx e => by have := h1.lt x hx; lia) h1.len YC rfl (by simp [ob, mv]) (by simp [ob]) (fun x h1 h2 => by cases x <;> first | rfl | (simp [ob, mv]; done) | (exact absurd rfl h1) | (exact absurd rfl h2))
    simp only [Xk, Xj, Xm, YT, XE, Xt, XF, Xz, XY, XR, XA, Xx, Xv, Xn, Yx, Yy, Yd, Yf, Yh, Ys, Xu, Yg, Yn, Yj, Yk, XJ, XQ, YB, YF, YG, Zt, YR, YQ, Xw, XD, Xq, XG, Yz, Ya, Zl, Sy.eqb, Fin.reduceBEq, cond_true, cond_false, el0, el2, List.length_cons, List.length_nil, h.r_count, h1.r_count, h1.r_gwait, add_int, lt_int, gt_int, hc, hg, decide_false, e1, if_false, XgR, s1]
    refine ⟨_, _, _, rfl, Same.refl.mv rfl, fun x hx e => ?_, ?_, h3, ?_⟩
    · have lg := h1.lt .gw rfl
      unfold mv at e
      split at e
      · lia
      · rename_i hx'
        have : (ob rm n dj ad { t with cn := t.cn + m } x).isSome = true := by cases x <;> first | exact hx | rfl
        exact hx' (h1.inj x .gw this rfl e)
    · exact h1.ge .gw rfl
    · have lg : ad .grp ≠ ad .gw := fun e => by cases h1.inj .grp .gw rfl rfl e
      rw [Xae lg]
      exact h2.at_gw
end
end
section
section
variable {S σ : Sg} {rm : Bool → Int} {n dj : Nat} {ad : Ad → Nat} {t : Ld}
noncomputable def LRow.bl (b : Bool) : LRow := if b then .done none else .blocked
theorem XmC {b : Bool} : (LRow.bl b).mv = Xhb b := by cases b <;> rfl
noncomputable def Ld.rows (rm : Bool → Int) (t : Ld) (i : Nat) : Dd → List LRow × Ld
  | .send c v => t.offer rm c i v
  | .take c => t.take c i
  | .close c => t.close c
  | .lock => ([.bl (t.lock i).1], (t.lock i).2)
  | .wait => ([.bl (t.wait i).1], (t.wait i).2)
  | .unlock => if t.ow = none then ([.panic 0], t) else (.done none :: t.unlock.1.toList.map (fun g => .woken g .sent), t.unlock.2)
  | .done => if t.cn + -1 < 0 then ([.panic 0], t) else (.done none :: (if t.cn + -1 > 0 then [] else t.gw).map (fun g => .woken g .sent), if t.cn + -1 > 0 then { t with cn := t.cn + -1 } else { t with cn := t.cn + -1, gw := [] })
theorem Xmg {σ : Sg} {b : EMs} {fr : Fr} : XkH b fr (.exc σ) = .exc σ := rfl
theorem Xme {σ : Sg} : Xje (.exc σ) = .exc σ := rfl
theorem XpJ {α : Type} {σ : Sg} {a b : Fr → Sg → R α} {fr : Fr} : kIf a b fr (.exc σ) = .exc σ := rfl
theorem Xpz {σ : Sg} {c : Bool} {v : Int} : Zx (Dd.send c v).mv (.int 2) σ = .ok (.int v) σ := Xhr
theorem Xpo {σ : Sg} {c : Bool} {v : Int} : Zx (Dd.send c v).mv (.int 1) σ = .ok (.int (cI c)) σ := Xab
theorem Xpq {σ : Sg} {c : Bool} : Zx (Dd.take c).mv (.int 1) σ = .ok (.int (cI c)) σ := Xab
theorem Lh.r_chan (h : Lh S rm n dj ad t σ) (c : Bool) : Zx (.ref (ad .chs)) (.int (cI c)) σ = .ok (.ref (ad (.ch c))) σ := by
  cases c
  · exact Zr (j := 0) (h.at_ .chs _ rfl) rfl (by lia)
  · exact Zr (j := 1) (h.at_ .chs _ rfl) rfl (by lia)
noncomputable def wk9 : MV → Option MV := fun v => if isNone v then none else some (.tup [.str 27, v, .none, .none, .tup [.str 21]])
theorem Xkm : ∀ l : List Nat, (l.map iMV).filterMap wk9 = (l.map (fun g => LRow.woken g .sent)).map LRow.mv
  | [] => rfl
  | g :: l => by rw [List.map_cons, List.filterMap_cons_some (f := wk9) (b := (LRow.woken g .sent).mv) rfl, Xkm l]; rfl
theorem Xow : ∀ o : Option Nat, [oN o].filterMap wk9 = (o.toList.map (fun g => LRow.woken g .sent)).map LRow.mv
  | none => rfl
  | some _ => rfl
theorem XeA {L : Nat} {l : List MV} {fr : Fr} (hL : σ[L]? = some (.list l)) (hl : l.length < 500) (hf : fr.lookup 27 = some (.ref L)) :
    Zz (Xc 27) [] (XC 60) (XN Uz (Xc 60) (Xd .none)) (Yw (Xe (Xd (.str 27)) (Xe (Xc 60) (Xe (Xd .none) (Xe (Xd .none) (Xe (Yw (Xe (Xd (.str 21)) Xi)) Xi)))))) fr (σ ++ [.list [.tup [.str 7]]]) = .ok (.ref (σ ++ [MO.list [.tup [.str 7]]]).length) (σ ++ [.list [.tup [.str 7]]] ++ [.list (l.filterMap wk9)]) := by
  refine XfT (I := fun _ => True) wk9 (i := L) ?_ (Yv hL) (by lia) trivial (fun v hv fr acc _ => ⟨fset fr 60 v, trivial, rfl, ?_, fun y hy => ?_⟩)
  · simp only [Xk, Xj, hf]
  · simp only [Xk, Xj, Xm, XE, Xt, XF, Xz, rB, Xh, if_true, Uz, rB]
    cases hn : isNone v <;> simp [wk9, hn]
  · unfold wk9 at hy
    split at hy <;> cases hy
    simp only [Xk, Xj, Xm, XA, Xx, Xv, Xn, Yx, Yy, el1, el5, List.length_cons, List.length_nil, Xh, if_true]
theorem XgA {l : List MV} (hl : l.length < 500) : UJ (.ref σ.length) (.ref (σ ++ [MO.list [.tup [.str 7]]]).length) (σ ++ [.list [.tup [.str 7]]] ++ [.list (l.filterMap wk9)]) = .ok (.ref (σ ++ [MO.list [.tup [.str 7]]] ++ [MO.list (l.filterMap wk9)]).length) (σ ++ [.list [.tup [.str 7]]] ++ [.list (l.filterMap wk9)] ++ [.list (.tup [.str 7] :: l.filterMap wk9)]) := by
  have hfm : (l.filterMap wk9).length ≤ l.length := List.length_filterMap_le _ _
  unfold UJ; dsimp only; rw [Yv YC, YC]; dsimp only
  rw [UY (by simp; lia)]
  rfl
theorem Xg8 (h : Lh S rm n dj ad t σ) (b : t.Bd) {i : Nat} (d : Dd) (hi : i ∉ t.mw) :
    XkJ S rm n dj ad (WK [.ref (ad .wd), .int i, d.mv] σ) (t.rows rm i d) := by
  unfold WK
  rw [f3]
  unfold XaR
  have hu : ∀ (ts : TMs) (fr : Fr), ZC 5 ts (.ref (ad .wd)) fr σ = ts [.ref (ad .chs), .ref (ad .mu), .ref (ad .grp), .ref (ad .vs), .ref (ad .dn)] fr σ := fun ts fr => Xee (h.at_ .wd _ rfl) rfl
  have kch : ∀ (c : Bool) (nm : Option Sy) (m : List MV → Sg → R MV) (a : EMs) (fr : Fr), Xbn [(36, .int (rm c)), (30, .ref (ad (.bf c))), (38, .ref (ad (.sd c))), (35, .ref (ad (.rc c))), (3, .bool (t.x c))] nm = true → Xam .channel nm m a fr (.ok (.ref (ad (.ch c))) σ) = VX m (ad (.ch c)) (a fr σ) := fun c nm m a fr hs => WN (h.at_ (.ch c) _ rfl) hs
  cases d with
  | send c v =>
    refine @cps _ fun Γ γ => ?_
    obtain ⟨σ', ad', e, s, h'⟩ := Xgv h b c i v
    refine γ ?_; clear γ Γ
    refine ⟨σ', ad', ?_, s, h'⟩
    simp only [Xk, Xj, Xm, XE, Xt, Ym, XF, Xz, XY, XZ, XA, Xx, Xv, Xn, Yx, Yy, YJ, Yu, Xu, Yg, Yn, Yj, Yk, XJ, XQ, Zt, YR, YQ, Xw, XD, Xq, Yz, Ya, Zl, Sy.eqb, Fin.reduceBEq, cond_true, cond_false, el4, List.length_cons, List.length_nil, hu, dd0, Xpo, Xpz, Dd.word, ZX, h.r_chan c, kch c none _ _ _ rfl, e]
  | take c =>
    refine @cps _ fun Γ γ => ?_
    obtain ⟨σ', ad', e, s, h'⟩ := XhG h b c i
    refine γ ?_; clear γ Γ
    refine ⟨σ', ad', ?_, s, h'⟩
    simp only [Xk, Xj, Xm, XE, Xt, Ym, XF, Xz, XY, XZ, XR, XA, Xx, Xv, Xn, Yx, Yy, YJ, Yu, Xu, Yg, Yn, Yj, Yk, XJ, XQ, Zt, YR, YQ, Xw, XD, Xq, XG, Yz, Ya, Zl, Sy.eqb, Fin.reduceBEq, cond_true, cond_false, el4, List.length_cons, List.length_nil, hu, dd0, Xpq, Dd.word, ZX, h.r_chan c, kch c (some 22) _ _ _ rfl, e]
  | close c =>
    refine @cps _ fun Γ γ => ?_
    obtain ⟨σ', ad', e, s, h'⟩ := Xgf h b c
    refine γ ?_; clear γ Γ
    refine ⟨σ', ad', ?_, s, h'⟩
    simp only [Xk, Xj, Xm, XE, Xt, Ym, XF, Xz, XY, XZ, XR, XA, YJ, Yu, Xu, Yg, Yn, Yj, Yk, XJ, XQ, Zt, YR, YQ, Xw, XD, Xq, XG, Yz, Ya, Zl, Sy.eqb, Fin.reduceBEq, cond_true, cond_false, hu, dd0, Xpi, Dd.word, ZX, h.r_chan c, kch c (some 2) _ _ _ rfl, e]
  | lock =>
    obtain ⟨σ', e, h'⟩ := Xg2 h b i hi
    have km : ∀ (m : List MV → Sg → R MV) (a : EMs) (fr : Fr), Xam .mutex (some 10) m a fr (.ok (.ref (ad .mu)) σ) = VX m (ad .mu) (a fr σ) := fun m a fr => WN (h.at_ .mu _ rfl) rfl
    simp only [Xk, Xj, Xm, XE, Xt, Ym, XF, Xz, Vf, XY, XZ, XR, XA, Xx, Xv, Xn, Yd, Yf, YJ, Yu, Xu, Yg, Yn, Yj, Yk, XJ, XQ, Zt, YR, YQ, Xw, XD, Xq, XG, Vx, VL, UB, Yz, Ya, Zl, Sy.eqb, Fin.reduceBEq, cond_true, cond_false, el1, List.length_cons, List.length_nil, hu, dd0, Dd.word, ZX, km, e, Ld.rows]
    exact ZW .refl h' rfl (by simp [XmC])
  | wait =>
    obtain ⟨σ', e, h'⟩ := Xhd h b i
    have km : ∀ (m : List MV → Sg → R MV) (a : EMs) (fr : Fr), Xam .waitgroup (some 25) m a fr (.ok (.ref (ad .grp)) σ) = VX m (ad .grp) (a fr σ) := fun m a fr => WN (h.at_ .grp _ rfl) rfl
    simp only [Xk, Xj, Xm, XE, Xt, Ym, XF, Xz, Vf, XY, XZ, XR, XA, Xx, Xv, Xn, Yd, Yf, YJ, Yu, Xu, Yg, Yn, Yj, Yk, XJ, XQ, Zt, YR, YQ, Xw, XD, Xq, XG, Vx, VL, UB, Yz, Ya, Zl, Sy.eqb, Fin.reduceBEq, cond_true, cond_false, el1, List.length_cons, List.length_nil, hu, dd0, Dd.word, ZX, km, e, Ld.rows]
    exact ZW .refl h' rfl (by simp [XmC])
  | unlock =>
    have km : ∀ (m : List MV → Sg → R MV) (a : EMs) (fr : Fr), Xam .mutex (some 23) m a fr (.ok (.ref (ad .mu)) σ) = VX m (ad .mu) (a fr σ) := fun m a fr => WN (h.at_ .mu _ rfl) rfl
    by_cases ho : t.ow = none
    · have e := XeG h ho
      simp only [Xk, Xj, Xm, XE, Xt, Ym, XF, Xz, Vf, XY, XR, XA, Xx, Yd, YJ, Yu, Xu, Yj, Yk, XJ, XQ, Zt, YR, YQ, Xw, XD, Xq, XG, Vx, Zv, UB, Zu, Yz, Ya, Zl, Sy.eqb, Fin.reduceBEq, cond_true, cond_false, hu, dd0, Dd.word, ZX, km, e, Ld.rows, Xmg, Xme, if_pos ho]
      exact ZW .refl h rfl rfl
    · obtain ⟨σ', e, h'⟩ := XeM h b ho
      simp only [Xk, Xj, Xm, YT, XE, Xt, Ym, XF, Xz, Vf, XY, XR, XA, Xx, Xv, Xn, Yx, Yy, Yd, Yf, YJ, Yu, Yg, Yj, Yk, XJ, XQ, Zt, YR, YQ, Xw, XD, XG, Vx, VL, UB, Vk, Yz, Ya, Zl, Sy.eqb, Fin.reduceBEq, cond_true, cond_false, el1, List.length_cons, List.length_nil, hu, dd0, Dd.word, ZX, km, e, Ld.rows, if_neg ho]
      have h2 := ((h'.push (.list [oN t.unlock.1])).push (.list [.tup [.str 7]])).push (.list ([oN t.unlock.1].filterMap wk9))
      rw [XeA (L := σ'.length) (l := [oN t.unlock.1]) YC (by simp) rfl, Xt, XgA (by simp)]
      simp only [Xu, Yn, Xq]
      refine ZW .refl h2 rfl ?_
      rw [Xow]
      simp [LRow.mv]
  | done =>
    have km : ∀ (m : List MV → Sg → R MV) (a : EMs) (fr : Fr), Xam .waitgroup (some 7) m a fr (.ok (.ref (ad .grp)) σ) = VX m (ad .grp) (a fr σ) := fun m a fr => WN (h.at_ .grp _ rfl) rfl
    have km2 : ∀ (m : List MV → Sg → R MV) (a : EMs) (fr : Fr), Xam .waitgroup none m a fr (.ok (.ref (ad .grp)) σ) = VX m (ad .grp) (a fr σ) := fun m a fr => WN (h.at_ .grp _ rfl) rfl
    by_cases hc : t.cn + -1 < 0
    · have e := XiD h (-1) hc
      have e' : XcM [.ref (ad .grp)] σ = .exc σ := by
        unfold XcM
        rw [f1]
        unfold Xdf
        simp only [Xk, Xj, Xm, XA, Xx, Xv, Xn, Vn, Ys, YJ, Yu, Zq, Yg, ZD, Xw, Zp, Yz, Sy.eqb, Fin.reduceBEq, cond_true, km2, XiE, e]
      simp only [Xk, Xj, Xm, XE, Xt, Ym, XF, Xz, Vf, XY, XZ, XR, XA, YJ, Yu, Xu, Yj, Yk, XJ, XQ, Zt, YR, YQ, Xw, XD, Xq, XG, Vx, Zv, UB, Zu, Yz, Ya, Zl, Sy.eqb, Fin.reduceBEq, cond_true, cond_false, hu, dd0, Dd.word, ZX, km, e', Ld.rows, if_pos hc]
      exact ZW .refl h rfl rfl
    · obtain ⟨σ', ad', L, e, sm, hL, hS, h', aL⟩ := XiQ h (-1) hc
      have e' : XcM [.ref (ad .grp)] σ = .ok (.ref L) σ' := by
        unfold XcM
        rw [f1]
        unfold Xdf
        simp only [Xk, Xj, Xm, XA, Xx, Xv, Xn, Vn, Ys, YJ, Yu, Xu, Yg, Yn, Xw, Xq, Yz, Sy.eqb, Fin.reduceBEq, cond_true, km2, XiE, e]
      have bg := b.gw
      simp only [Xk, Xj, Xm, YT, XE, Xt, Ym, XF, Xz, Vf, XY, XZ, XR, XA, Xx, Xv, Xn, Yx, Yy, Yd, Yf, YJ, Yu, Yg, Yj, Yk, XJ, XQ, Zt, YR, YQ, Xw, XD, XG, Vx, VL, UB, Vk, Yz, Ya, Zl, Sy.eqb, Fin.reduceBEq, cond_true, cond_false, el1, List.length_cons, List.length_nil, hu, dd0, Dd.word, ZX, km, e', Ld.rows, if_neg hc]
      have bl : ((if t.cn + -1 > 0 then [] else t.gw).map iMV).length < 500 := by split <;> simp; lia
      rw [XeA aL bl rfl, Xt, XgA bl]
      simp only [Xu, Yn, Xq]
      refine ZW sm ((h'.push (.list [.tup [.str 7]])).push (.list (((if t.cn + -1 > 0 then [] else t.gw).map iMV).filterMap wk9))) rfl ?_
      rw [Xkm]
      simp [LRow.mv]
end
end
section
theorem XfF {α : Type} {tt : TM} {I : Fr → Prop} {g H : α → MV} {P : α → Bool} {p : BM} {e : EM} {σ : Sg} {i : Nat} {l : List α} (hi : σ[i]? = some (.list (l.map g))) (hlen : l.length < 1000)
    (hp : ∀ a ∈ l, ∀ fr acc, I fr → ∃ fr', I fr' ∧ tt (g a) fr (σ ++ [.list acc]) = .ok fr' (σ ++ [.list acc]) ∧ p fr' (σ ++ [.list acc]) = .ok (P a) (σ ++ [.list acc]) ∧ (P a = true → e fr' (σ ++ [.list acc]) = .ok (H a) (σ ++ [.list acc]))) :
    ∀ (n k : Nat) (fr : Fr) (acc : List MV), n + k = l.length → acc.length ≤ k → I fr → Uk (nxL i) tt p e σ.length (n + 1) k fr (σ ++ [.list acc]) = .ok (.ref σ.length) (σ ++ [.list (acc ++ ((l.drop k).filter P).map H)])
  | 0, k, fr, acc, hn, ha, hfr => by
    have : (l.map g)[k]? = none := List.getElem?_eq_none (by simp; lia)
    have hd : l.drop k = [] := List.drop_eq_nil_of_le (by lia)
    simp only [Uk, nxL, Yv hi, this, hd, List.filter_nil, List.map_nil, List.append_nil]
  | n + 1, k, fr, acc, hn, ha, hfr => by
    have hk : k < l.length := by lia
    have hv : (l.map g)[k]? = some (g l[k]) := by rw [List.getElem?_map, List.getElem?_eq_getElem hk]; rfl
    have hd : l.drop k = l[k] :: l.drop (k + 1) := List.drop_eq_getElem_cons hk
    have hm : l[k] ∈ l := List.getElem_mem hk
    refine @cps _ fun Γ γ => ?_
    obtain ⟨fr', hI, h1, h2, h3⟩ := hp _ hm fr acc hfr
    refine γ ?_; clear γ Γ
    rw [Uu]
    simp only [nxL, Yv hi, hv]
    rw [h1]
    simp only [Zf, R.bind]
    rw [h2]
    simp only [Zf]
    cases hf : P l[k] with
    | false =>
      simp only [Bool.false_eq_true, if_false]
      have ih := XfF hi hlen hp n (k + 1) fr' acc (by lia) (by lia) hI
      rw [ih, hd, List.filter_cons_of_neg (by simp [hf])]
    | true =>
      simp only [if_true]
      rw [h3 hf]
      simp only [Vo, YC, Xco]
      rw [UY (by lia)]
      simp only
      have ih := XfF hi hlen hp n (k + 1) fr' (acc ++ [H l[k]]) (by lia) (by simp; lia) hI
      rw [ih, hd, List.filter_cons_of_pos hf]
      simp
theorem e_compM {α : Type} {m : EM} {fs : List Sy} {tt : TM} {p : BM} {e : EM} {fr : Fr} {σ0 σ : Sg} {i : Nat} {l : List α} {g : α → MV} (I : Fr → Prop) (P : α → Bool) (H : α → MV) (hm : m fr σ0 = .ok (.ref i) σ) (hi : σ[i]? = some (.list (l.map g))) (hlen : l.length < 1000) (hI : I (frC fs fr))
    (hp : ∀ a ∈ l, ∀ fr acc, I fr → ∃ fr', I fr' ∧ tt (g a) fr (σ ++ [.list acc]) = .ok fr' (σ ++ [.list acc]) ∧ p fr' (σ ++ [.list acc]) = .ok (P a) (σ ++ [.list acc]) ∧ (P a = true → e fr' (σ ++ [.list acc]) = .ok (H a) (σ ++ [.list acc]))) :
    Zz m fs tt p e fr σ0 = .ok (.ref σ.length) (σ ++ [.list ((l.filter P).map H)]) := by
  unfold Zz
  rw [hm]
  simp only [R.bind, hi, List.length_map]
  have := XfF hi hlen hp l.length 0 (frC fs fr) [] (by simp) (Nat.le_refl _) hI
  rw [this]
  simp
section
variable {S σ : Sg} {rm : Bool → Int} {n dj : Nat} {ad : Ad → Nat} {t : Ld}
noncomputable def Ur (ad : Ad → Nat) (i : Nat) : MV := .ref (ad (.go i))
noncomputable def Ld.inSt (t : Ld) (n : Nat) (x : Sy) : List Nat := (List.range n).filter fun i => decide ((t.st i).sy = x)
theorem Xcx (h : Lh S rm n dj ad t σ) {m : List MV → Sg → R MV} {a : EMs} {fr : Fr} : Xam .scheduler none m a fr (.ok (.ref (ad .sch)) σ) = VX m (ad .sch) (a fr σ) := WN (h.at_ .sch _ rfl) rfl
theorem Xpw (h : Lh S rm n dj ad t σ) {m : List MV → Sg → R MV} {a : EMs} {fr : Fr} : Xam .choices none m a fr (.ok (.ref (ad .cho)) σ) = VX m (ad .cho) (a fr σ) := WN (h.at_ .cho _ rfl) rfl
theorem XaV (h : Lh S rm n dj ad t σ) (hn : n < 100) : VN [.ref (ad .sch)] σ = .ok (.ref σ.length) (σ ++ [.list ((t.inSt n 15).map (Ur ad))]) := by
  unfold VN
  rw [f1]
  unfold WX
  have := e_compM (m := Yl .scheduler 28 (Xc 43)) (fs := []) (tt := XC 60) (p := XN oEq (Yl .goroutine 39 (Xc 60)) (Xd (.str 15))) (e := Xc 60) (fr := [(43, .ref (ad .sch))]) (σ0 := σ) (σ := σ) (l := List.range n) (g := Ur ad) (i := ad .all) (fun _ => True) (fun i => decide ((t.st i).sy = 15)) (Ur ad) (by simp only [Xk, Xj, Yh, Ys, Yz, Sy.eqb, Fin.reduceBEq, cond_true, h.r_all]) h.at_all (by simp; lia) trivial (fun i hi fr acc _ => ⟨fset fr 60 (Ur ad i), trivial, rfl, by
      simp only [Xk, Xj, Xm, XE, Xt, XF, Xz, Yh, Ys, Xh, if_true, Ur, (h.push _).r_state (List.mem_range.mp hi), XfM], fun _ => by simp only [Xk, Xj, Xh, if_true]⟩)
  simp only [Xw, Yg, this, Xu, Yg, Yn, Xw, Xq]
  rfl
theorem Xec (h : Lh S rm n dj ad t σ) (hn : n < 100) : Zz (Yl .scheduler 28 (Xc 43)) [] (XC 60) (XN oEq (Yl .goroutine 39 (Xc 60)) (Xd (.str 1))) (Xc 60) [(43, .ref (ad .sch))] σ = .ok (.ref σ.length) (σ ++ [.list ((t.inSt n 1).map (Ur ad))]) :=
  e_compM (l := List.range n) (g := Ur ad) (i := ad .all) (fun _ => True) (fun i => decide ((t.st i).sy = 1)) (Ur ad) (by simp only [Xk, Xj, Yh, Ys, Yz, Sy.eqb, Fin.reduceBEq, cond_true, h.r_all]) h.at_all (by simp; lia) trivial (fun i hi fr acc _ => ⟨fset fr 60 (Ur ad i), trivial, rfl, by
      simp only [Xk, Xj, Xm, XE, Xt, XF, Xz, Yh, Ys, Xh, if_true, Ur, (h.push _).r_state (List.mem_range.mp hi), XfM], fun _ => by simp only [Xk, Xj, Xh, if_true]⟩)
theorem Xd9 (h : Lh S rm n dj ad t σ) (hn : n < 100) : UG [.ref (ad .sch)] σ = .ok (.ref σ.length) (σ ++ [.list ((t.inSt n 1).map fun i : Nat => .tup [.int (i : Int), t.wf i])]) := by
  unfold UG
  rw [f1]
  unfold Wr
  have := e_compM (m := Yl .scheduler 28 (Xc 43)) (fs := []) (tt := XC 60) (p := XN oEq (Yl .goroutine 39 (Xc 60)) (Xd (.str 1))) (e := Yw (Xe (Yl .goroutine 34 (Xc 60)) (Xe (Yl .goroutine 42 (Xc 60)) Xi))) (fr := [(43, .ref (ad .sch))]) (σ0 := σ) (σ := σ) (l := List.range n) (g := Ur ad) (i := ad .all) (fun _ => True) (fun i => decide ((t.st i).sy = 1)) (fun i : Nat => .tup [.int (i : Int), t.wf i]) (by simp only [Xk, Xj, Yh, Ys, Yz, Sy.eqb, Fin.reduceBEq, cond_true, h.r_all]) h.at_all (by simp; lia) trivial (fun i hi fr acc _ => ⟨fset fr 60 (Ur ad i), trivial, rfl, by
      simp only [Xk, Xj, Xm, XE, Xt, XF, Xz, Yh, Ys, Xh, if_true, Ur, (h.push _).r_state (List.mem_range.mp hi), XfM], fun _ => by simp only [Xk, Xj, XA, Xx, Xv, Xn, Yx, Yy, Yh, Ys, el2, List.length_cons, List.length_nil, Xh, if_true, Ur, (h.push _).r_num (List.mem_range.mp hi), (h.push _).r_wf (List.mem_range.mp hi)]⟩)
  simp only [Xw, Yg, this, Xu, Yg, Yn, Xw, Xq]
  rfl
theorem Xhs (h : Lh S rm n dj ad t σ) (hn : n < 100) : ∃ σ', UU [.ref (ad .sch)] σ = .ok (.bool ((t.inSt n 15).isEmpty && !(t.inSt n 1).isEmpty)) (σ ++ σ') := by
  unfold UU
  rw [f1]
  unfold VV
  have e1 := XaV h hn
  have h1 := h.push (.list ((t.inSt n 15).map (Ur ad)))
  have q1 := Xck (YC (σ := σ) (o := .list ((t.inSt n 15).map (Ur ad))))
  have h2 := h1.push (.list [])
  have e2 := Xec h2 hn
  have q2 := XbQ (YC (σ := σ ++ [.list ((t.inSt n 15).map (Ur ad))] ++ [.list []]) (o := .list ((t.inSt n 1).map (Ur ad))))
  generalize t.inSt n 15 = l at *
  rcases l with _ | ⟨a, l⟩
  · simp only [List.map_nil, List.isEmpty_nil] at e1 q1 e2 q2
    refine ⟨[.list []] ++ [.list []] ++ [.list ((t.inSt n 1).map (Ur ad))] ++ [.list []], ?_⟩
    simp only [Xk, Xj, YT, XE, Xt, Xz, Uy, ZL, XA, Yd, Yf, YJ, Yu, Xu, Yg, Yn, Xw, Xq, Yz, Sy.eqb, Fin.reduceBEq, cond_true, el0, List.length_nil, List.isEmpty_nil, Xcx h, e1, q1, e2, q2]
    simp
  · simp only [List.map_cons, List.isEmpty_cons] at e1 q1 e2 q2
    refine ⟨[.list ((a :: l).map (Ur ad))] ++ [.list []], ?_⟩
    simp only [Xk, Xj, YT, XE, Xt, Xz, Uy, ZK, XA, Yd, Yf, YJ, Yu, Xu, Yg, Yn, Xw, Xq, Yz, Sy.eqb, Fin.reduceBEq, cond_true, el0, List.length_nil, List.map_cons, List.isEmpty_cons, Xcx h, e1, q1]
    simp
theorem XgZ (h : Lh S rm n dj ad t σ) {ds : List Nat} {m : Nat} (hd : S[dj]? = some (.list (ds.map fun d : Nat => .int (d : Int)))) (hl : ds.length < 100) (hm : 0 < m) (hm9 : m < 100) :
    ∃ σ', XfJ [.ref (ad .cho), .int m] σ = .ok (.int ((pick ds t.tk m).1 : Nat)) σ' ∧ Lh S rm n dj ad { t with tk := (pick ds t.tk m).2 } σ' ∧ ∀ (i : Nat) (l : List MV), σ[i]? = some (MO.list l) → σ'[i]? = some (MO.list l) := by
  unfold XfJ
  rw [f2]
  unfold Xfb
  have le1 : oLe (.int m) (.int 1) σ = .ok (.bool (decide (m ≤ 1))) σ := by
    simp only [oLe, rB]; congr 2; simp
    constructor <;> intro <;> lia
  by_cases h1 : m ≤ 1
  · have e1 : pick ds t.tk m = (0, t.tk) := by unfold pick; rw [if_pos h1]
    rw [e1]
    simp only [Xk, Xj, Xm, XE, Xt, XF, Xz, XY, XZ, Xu, Yg, Yn, Xw, Xq, Yz, Sy.eqb, Fin.reduceBEq, cond_true, cond_false, le1, h1, decide_true]
    exact ⟨σ, rfl, h, fun _ _ e => e⟩
  · have e1 : pick ds t.tk m = ((ds.getD t.tk 0) % m, t.tk + 1) := by unfold pick; rw [if_neg h1]
    rw [e1]
    have s1 := (h.s_tk (t.tk + 1)).1
    have h2 := (h.s_tk (t.tk + 1)).2
    have dD := h2.old _ _ hd
    have gl : ZN [.ref dj] (wH rm n dj ad { t with tk := t.tk + 1 } .cho σ) = .ok (.int (ds.length : Nat)) (wH rm n dj ad { t with tk := t.tk + 1 } .cho σ) := by
      have := Xa4 dD (by simp; lia)
      rw [List.length_map] at this; exact this
    have old : ∀ (i : Nat) (l : List MV), σ[i]? = some (MO.list l) → (wH rm n dj ad { t with tk := t.tk + 1 } .cho σ)[i]? = some (MO.list l) := fun i l e => by
      unfold wH
      rw [Xae]
      · exact e
      · rintro rfl
        rw [h.at_ .cho _ rfl] at e
        cases e
    by_cases hk : t.tk < ds.length
    · have gk := XhT (p := t.tk) dD hk (by lia)
      simp only [Xk, Xj, Xm, YT, XE, Xt, Ym, XF, Xz, Vf, XY, XZ, XR, XA, Xx, Xv, Xn, Yh, Ys, XU, XT, Xu, Yg, Yn, Yj, Yk, XJ, XQ, YB, YF, YG, Xw, XD, Xq, XG, Yz, Ya, Zl, Sy.eqb, Fin.reduceBEq, cond_true, cond_false, le1, h1, decide_false, h.r_taken, Xdp, s1, gl, h2.r_row, Xfi, hk, decide_true, gk, XhW hm]
      exact ⟨_, rfl, h2, old⟩
    · have z : ds.getD t.tk 0 = 0 := by rw [List.getD_eq_getElem?_getD, List.getElem?_eq_none (by lia)]; rfl
      simp only [Xk, Xj, Xm, YT, XE, Xt, XF, Xz, Vf, XY, XR, XA, Xx, Xv, Xn, Yh, Ys, XU, XT, Xu, Yg, Yn, Yj, Yk, XJ, XQ, YB, YF, YG, Xw, XD, Xq, XG, Yz, Ya, Zl, Sy.eqb, Fin.reduceBEq, cond_true, cond_false, le1, h1, decide_false, h.r_taken, Xdp, s1, gl, h2.r_row, Xfi, hk]
      rw [z, Nat.zero_mod]
      exact ⟨_, rfl, h2, old⟩
theorem Xef (h : Lh S rm n dj ad t σ) (hn : n < 100) (hr : t.inSt n 15 = []) : ∃ G, Wj [.ref (ad .sch)] σ = .ok .none (σ ++ G) := by
  unfold Wj
  rw [f1]
  unfold Xbe
  have e1 := XaV h hn
  have q1 := Xck (YC (σ := σ) (o := .list ((t.inSt n 15).map (Ur ad))))
  rw [hr] at e1 q1
  simp only [List.map_nil, List.isEmpty_nil] at e1 q1
  refine ⟨[.list []] ++ [.list []], ?_⟩
  simp only [Xk, Xj, Xm, XE, Xt, XF, Xz, XY, XZ, XA, Yd, Yf, YJ, Yu, Xu, Yg, Yn, Yj, Yk, XJ, XQ, Xw, XD, Xq, Yz, Ya, Zl, Sy.eqb, Fin.reduceBEq, cond_true, cond_false, el0, List.length_nil, Xcx h, e1, q1]
  simp
theorem XeE (h : Lh S rm n dj ad t σ) (hn : n < 100) {ds : List Nat} (hd : S[dj]? = some (.list (ds.map fun d : Nat => .int (d : Int)))) (hl : ds.length < 100) (hr : t.inSt n 15 ≠ []) :
    ∃ σ', Wj [.ref (ad .sch)] σ = .ok (Ur ad ((t.inSt n 15).getD (pick ds t.tk (t.inSt n 15).length).1 0)) σ' ∧ Lh S rm n dj ad { t with tk := (pick ds t.tk (t.inSt n 15).length).2, here := some ((t.inSt n 15).getD (pick ds t.tk (t.inSt n 15).length).1 0) } σ' := by
  unfold Wj
  rw [f1]
  unfold Xbe
  have e1 := XaV h hn
  have h1 := h.push (.list ((t.inSt n 15).map (Ur ad)))
  have q1 := Xck (YC (σ := σ) (o := .list ((t.inSt n 15).map (Ur ad))))
  have h2 := h1.push (.list [])
  have h0 : 0 < (t.inSt n 15).length := List.length_pos_iff.mpr hr
  have hlen : (t.inSt n 15).length ≤ n := by
    have := List.length_filter_le (fun i => decide ((t.st i).sy = 15)) (List.range n)
    simpa [Ld.inSt] using this
  have ne : ((t.inSt n 15).map (Ur ad)).isEmpty = false := by simpa using hr
  rw [ne] at q1
  generalize t.inSt n 15 = l at *
  have a2 : (σ ++ [.list (l.map (Ur ad))] ++ [.list []])[σ.length]? = some (.list (l.map (Ur ad))) := Yv YC
  have gl := Xa4 a2 (by simp; lia)
  rw [List.length_map] at gl
  refine @cps _ fun Γ γ => ?_
  obtain ⟨σ3, e3, h3, old⟩ := XgZ h2 hd hl h0 (by lia)
  refine γ ?_; clear γ Γ
  have a3 := old _ _ a2
  have hlt := XaG (ds := ds) (tk := t.tk) h0
  have g3 : Zx (.ref σ.length) (.int ((pick ds t.tk l.length).1 : Nat)) σ3 = .ok (Ur ad (l.getD (pick ds t.tk l.length).1 0)) σ3 := by
    refine Zr a3 ?_ (by lia)
    rw [List.getElem?_map, List.getElem?_eq_getElem hlt, List.getD_eq_getElem?_getD, List.getElem?_eq_getElem hlt]; rfl
  have s3 := (h3.s_here (l.getD (pick ds t.tk l.length).1 0)).1
  have h4 := (h3.s_here (l.getD (pick ds t.tk l.length).1 0)).2
  generalize pick ds t.tk l.length = p at *
  generalize l.getD p.1 0 = i at *
  refine ⟨_, ?_, h4⟩
  simp only [Xk, Xj, XE, Xt, Ym, XF, Xz, XY, XR, XA, Xx, Xv, Xn, Yd, Yf, Yh, Ys, XU, XT, YJ, Yu, Yj, Yk, XJ, XQ, YF, YG, Xw, XD, XG, Yz, Ya, Zl, Sy.eqb, Fin.reduceBEq, cond_true, cond_false, el0, List.length_nil, Xcx h, e1, q1, h2.r_choices, Xpw h2, gl, e3, g3]
  simp only [Ur, s3, Xk, Xj, Yh, Ys, Xu, Yg, Yn, XJ, YB, Xw, XD, Xq, Yz, Sy.eqb, Fin.reduceBEq, cond_true, cond_false, h4.r_here rfl]
noncomputable def blk (t : Ld) (i : Nat) : Ld := { t with st := upd t.st i .blocked, wf := upd t.wf i (.str 6) }
theorem XgY {σ : Sg} {a b : Sy} : oNe (.str a) (.str b) σ = .ok (.bool (!a.eqb b)) σ := rfl
theorem Xh8 {σ : Sg} {a b : Sy} : oNe (.str a) (.str b) σ = .ok (.bool (!decide (a = b))) σ := by rw [XgY, Sy.eqb_eq]
theorem Xf7 (h : Lh S rm n dj ad t σ) {i : Nat} (hi : i < n) (hh : t.here = some i) (hs : t.st i = .ready) : ∃ σ', XbY [.ref (ad .sch), .str 6] σ = .ok .none σ' ∧ Lh S rm n dj ad (blk t i) σ' := by
  unfold XbY
  rw [f2]
  unfold XdB
  have r1 := h.r_state hi
  rw [hs] at r1
  have s1 : Zb .goroutine 39 (.str 1) (.ref (ad (.go i))) σ = _ := (h.s_st .blocked hi).1
  have h1 := (h.s_st .blocked hi).2
  have h2 := (h1.s_wf (.str 6) hi).2
  refine ⟨_, ?_, h2⟩
  simp only [Xk, Xj, Xm, XE, Xt, XF, Xz, XY, XR, Yh, Ys, YA, Yj, Yk, XJ, YB, YF, YG, Xw, XD, XG, Yz, Sy.eqb, Fin.reduceBEq, cond_true, cond_false, h.r_here hh, r1, Gs.sy, XgY, Bool.not_true, s1, h1.r_here hh, (h1.s_wf (.str 6) hi).1]
noncomputable def wke (t : Ld) (i : Nat) : Ld := { t with st := upd t.st i .ready, wf := upd t.wf i .none }
theorem Xj2 (h : Lh S rm n dj ad t σ) {i : Nat} (hi : i < n) (hn : n < 100) : Xl6 [.ref (ad .sch), .int i] σ = .ok (Ur ad i) σ := by
  unfold Xl6
  rw [f2]
  unfold Xkd
  have gl := Xa4 h.at_all (by simp; lia)
  rw [List.length_map, List.length_range] at gl
  have g3 : Zx (.ref (ad .all)) (.int i) σ = .ok (Ur ad i) σ := Zr h.at_all (by simp [hi, Ur]) (by lia)
  have e0 : Xbg oLe oLt (Xd (.int 0)) (Xc 34) (XB ZN (Xe (Yl .scheduler 28 (Xc 43)) Xi)) [(43, .ref (ad .sch)), (34, .int i)] σ = .ok true σ := by
    rw [Xj7 (x := .int 0) rfl]
    unfold Xis
    have l0 : oLe (.int 0) (.int i) σ = .ok (.bool true) σ := by simp [oLe, rB]
    simp only [Xk, Xj, Xz, XA, Xx, Xv, Xn, Yh, Ys, XU, XT, Yz, Sy.eqb, Fin.reduceBEq, cond_true, cond_false, R.bind, l0, if_true, h.r_all, gl, Xfi, hi, decide_true]
  simp only [Xw, XY, Vm, e0, Xk, Xj, XE, Xt, Ym, Vm, VD, XY, XR, Yh, Ys, Xu, Yg, Yn, Xw, XD, Xq, XG, Yz, Sy.eqb, Fin.reduceBEq, cond_true, cond_false, Bool.not_true, h.r_all, g3]
theorem XdC (h : Lh S rm n dj ad t σ) {i : Nat} (hi : i < n) (hn : n < 100) (hs : t.st i = .blocked) : ∃ σ', XdU [.ref (ad .sch), .int i] σ = .ok .none σ' ∧ Lh S rm n dj ad (wke t i) σ' := by
  unfold XdU
  rw [f2d]
  unfold XeO
  have r1 := h.r_state hi
  rw [hs] at r1
  have s1 : Zb .goroutine 39 (.str 15) (.ref (ad (.go i))) σ = _ := (h.s_st .ready hi).1
  have h1 := (h.s_st .ready hi).2
  have h2 := (h1.s_wf .none hi).2
  have s2 := (h1.s_wf .none hi).1
  have s3 : Zb .goroutine 29 .none (.ref (ad (.go i))) _ = _ := UV (h2.at_go hi) (by simp)
  have h3 := h2.wr (.go i) (wke t i) (by simp [ob, hi]) (by simp [ob, hi]) (fun x hx => rfl)
  have e3 : (wH rm n dj ad (wke t i) (.go i) (wH rm n dj ad { t with st := upd t.st i .ready, wf := upd t.wf i .none } (.go i) (wH rm n dj ad { t with st := upd t.st i .ready } (.go i) σ))) = _ := rfl
  refine ⟨_, ?_, h3⟩
  simp only [Xk, Xj, Xm, XE, Xt, XF, Xz, XY, XR, XA, Xx, Xv, Xn, Yh, Ys, YJ, Yu, YA, Yj, Yk, XJ, XQ, YB, YF, YG, Xw, XD, XG, Yz, Ya, Zl, Sy.eqb, Fin.reduceBEq, cond_true, cond_false, Xcx h, Xj2 h hi hn, Ur, r1, Gs.sy, XgY, Bool.not_true, s1, s2, s3]
  simp [wH, ob, hi, wke, UT, Gs.sy]
noncomputable def endd (t : Ld) (i L : Nat) : Ld := { t with st := upd t.st i .ended, fr := upd t.fr i L }
theorem XiP (h : Lh S rm n dj ad t σ) {i : Nat} (hi : i < n) (hh : t.here = some i) : ∃ σ' L, Xgm [.ref (ad .sch)] σ = .ok .none σ' ∧ Lh S rm n dj ad (endd t i L) σ' := by
  unfold Xgm
  rw [f1]
  unfold Xg6
  have s1 : Zb .goroutine 39 (.str 8) (.ref (ad (.go i))) σ = _ := (h.s_st .ended hi).1
  have h1 := (h.s_st .ended hi).2
  generalize wH rm n dj ad { t with st := upd t.st i .ended } (.go i) σ = σ1 at s1 h1
  have h2 := h1.push (.list [])
  have h3 := (h2.s_fr σ1.length hi).2
  refine ⟨_, σ1.length, ?_, h3⟩
  simp only [Xk, Xj, Xm, XA, Yd, Yf, Yh, Ys, YA, Yj, Yk, XJ, YB, YF, YG, Xw, XD, XG, Yz, Sy.eqb, Fin.reduceBEq, cond_true, h.r_here hh, s1, el0, List.length_nil, h2.r_here hh, (h2.s_fr σ1.length hi).1]
end
end
section
noncomputable def Ld.say (g : Nat) (v : Option Vl) (t : Ld) : Ld :=
  { t with vals := match v with
      | some v => upd t.vals g (t.vals g ++ [v])
      | none => t.vals, dn := upd t.dn g (t.dn g + 1) }
noncomputable def What.v : What → Option Vl
  | .recv v => some v
  | _ => none
noncomputable def Ld.ap (t : Ld) (i : Nat) : LRow → Option Ld
  | .panic _ => none
  | .woken _ .panic => none
  | .blocked => some (blk t i)
  | .done v => some (t.say i v)
  | .woken g w => some (wke (t.say g w.v) g)
noncomputable def Ld.aps (t : Ld) (i : Nat) : List LRow → Option Ld
  | [] => some t
  | r :: l => match t.ap i r with
    | none => none
    | some t' => t'.aps i l
theorem XoA {t : Ld} {i : Nat} {r : LRow} {l : List LRow} : t.aps i (r :: l) = match t.ap i r with
    | none => none
    | some t' => t'.aps i l := rfl
noncomputable def Ld.fit1 (t : Ld) (n i : Nat) : LRow → Prop
  | .blocked => t.st i = .ready
  | .woken _ .panic => True
  | .woken g _ => g < n ∧ t.st g = .blocked ∧ (t.vals g).length < 100
  | .done _ => (t.vals i).length < 100
  | _ => True
noncomputable def Ld.fit (t : Ld) (n i : Nat) : List LRow → Prop
  | [] => True
  | r :: l => t.fit1 n i r ∧ ∀ t', t.ap i r = some t' → t'.fit n i l
structure K8 (fr : Fr) (ad : Ad → Nat) (i pj : Nat) : Prop where
  h1 : fr.lookup 60 = some (Ur ad i)
  h2 : fr.lookup 24 = some (.ref (ad .vs))
  h3 : fr.lookup 7 = some (.ref (ad .dn))
  h4 : fr.lookup 67 = some (.ref (ad .sch))
  h5 : fr.lookup 81 = some (.ref (ad .wd))
  h6 : fr.lookup 65 = some (.ref pj)
noncomputable def n8 (x : Sy) : Bool := decide (x = 60) || decide (x = 24) || decide (x = 7) || decide (x = 67) || decide (x = 81) || decide (x = 65)
theorem K8.set {fr : Fr} {ad : Ad → Nat} {i pj : Nat} (k : K8 fr ad i pj) (x : Sy) (v : MV) (h : n8 x = false) : K8 (fset fr x v) ad i pj := by
  simp only [n8, Bool.or_eq_false_iff, decide_eq_false_iff_not] at h
  refine @cps _ fun Γ γ => ?_
  obtain ⟨⟨⟨⟨⟨a, b⟩, c⟩, d⟩, f⟩, g⟩ := h
  refine γ ?_; clear γ Γ
  exact ⟨by rw [Xh, if_neg (Ne.symm a)]; exact k.h1, by rw [Xh, if_neg (Ne.symm b)]; exact k.h2, by rw [Xh, if_neg (Ne.symm c)]; exact k.h3, by rw [Xh, if_neg (Ne.symm d)]; exact k.h4, by rw [Xh, if_neg (Ne.symm f)]; exact k.h5, by rw [Xh, if_neg (Ne.symm g)]; exact k.h6⟩
noncomputable def XdN : XM := (Xo (YZ (mOr (XN oEq (XI (Xc 37) (Xd (.int 0))) (Xd (.str 14))) (mOr (UO (XN oEq (XI (Xc 37) (Xd (.int 0))) (Xd (.str 27))) (UO (XN oEq (XI (XI (Xc 37) (Xd (.int 4))) (Xd (.int 0))) (Xd (.str 14))) YU)) WQ)) (Xo (Zg (Yw (Xe (Xd (.str 14)) (Xe (Xc 24) (Xe (Xc 7) (Xe (XO Xi) Xi)))))) Xp) Xp) (Xo (YZ (XN oEq (XI (Xc 37) (Xd (.int 0))) (Xd (.str 1))) (Xo (Zd (Ua .scheduler none XbY (Xc 67) (Xe (Xd (.str 6)) Xi))) (Xo (mFl .cont) Xp)) Xp) (Xo (YE (mIf (XN oEq (XI (Xc 37) (Xd (.int 0))) (Xd (.str 7))) (Yw (Xe (Yl .goroutine 34 (Xc 60)) (Xe (Xc 37) Xi))) (Yw (Xe (XI (Xc 37) (Xd (.int 1))) (Xe (XI (Xc 37) (Xd (.int 4))) Xi)))) (ZC 2 (ZQ (XC 53) (ZQ (XC 73) XbA)))) (Xo (YZ (XN oEq (XB ZN (Xe (Xc 73) Xi)) (Xd (.int 3))) (Xo (Zd (mLm Yt (XI (Xc 24) (Xc 53)) (Xe (XgD 1 (Xc 73)) Xi))) Xp) Xp) (Xo (YE (YI UJ (XI (Xc 7) (Xc 53)) (Xd (.int 1))) (Ws (Xc 7) (Xc 53))) (Xo (YZ (XN oEq (XI (Xc 37) (Xd (.int 0))) (Xd (.str 27))) (Xo (Zd (Ua .scheduler none XdU (Xc 67) (Xe (Xc 53) Xi))) Xp) Xp) Xp))))))
section
variable {S σ : Sg} {rm : Bool → Int} {n dj : Nat} {ad : Ad → Nat} {t : Ld} {fr : Fr} {i pj : Nat}
theorem XhQ {σ : Sg} {a b c d e : MV} {l : List MV} : Zx (.tup (a :: b :: c :: d :: e :: l)) (.int 4) σ = .ok e σ := rfl
theorem XeP {σ : Sg} {l : List MV} (h : l.length < 100) : ZN [.tup l] σ = .ok (.int l.length) σ := by
  unfold ZN; dsimp only
  rw [if_pos (by lia)]; rfl
theorem Lh.g_dn (h : Lh S rm n dj ad t σ) {g : Nat} (hg : g < n) (hn : n < 100) : Zx (.ref (ad .dn)) (.int g) σ = .ok (.int (t.dn g)) σ := Zr h.at_dn (by simp [hg, iMV]) (by lia)
theorem Lh.g_vs (h : Lh S rm n dj ad t σ) {g : Nat} (hg : g < n) (hn : n < 100) : Zx (.ref (ad .vs)) (.int g) σ = .ok (.ref (ad (.v g))) σ := Zr h.at_vs (by simp [hg]) (by lia)
theorem Lh.i_dn (h : Lh S rm n dj ad t σ) {g d : Nat} (hg : g < n) (hn : n < 100) : ZZ (.int ((d : Int) + 1)) (.ref (ad .dn)) (.int g) σ = .ok () (wH rm n dj ad { t with dn := upd t.dn g (d + 1) } .dn σ) := by
  rw [Xbi h.at_dn (by simp [hg]) (by lia), ← (h.s_dn (upd t.dn g (d + 1))).1, XcC (g := fun d : Nat => iMV d)]
  rfl
theorem Lh.i_v (h : Lh S rm n dj ad t σ) {g : Nat} (hg : g < n) (hl : (t.vals g).length < 100) (v : Vl) : Yt (ad (.v g)) ((t.vals g).map vMV) [vMV v] σ = .ok .none (wH rm n dj ad { t with vals := upd t.vals g (t.vals g ++ [v]) } (.v g) σ) := by
  rw [XbI (by simp; lia), ← (h.s_v _ hg).1, List.map_append]; rfl
theorem XmS {σ : Sg} {a b c : MV} : Xju 1 (.tup [a, b, c]) σ = .ok (.tup [b, c]) σ := rfl
theorem Xkk {v : Vl} : MV.tup [oI v.1, .bool v.2] = vMV v := rfl
noncomputable def Xni (S : Sg) (rm : Bool → Int) (n dj : Nat) (ad : Ad → Nat) (i pj : Nat) (r : R (Fl × Fr)) : Option Ld → Prop
  | none => ∃ z fr' σ', r = .ok (.ret (.tup [.str 14, .ref (ad .vs), .ref (ad .dn), .ref z]), fr') σ' ∧ ∀ (i : Nat) (o : MO), S[i]? = some o → σ'[i]? = some o
  | some t' => ∃ f fr' σ', r = .ok (f, fr') σ' ∧ (f = .next ∨ f = .cont) ∧ Lh S rm n dj ad t' σ' ∧ K8 fr' ad i pj
theorem XiL (h : Lh S rm n dj ad t σ) (k : K8 fr ad i pj) (hn : n < 100) (hi : i < n) (hh : t.here = some i) {r : LRow} (hr : fr.lookup 37 = some r.mv) (hf : t.fit1 n i r) : Xni S rm n dj ad i pj (XdN fr σ) (t.ap i r) := by
  unfold XdN
  have L4 : ∀ (x : Sy) (v : MV) (y : Sy), (fset fr x v).lookup y = if y = x then some v else fr.lookup y := Xh fr
  cases r with
  | panic s =>
    simp only [Xk, Xj, Xm, XE, Xt, Ym, XF, Xz, VM, UA, XY, XZ, XA, Xx, Xv, Xn, Yx, Yy, Yd, Yf, Yg, Yn, Xw, Xq, Sy.eqb, Fin.reduceBEq, Vb, el0, el4, List.length_cons, List.length_nil, hr, LRow.mv, ZX, k.h2, k.h3]
    exact ⟨_, _, _, rfl, (h.push _).old⟩
  | blocked =>
    obtain ⟨σ', e, h'⟩ := Xf7 h hi hh hf
    simp only [Xk, Xj, Xm, XE, Xt, Ym, XF, Xz, Ui, VM, Zc, ZY, ZB, XY, XZ, XR, XA, Xx, Xv, Xn, YJ, Yu, YK, YD, Xau, Xw, XD, Za, XG, Sy.eqb, Fin.reduceBEq, Vb, hr, LRow.mv, ZX, k.h4, Xcx h, e]
    exact ⟨_, _, _, rfl, .inr rfl, h', k⟩
  | done v =>
    have k2 := fun v1 v2 => (k.set 53 v1 rfl).set 73 v2 rfl
    cases v with
    | none =>
      have lr : ∀ v1 v2, (fset (fset fr 53 v1) 73 v2).lookup 37 = some (LRow.done none).mv := fun v1 v2 => by rw [Xh, if_neg (by decide), Xh, if_neg (by decide)]; exact hr
      have l1 : ∀ v1 v2, (fset (fset fr 53 v1) 73 v2).lookup 53 = some v1 := fun v1 v2 => by rw [Xh, if_neg (by decide), Xh, if_pos rfl]
      have l2 : ∀ v1 v2, (fset (fset fr 53 v1) 73 v2).lookup 73 = some v2 := fun v1 v2 => by rw [Xh, if_pos rfl]
      simp only [LRow.mv] at hr lr
      simp only [Xk, Xj, Xm, XE, Xt, Ym, XF, Xz, Ui, VM, Zc, ZY, ZB, Vf, XY, XZ, XR, XA, Xx, Xv, Xn, Yx, Yy, Yh, Ys, XU, Yj, Yk, XJ, XQ, Zt, YR, YQ, Xw, XD, XG, Sy.eqb, Fin.reduceBEq, Vb, el2, List.length_cons, List.length_nil, hr, ZX, k.h1, Ur, h.r_num hi, XgR]
      have k3 := k2 (.int i) (.tup [.str 7])
      simp only [Xj, Xm, XE, Xt, Xz, XA, Xv, Xn, XT, List.length_cons, List.length_nil, l2, XeP (show [MV.str (7 : Sy)].length < 100 by simp), Xag]
      simp only [show (((0 + 1 : Nat) : Int) == 3) = false from rfl, Xk, Xj, Xm, YT, XE, Xt, Ym, XF, Xz, XY, XR, Yj, Yk, XJ, YB, Zn, Zo, YO, Xw, XD, XG, Sy.eqb, Fin.reduceBEq, Vb, l1, lr, k3.h3, h.g_dn hi hn, h.i_dn hi hn, add_int, ZX]
      exact ⟨_, _, _, rfl, .inl rfl, (h.s_dn _).2, k3⟩
    | some v =>
      have lr : ∀ v1 v2, (fset (fset fr 53 v1) 73 v2).lookup 37 = some (LRow.done (some v)).mv := fun v1 v2 => by rw [Xh, if_neg (by decide), Xh, if_neg (by decide)]; exact hr
      have l1 : ∀ v1 v2, (fset (fset fr 53 v1) 73 v2).lookup 53 = some v1 := fun v1 v2 => by rw [Xh, if_neg (by decide), Xh, if_pos rfl]
      have l2 : ∀ v1 v2, (fset (fset fr 53 v1) 73 v2).lookup 73 = some v2 := fun v1 v2 => by rw [Xh, if_pos rfl]
      simp only [LRow.mv] at hr lr
      simp only [Xk, Xj, Xm, XE, Xt, Ym, XF, Xz, Ui, VM, Zc, ZY, ZB, Vf, XY, XZ, XR, XA, Xx, Xv, Xn, Yx, Yy, Yh, Ys, XU, Yj, Yk, XJ, XQ, Zt, YR, YQ, Xw, XD, XG, Sy.eqb, Fin.reduceBEq, Vb, el2, List.length_cons, List.length_nil, hr, ZX, k.h1, Ur, h.r_num hi, XgR]
      have k3 := k2 (.int i) (.tup [.str 7, oI v.1, .bool v.2])
      have h1 := (h.s_v (t.vals i ++ [v]) hi).2
      have bl : ZN [.tup [.str 7, oI v.1, .bool v.2]] σ = .ok (.int 3) σ := XeP (by simp)
      have iv := h.i_v hi hf v
      simp only [Xk, Xj, Xm, YT, XE, Xt, Ym, XF, Xz, XY, XZ, XR, XA, Xx, Xv, Xn, Vg, Ys, XT, UH, YK, YD, Yj, Yk, XJ, YB, Zn, Zo, YO, Xw, XD, XG, Sy.eqb, Fin.reduceBEq, Vb, l1, l2, lr, bl, Xag, show ((3 : Int) == 3) = true from rfl, k3.h2, h.g_vs hi hn, Vv (h.at_v hi), Uh (h.at_v hi), XmS, Xkk, iv, k3.h3, h1.g_dn hi hn, h1.i_dn hi hn, add_int, ZX]
      exact ⟨_, _, _, rfl, .inl rfl, (h1.s_dn _).2, k3⟩
  | woken g w =>
    have k2 := fun v1 v2 => (k.set 53 v1 rfl).set 73 v2 rfl
    have lr : ∀ v1 v2, (fset (fset fr 53 v1) 73 v2).lookup 37 = some (LRow.woken g w).mv := fun v1 v2 => by rw [Xh, if_neg (by decide), Xh, if_neg (by decide)]; exact hr
    have l1 : ∀ v1 v2, (fset (fset fr 53 v1) 73 v2).lookup 53 = some v1 := fun v1 v2 => by rw [Xh, if_neg (by decide), Xh, if_pos rfl]
    have l2 : ∀ v1 v2, (fset (fset fr 53 v1) 73 v2).lookup 73 = some v2 := fun v1 v2 => by rw [Xh, if_pos rfl]
    cases w with
    | panic =>
      simp only [Xk, Xj, Xm, XE, Xt, Ym, XF, Xz, Ui, VM, Ze, UA, ZY, Ug, XY, XZ, XA, Xx, Xv, Xn, Yx, Yy, Yd, Yf, Yg, Yn, Xw, Xq, Sy.eqb, Fin.reduceBEq, Vb, el0, el4, List.length_cons, List.length_nil, hr, LRow.mv, What.mv, ZX, XhQ, k.h2, k.h3]
      exact ⟨_, _, _, rfl, (h.push _).old⟩
    | sent =>
      obtain ⟨hg, hs, hv⟩ := hf
      simp only [LRow.mv, What.mv] at hr lr
      simp only [Xk, Xj, Xm, XE, Xt, Ym, XF, Xz, Ui, VM, Ze, Zc, ZY, ZB, Vf, XY, XR, XA, Xx, Xv, Xn, Yx, Yy, XU, Yj, Yk, XJ, XQ, Zt, YR, YQ, Xw, XD, XG, Sy.eqb, Fin.reduceBEq, Vb, Xab, el2, List.length_cons, List.length_nil, hr, ZX, XhQ, XgR]
      have k3 := k2 (.int g) (.tup [.str 21])
      have bl : ZN [.tup [.str 21]] σ = .ok (.int 1) σ := XeP (by simp)
      have h1 := (h.s_dn (upd t.dn g (t.dn g + 1))).2
      obtain ⟨σ', e, h'⟩ := XdC h1 hg hn hs
      simp only [Xk, Xj, Xm, YT, XE, Xt, Ym, XF, Xz, XY, XZ, XR, XA, Xx, Xv, Xn, XT, YJ, Yu, YK, YD, Yj, Yk, XJ, YB, Zn, Zo, YO, Xw, XD, XG, Sy.eqb, Fin.reduceBEq, Vb, l1, l2, lr, bl, Xag, show ((1 : Int) == 3) = false from rfl, k3.h3, k3.h4, h.g_dn hg hn, h.i_dn hg hn, add_int, ZX, Xcx h1, e]
      exact ⟨_, _, _, rfl, .inl rfl, h', k3⟩
    | recv v =>
      obtain ⟨hg, hs, hv⟩ := hf
      simp only [LRow.mv, What.mv] at hr lr
      simp only [Xk, Xj, Xm, XE, Xt, Ym, XF, Xz, Ui, VM, Ze, Zc, ZY, ZB, Vf, XY, XR, XA, Xx, Xv, Xn, Yx, Yy, XU, Yj, Yk, XJ, XQ, Zt, YR, YQ, Xw, XD, XG, Sy.eqb, Fin.reduceBEq, Vb, Xab, el2, List.length_cons, List.length_nil, hr, ZX, XhQ, XgR]
      have k3 := k2 (.int g) (.tup [.str 16, oI v.1, .bool v.2])
      have bl : ZN [.tup [.str 16, oI v.1, .bool v.2]] σ = .ok (.int 3) σ := XeP (by simp)
      have h1 := (h.s_v (t.vals g ++ [v]) hg).2
      have iv := h.i_v hg hv v
      have h2 := (h1.s_dn (upd t.dn g (t.dn g + 1))).2
      obtain ⟨σ', e, h'⟩ := XdC h2 hg hn hs
      simp only [Xk, Xj, Xm, YT, XE, Xt, Ym, XF, Xz, XY, XZ, XA, Xx, Xv, Xn, Vg, Ys, XT, YJ, Yu, UH, YK, YD, Yj, Yk, XJ, YB, Zn, Zo, YO, Xw, XD, XG, Sy.eqb, Fin.reduceBEq, Vb, l1, l2, lr, bl, Xag, show ((3 : Int) == 3) = true from rfl, k3.h2, h.g_vs hg hn, Vv (h.at_v hg), Uh (h.at_v hg), XmS, Xkk, iv, k3.h3, k3.h4, h1.g_dn hg hn, h1.i_dn hg hn, add_int, ZX, Xcx h2, e]
      exact ⟨_, _, _, rfl, .inl rfl, h', k3⟩
theorem Xjb {t t' : Ld} {r : LRow} (e : t.ap i r = some t') : t'.tmp = t.tmp ∧ t'.here = t.here := by
  cases r with
  | panic => cases e
  | blocked => cases e; exact ⟨rfl, rfl⟩
  | done v => cases e; exact ⟨rfl, rfl⟩
  | woken g w => cases w <;> cases e <;> exact ⟨rfl, rfl⟩
theorem XiW {rows : List LRow} (hn : n < 100) (hi : i < n) (f : Nat) : ∀ (k : Nat) (t : Ld) (σ : Sg) (fr : Fr), f + k = rows.length → Lh S rm n dj ad t σ → K8 fr ad i pj → t.here = some i → t.tmp = some (rows.map LRow.mv) → t.fit n i (rows.drop k) →
    match t.aps i (rows.drop k) with
    | none => ∃ z fr' σ', loopI (nxL (ad .tmp)) (XC 37) XdN (f + 1) k fr σ = .ok (.ret (.tup [.str 14, .ref (ad .vs), .ref (ad .dn), .ref z]), fr') σ' ∧ ∀ (i : Nat) (o : MO), S[i]? = some o → σ'[i]? = some o
    | some t' => ∃ fr' σ', loopI (nxL (ad .tmp)) (XC 37) XdN (f + 1) k fr σ = .ok (.next, fr') σ' ∧ Lh S rm n dj ad t' σ' ∧ K8 fr' ad i pj := by
  induction f with
  | zero =>
    intro k t σ fr hf h kk hh ht hfit
    have hd : rows.drop k = [] := List.drop_eq_nil_of_le (by lia)
    have at_ := h.at_ .tmp (.list (rows.map LRow.mv)) (by simp [ob, ht])
    rw [hd]
    simp only [Ld.aps]
    refine ⟨fr, σ, ?_, h, kk⟩
    rw [UW]
    simp only [nxL, at_]
    rw [List.getElem?_eq_none (by simp; lia)]
  | succ f ih =>
    intro k t σ fr hf h kk hh ht hfit
    have hk : k < rows.length := by lia
    have hd : rows.drop k = rows[k] :: rows.drop (k + 1) := List.drop_eq_getElem_cons hk
    have at_ := h.at_ .tmp (.list (rows.map LRow.mv)) (by simp [ob, ht])
    rw [hd] at hfit ⊢
    obtain ⟨hf1, hf2⟩ := hfit
    have hb := XiL (fr := fset fr 37 rows[k].mv) h (kk.set 37 _ rfl) hn hi hh (by rw [Xh, if_pos rfl]) hf1
    rw [UW]
    simp only [nxL, at_, List.getElem?_map, List.getElem?_eq_getElem hk, Option.map_some, XC, R.bind, Ld.aps]
    cases ha : t.ap i rows[k] with
    | none =>
      rw [ha] at hb
      refine @cps _ fun Γ γ => ?_
      obtain ⟨z, fr', σ', e, ho⟩ := hb
      refine γ ?_; clear γ Γ
      rw [e]
      exact ⟨z, fr', σ', rfl, ho⟩
    | some t' =>
      rw [ha] at hb
      refine @cps _ fun Γ γ => ?_
      obtain ⟨fl, fr', σ', e, hfl, h', k'⟩ := hb
      refine γ ?_; clear γ Γ
      have ih := ih (k + 1) t' σ' fr' (by lia) h' k' ((Xjb ha).2.trans hh) ((Xjb ha).1.trans ht) (hf2 t' ha)
      rw [e]
      rcases hfl with rfl | rfl <;> exact ih
end
end
section
noncomputable def sdF (c : Bool) (r : Row) : Option (Nat × Int) := match r.2 with
  | .send c' v => if c' = c then some (r.1, v) else none
  | _ => none
noncomputable def rcF (c : Bool) (r : Row) : Option Nat := match r.2 with
  | .take c' => if c' = c then some r.1 else none
  | _ => none
noncomputable def lkF (r : Row) : Option Nat := match r.2 with
  | .lock => some r.1
  | _ => none
noncomputable def wtF (r : Row) : Option Nat := match r.2 with
  | .wait => some r.1
  | _ => none
structure Vw (s : Ps) (en : List Nat) (t : Ld) : Prop where
  k : t.k = s.k
  x : t.x = s.x
  ow : t.ow = s.ow
  cn : t.cn = s.cn
  vals : t.vals = s.vals
  dn : t.dn = s.dn
  sd : ∀ c, t.sd c = s.ws.filterMap (sdF c)
  rc : ∀ c, t.rc c = s.ws.filterMap (rcF c)
  mw : t.mw = s.ws.filterMap lkF
  gw : t.gw = s.ws.filterMap wtF
  st : ∀ i, t.st i = if i ∈ s.ws.map Prod.fst then .blocked else if i ∈ en then .ended else .ready
  di : ∀ i, i ∈ s.ws.map Prod.fst → i ∉ en
-- filterMap and the first that hits
theorem Xbc {α β : Type} {F : α → Option β} {l : List α} : l.filterMap F = [] → l.find? (fun a => (F a).isSome) = none := by
  induction l with
  | nil =>
    intro _
    exact rfl
  | cons a l ih =>
    intro h
    cases hf : F a with
    | none => rw [List.filterMap_cons_none hf] at h; rw [List.find?_cons_of_neg (by simp [hf])]; exact ih h
    | some b => rw [List.filterMap_cons_some hf] at h; cases h
theorem Xbf {α β : Type} {F : α → Option β} {b : β} {m : List β} {l : List α} : l.filterMap F = b :: m → ∃ a, l.find? (fun a => (F a).isSome) = some a ∧ F a = some b := by
  induction l with
  | nil =>
    intro h
    cases h
  | cons a l ih =>
    intro h
    cases hf : F a with
    | none => rw [List.filterMap_cons_none hf] at h; rw [List.find?_cons_of_neg (by simp [hf])]; exact ih h
    | some b' =>
      rw [List.filterMap_cons_some hf] at h
      cases h
      exact ⟨a, by rw [List.find?_cons_of_pos (by simp [hf])], hf⟩
theorem Xl7 {β : Type} {F : Row → Option β} {r : Row} {ws : List Row} : (ws.map Prod.fst).Nodup → r ∈ ws → F r = none → (ws.filter (fun q => decide (q.1 ≠ r.1))).filterMap F = ws.filterMap F := by
  induction ws with
  | nil =>
    intro _ h _
    cases h
  | cons q ws ih =>
    intro hn hr hf
    by_cases e : q.1 = r.1
    · have e' : q = r := Xko hn (by simp) hr e
      subst e'
      simp only [List.map_cons, List.nodup_cons] at hn
      rw [List.filter_cons_of_neg (by simp), List.filterMap_cons_none hf, List.filter_eq_self.mpr]
      intro p hp
      simp only [decide_eq_true_eq]
      intro e2
      exact hn.1 (e2 ▸ List.mem_map_of_mem hp)
    · have hr' : r ∈ ws := by
        rcases List.mem_cons.mp hr with h | h
        · exact absurd (by rw [h]) e
        · exact h
      simp only [List.map_cons, List.nodup_cons] at hn
      rw [List.filter_cons_of_pos (by simp [e])]
      have ih := ih hn.2 hr' hf
      cases hq : F q with
      | none => rw [List.filterMap_cons_none hq, List.filterMap_cons_none hq, ih]
      | some b => rw [List.filterMap_cons_some hq, List.filterMap_cons_some hq, ih]
theorem XlB {β : Type} {F : Row → Option β} {r : Row} {ws : List Row} : (ws.map Prod.fst).Nodup → ws.find? (fun a => (F a).isSome) = some r → (ws.filter (fun q => decide (q.1 ≠ r.1))).filterMap F = (ws.filterMap F).tail := by
  induction ws with
  | nil =>
    intro _ h
    cases h
  | cons q ws ih =>
    intro hn hr
    cases hq : F q with
    | none =>
      rw [List.find?_cons_of_neg (by simp [hq])] at hr
      have hm := List.mem_of_find?_eq_some hr
      have e : q.1 ≠ r.1 := fun e => by
        simp only [List.map_cons, List.nodup_cons] at hn
        exact hn.1 (e ▸ List.mem_map_of_mem hm)
      simp only [List.map_cons, List.nodup_cons] at hn
      rw [List.filter_cons_of_pos (by simp [e]), List.filterMap_cons_none hq, List.filterMap_cons_none hq, ih hn.2 hr]
    | some b =>
      rw [List.find?_cons_of_pos (by simp [hq])] at hr
      cases hr
      simp only [List.map_cons, List.nodup_cons] at hn
      rw [List.filter_cons_of_neg (by simp), List.filterMap_cons_some hq, List.tail_cons, List.filter_eq_self.mpr]
      intro p hp
      simp only [decide_eq_true_eq]
      intro e2
      exact hn.1 (e2 ▸ List.mem_map_of_mem hp)
theorem XeV {c : Bool} {r : Row} : (Wk.send c).hits r.2 = (sdF c r).isSome := by
  obtain ⟨i, d⟩ := r
  cases d <;> simp only [Wk.hits, sdF, Option.isSome_none]
  split <;> simp_all
theorem Xfw {c : Bool} {r : Row} : (Wk.take c).hits r.2 = (rcF c r).isSome := by
  obtain ⟨i, d⟩ := r
  cases d <;> simp only [Wk.hits, rcF, Option.isSome_none]
  split <;> simp_all
theorem XfL {r : Row} : Wk.lock.hits r.2 = (lkF r).isSome := by
  obtain ⟨i, d⟩ := r
  cases d <;> rfl
theorem Xe6 {r : Row} : Wk.wait.hits r.2 = (wtF r).isSome := by
  obtain ⟨i, d⟩ := r
  cases d <;> rfl
theorem XgC {c : Bool} {r : Row} {p : Nat × Int} (h : sdF c r = some p) : r = (p.1, .send c p.2) := by
  obtain ⟨i, d⟩ := r
  cases d <;> simp only [sdF] at h <;> try cases h
  split at h
  · rename_i e; subst e; cases h; rfl
  · cases h
theorem XdD {c : Bool} {r : Row} {g : Nat} (h : rcF c r = some g) : r = (g, .take c) := by
  obtain ⟨i, d⟩ := r
  cases d <;> simp only [rcF] at h <;> try cases h
  split at h
  · rename_i e; subst e; cases h; rfl
  · cases h
theorem XdX {r : Row} {g : Nat} (h : lkF r = some g) : r = (g, .lock) := by
  obtain ⟨i, d⟩ := r
  cases d <;> cases h
  rfl
theorem Xdx {r : Row} {g : Nat} (h : wtF r = some g) : r = (g, .wait) := by
  obtain ⟨i, d⟩ := r
  cases d <;> cases h
  rfl
section
variable {s : Ps} {en : List Nat} {t : Ld} {rm : Bool → Int} {n : Nat} {L : Nat → Nat}
theorem Vw.qs0 (h : Vw s en t) {c : Bool} (e : t.sd c = []) : s.q (.send c) = none := by
  rw [h.sd c] at e
  unfold Ps.q
  simp only [XeV]
  exact Xbc e
theorem Vw.qs1 (h : Vw s en t) {c : Bool} {p : Nat × Int} {l : List (Nat × Int)} (e : t.sd c = p :: l) : s.q (.send c) = some (p.1, .send c p.2) := by
  rw [h.sd c] at e
  unfold Ps.q
  simp only [XeV]
  obtain ⟨a, h1, h2⟩ := Xbf e
  rw [h1, XgC h2]
theorem Vw.qt0 (h : Vw s en t) {c : Bool} (e : t.rc c = []) : s.q (.take c) = none := by
  rw [h.rc c] at e
  unfold Ps.q
  simp only [Xfw]
  exact Xbc e
theorem Vw.qt1 (h : Vw s en t) {c : Bool} {g : Nat} {l : List Nat} (e : t.rc c = g :: l) : s.q (.take c) = some (g, .take c) := by
  rw [h.rc c] at e
  unfold Ps.q
  simp only [Xfw]
  obtain ⟨a, h1, h2⟩ := Xbf e
  rw [h1, XdD h2]
theorem Vw.ql0 (h : Vw s en t) (e : t.mw = []) : s.q .lock = none := by
  rw [h.mw] at e
  unfold Ps.q
  simp only [XfL]
  exact Xbc e
theorem Vw.ql1 (h : Vw s en t) {g : Nat} {l : List Nat} (e : t.mw = g :: l) : s.q .lock = some (g, .lock) := by
  rw [h.mw] at e
  unfold Ps.q
  simp only [XfL]
  obtain ⟨a, h1, h2⟩ := Xbf e
  rw [h1, XdX h2]
theorem Vw.qw0 (h : Vw s en t) (e : t.gw = []) : s.q .wait = none := by
  rw [h.gw] at e
  unfold Ps.q
  simp only [Xe6]
  exact Xbc e
theorem Vw.qw1 (h : Vw s en t) {g : Nat} {l : List Nat} (e : t.gw = g :: l) : s.q .wait = some (g, .wait) := by
  rw [h.gw] at e
  unfold Ps.q
  simp only [Xe6]
  obtain ⟨a, h1, h2⟩ := Xbf e
  rw [h1, Xdx h2]
noncomputable def Ld.pop (t : Ld) : Dd → Ld
  | .send c _ => { t with sd := ubd t.sd c (t.sd c).tail }
  | .take c => { t with rc := ubd t.rc c (t.rc c).tail }
  | .lock => { t with mw := t.mw.tail }
  | .wait => { t with gw := t.gw.tail }
  | _ => t
noncomputable def Ld.gor (g : Nat) (v : Option Vl) (t : Ld) : Ld := { t.say g v with st := upd t.st g .ready }
theorem Xh5 {β : Type} {F : Row → Option β} {k : Wk} {s : Ps} {r : Row} {l : List β} (nd : (s.ws.map Prod.fst).Nodup) (hm : r ∈ s.ws) (hq : s.q k = some r) (hh : k.hits r.2 = true) {k' : Wk} (hF : ∀ r : Row, k'.hits r.2 = (F r).isSome) (hl : l = s.ws.filterMap F) :
    (if (F r).isSome then l.tail else l) = (s.ws.filter (fun q => decide (q.1 ≠ r.1))).filterMap F := by
  subst hl
  by_cases e : (F r).isSome = true
  · rw [if_pos e]
    have hk := Xcv hh ((hF r).trans e)
    subst hk
    unfold Ps.q at hq
    simp only [hF] at hq
    exact (XlB nd hq).symm
  · rw [if_neg e]
    exact (Xl7 nd hm (Option.not_isSome_iff_eq_none.mp e)).symm
theorem Xm7 (t : Ld) (r : Row) (c : Bool) : (t.pop r.2).sd c = if (sdF c r).isSome then (t.sd c).tail else t.sd c := by
  obtain ⟨g, d⟩ := r
  cases d with
  | send c' u => cases c <;> cases c' <;> rfl
  | _ => rfl
theorem XnP (t : Ld) (r : Row) (c : Bool) : (t.pop r.2).rc c = if (rcF c r).isSome then (t.rc c).tail else t.rc c := by
  obtain ⟨g, d⟩ := r
  cases d with
  | take c' => cases c <;> cases c' <;> rfl
  | _ => rfl
theorem XmX (t : Ld) (r : Row) : (t.pop r.2).mw = if (lkF r).isSome then t.mw.tail else t.mw := by
  obtain ⟨g, d⟩ := r
  cases d <;> rfl
theorem Xnm (t : Ld) (r : Row) : (t.pop r.2).gw = if (wtF r).isSome then t.gw.tail else t.gw := by
  obtain ⟨g, d⟩ := r
  cases d <;> rfl
theorem Xph (t : Ld) (d : Dd) : (t.pop d).k = t.k := by cases d <;> rfl
theorem XoP (t : Ld) (d : Dd) : (t.pop d).x = t.x := by cases d <;> rfl
theorem Xnn (t : Ld) (d : Dd) : (t.pop d).ow = t.ow := by cases d <;> rfl
theorem Xnd (t : Ld) (d : Dd) : (t.pop d).cn = t.cn := by cases d <;> rfl
theorem Xjj (t : Ld) (d : Dd) : (t.pop d).vals = t.vals := by cases d <;> rfl
theorem XnU (t : Ld) (d : Dd) : (t.pop d).dn = t.dn := by cases d <;> rfl
theorem Xm3 (t : Ld) (d : Dd) : (t.pop d).st = t.st := by cases d <;> rfl
theorem Xka {t : Ld} {s : Ps} {i : Nat} (v : Option Vl) (e : t.vals = s.vals) : (t.gor i v).vals = (s.go i v).vals := by
  cases v with
  | none => exact e
  | some v => show upd t.vals _ (t.vals i ++ _) = upd s.vals _ (s.vals i ++ _); rw [e]
theorem XfW {t : Ld} {s : Ps} {i : Nat} (v : Option Vl) (e : t.dn = s.dn) : (t.gor i v).dn = (s.go i v).dn := by
  show upd t.dn _ (t.dn i + 1) = upd s.dn _ (s.dn i + 1); rw [e]
theorem Vw.go (h : Vw s en t) (w : s.W rm n L) {k : Wk} {r : Row} (hq : s.q k = some r) (v : Option Vl) : Vw (s.go r.1 v) en ((t.pop r.2).gor r.1 v) := by
  have hm := VR hq
  have hh := XaX hq
  have nd := w.nd
  have hst : ∀ (st : Nat → Gs), st = t.st → ∀ i, upd st r.1 .ready i = if i ∈ (s.ws.filter (fun q => decide (q.1 ≠ r.1))).map Prod.fst then .blocked else if i ∈ en then .ended else .ready := by
    intro st e i
    subst e
    unfold upd
    have hme : ∀ i, i ∈ (s.ws.filter (fun q => decide (q.1 ≠ r.1))).map Prod.fst ↔ i ∈ s.ws.map Prod.fst ∧ i ≠ r.1 := fun i => by
      simp only [List.mem_map, List.mem_filter, decide_eq_true_eq]
      constructor
      · rintro ⟨q, ⟨h1, h2⟩, rfl⟩; exact ⟨⟨q, h1, rfl⟩, h2⟩
      · rintro ⟨⟨q, h1, rfl⟩, h2⟩; exact ⟨q, ⟨h1, h2⟩, rfl⟩
    by_cases e : i = r.1
    · subst e
      rw [if_pos rfl, if_neg (fun x => ((hme _).mp x).2 rfl), if_neg (h.di _ (List.mem_map_of_mem hm))]
    · rw [if_neg e, h.st i]
      by_cases e2 : i ∈ s.ws.map Prod.fst
      · rw [if_pos e2, if_pos ((hme _).mpr ⟨e2, e⟩)]
      · rw [if_neg e2, if_neg (fun x => e2 ((hme _).mp x).1)]
  have hdi : ∀ i, i ∈ (s.ws.filter (fun q => decide (q.1 ≠ r.1))).map Prod.fst → i ∉ en := fun i hi => by
    obtain ⟨q, hq, rfl⟩ := List.mem_map.mp hi
    exact h.di _ (List.mem_map_of_mem (List.mem_filter.mp hq).1)
  exact ⟨(Xph ..).trans h.k, (XoP ..).trans h.x, (Xnn ..).trans h.ow, (Xnd ..).trans h.cn, Xka v ((Xjj ..).trans h.vals), XfW v ((XnU ..).trans h.dn),
    fun c => (Xm7 t r c).trans (Xh5 (k' := .send c) nd hm hq hh (fun _ => XeV) (h.sd c)), fun c => (XnP t r c).trans (Xh5 (k' := .take c) nd hm hq hh (fun _ => Xfw) (h.rc c)),
    (XmX t r).trans (Xh5 (k' := .lock) nd hm hq hh (fun _ => XfL) h.mw), (Xnm t r).trans (Xh5 (k' := .wait) nd hm hq hh (fun _ => Xe6) h.gw), hst _ (Xm3 ..), hdi⟩
end
end
section
set_option genInjectivity false in
inductive Mo where
  | no | pan
  | go (t : Ld)
noncomputable def mvL (rm : Bool → Int) (t : Ld) (c : Bool) : Mo :=
  match t.sd c, t.rc c, t.k c with
  | p :: _, T, K => if t.x c then .pan else match T, K with
    | g :: _, v :: K => .go ((({ t with k := ubd t.k c K } : Ld).pop (.take c)).gor g (some (some v, true)))
    | g :: _, [] => .go ((((t.pop (.send c p.2)).gor p.1 none).pop (.take c)).gor g (some (some p.2, true)))
    | [], K => if (K.length : Int) < rm c then .go ((({ t with k := ubd t.k c (K ++ [p.2]) } : Ld).pop (.send c p.2)).gor p.1 none) else .no
  | [], g :: _, v :: K => .go ((({ t with k := ubd t.k c K } : Ld).pop (.take c)).gor g (some (some v, true)))
  | [], g :: _, [] => if t.x c then .go ((t.pop (.take c)).gor g (some (none, false))) else .no
  | [], [], _ => .no
noncomputable def gtL (t : Ld) : Mo :=
  match t.mw, t.ow with
  | g :: _, none => .go ((({ t with ow := some g } : Ld).pop .lock).gor g none)
  | _, _ => match t.gw with
    | g :: _ => if t.cn = 0 then .go ((t.pop .wait).gor g none) else .no
    | [] => .no
noncomputable def lpL (rm : Bool → Int) : Nat → Ld → Option Ld
  | 0, _ => none
  | f + 1, t => match mvL rm t false with
    | .pan => none
    | .go t' => lpL rm f t'
    | .no => match mvL rm t true with
      | .pan => none
      | .go t' => lpL rm f t'
      | .no => match gtL t with
        | .pan => none
        | .go t' => lpL rm f t'
        | .no => some t
theorem XgG {rm : Bool → Int} {f : Nat} {t : Ld} : lpL rm (f + 1) t = match mvL rm t false with
    | .pan => none
    | .go t' => lpL rm f t'
    | .no => match mvL rm t true with
      | .pan => none
      | .go t' => lpL rm f t'
      | .no => match gtL t with
        | .pan => none
        | .go t' => lpL rm f t'
        | .no => some t := rfl
section
variable {s : Ps} {en : List Nat} {t : Ld} {rm : Bool → Int} {n : Nat} {L : Nat → Nat}
theorem Vw.setK (h : Vw s en t) (c : Bool) (l : List Int) : Vw { s with k := ubd s.k c l } en { t with k := ubd t.k c l } :=
  ⟨by rw [h.k], h.x, h.ow, h.cn, h.vals, h.dn, h.sd, h.rc, h.mw, h.gw, h.st, h.di⟩
noncomputable def Mok (en : List Nat) (s : Ps) (p : Bool × Ps) : Mo → Prop
  | .no => p = (false, s)
  | .pan => p.1 = false ∧ p.2.pn = true
  | .go t' => p.1 = true ∧ p.2.pn = s.pn ∧ Vw p.2 en t'
theorem Xpb (h : Vw s en t) (w : s.W rm n L) (c : Bool) : Mok en s (s.mv rm c) (mvL rm t c) := by
  unfold mvL Ps.mv
  have hk : t.k c = s.k c := by rw [h.k]
  have hx : t.x c = s.x c := by rw [h.x]
  rw [hk, hx]
  rcases hs : t.sd c with _ | ⟨p, r⟩
  · rw [h.qs0 hs]
    rcases ht : t.rc c with _ | ⟨g, l⟩
    · rw [h.qt0 ht]; rfl
    · have q := h.qt1 ht
      rw [q]
      rcases hK : s.k c with _ | ⟨v, K⟩
      · simp only
        split
        · have := h.go w q (some (none, false))
          exact ⟨rfl, rfl, this⟩
        · rfl
      · have w' := w.setK (c := c) (l := K) (by have := w.kl c; rw [hK] at this; simp at this; lia)
        have := (h.setK c K).go w' (k := .take c) (r := (g, .take c)) q (some (some v, true))
        exact ⟨rfl, rfl, this⟩
  · have qs := h.qs1 hs
    rw [qs]
    simp only
    split
    · exact ⟨rfl, rfl⟩
    · rcases ht : t.rc c with _ | ⟨g, l⟩
      · rw [h.qt0 ht]
        simp only
        split
        · have w' := w.setK (c := c) (l := s.k c ++ [p.2]) (by simp; lia)
          have := (h.setK c (s.k c ++ [p.2])).go w' (k := .send c) (r := (p.1, .send c p.2)) qs none
          exact ⟨rfl, rfl, this⟩
        · rfl
      · have q := h.qt1 ht
        rw [q]
        rcases hK : s.k c with _ | ⟨v, K⟩
        · have h1 := h.go w qs none
          have w1 := w.go (v := none) (VR qs)
          have q1 : (s.go p.1 none).q (.take c) = some (g, .take c) := h1.qt1 (c := c) (g := g) (l := l) (by rw [← ht]; rfl)
          have := h1.go w1 q1 (some (some p.2, true))
          exact ⟨rfl, rfl, this⟩
        · have w' := w.setK (c := c) (l := K) (by have := w.kl c; rw [hK] at this; simp at this; lia)
          have := (h.setK c K).go w' (k := .take c) (r := (g, .take c)) q (some (some v, true))
          exact ⟨rfl, rfl, this⟩
theorem Xcg {g : Nat} {r : List Nat} (hm : t.mw = g :: r) (ho : t.ow = none) : gtL t = .go ((({ t with ow := some g } : Ld).pop .lock).gor g none) := by unfold gtL; rw [hm, ho]
theorem Xf2 (h1 : t.mw = [] ∨ t.ow ≠ none) : gtL t = match t.gw with | g :: _ => if t.cn = 0 then Mo.go ((t.pop .wait).gor g none) else .no | [] => .no := by
  unfold gtL
  rcases h1 with h1 | h1
  · cases ho : t.ow <;> simp [h1]
  · obtain ⟨o, ho⟩ := Option.ne_none_iff_exists'.mp h1
    cases hm : t.mw <;> simp [ho]
theorem Xcr {g : Nat} {r : List Nat} (h1 : t.mw = [] ∨ t.ow ≠ none) (hg : t.gw = g :: r) (hc : t.cn = 0) : gtL t = .go ((t.pop .wait).gor g none) := by
  rw [Xf2 h1, hg]
  exact if_pos hc
theorem WJ (h1 : t.mw = [] ∨ t.ow ≠ none) (h2 : t.gw = [] ∨ t.cn ≠ 0) : gtL t = .no := by
  rw [Xf2 h1]
  rcases h2 with h2 | h2
  · rw [h2]
  · split
    · rw [if_neg h2]
    · rfl
theorem Xb5 (h : gtL t = .no) : (t.mw = [] ∨ t.ow ≠ none) ∧ (t.gw = [] ∨ t.cn ≠ 0) := by
  have h1 : t.mw = [] ∨ t.ow ≠ none := by
    by_cases e : t.mw = []
    · exact .inl e
    · obtain ⟨g, r, hm⟩ := List.exists_cons_of_ne_nil e
      refine .inr fun ho => ?_
      rw [Xcg hm ho] at h
      cases h
  refine ⟨h1, ?_⟩
  by_cases e : t.gw = []
  · exact .inl e
  · obtain ⟨g, r, hg⟩ := List.exists_cons_of_ne_nil e
    refine .inr fun hc => ?_
    rw [Xcr h1 hg hc] at h
    cases h
theorem XlH {s : Ps} {l : Row} (h : s.q .lock = some l) (ho : s.ow = none) : s.gt = (true, ({ s with ow := some l.1 } : Ps).go l.1 none) := by unfold Ps.gt; rw [h, ho]
theorem XkZ {s : Ps} (h : s.q .lock = none ∨ s.ow ≠ none) : s.gt = (match s.q .wait with | some w => if s.cn = 0 then (true, s.go w.1 none) else (false, s) | none => (false, s)) := by
  unfold Ps.gt
  rcases h with h | h
  · rw [h]; try (cases s.ow <;> rfl)
  · obtain ⟨o, ho⟩ := Option.ne_none_iff_exists'.mp h
    rw [ho]
    cases s.q .lock <;> rfl
theorem Xpr (h : Vw s en t) (w : s.W rm n L) : Mok en s s.gt (gtL t) := by
  have fin : (t.mw = [] ∨ t.ow ≠ none) → Mok en s s.gt (gtL t) := by
    intro h1
    have h1' : s.q .lock = none ∨ s.ow ≠ none := by
      rcases h1 with h1 | h1
      · exact .inl (h.ql0 h1)
      · exact .inr (h.ow ▸ h1)
    rw [XkZ h1']
    by_cases e : t.gw = []
    · rw [WJ h1 (.inl e), h.qw0 e]; rfl
    · obtain ⟨g, r, hg⟩ := List.exists_cons_of_ne_nil e
      have q := h.qw1 hg
      rw [q]
      by_cases hc : t.cn = 0
      · rw [Xcr h1 hg hc]
        simp only
        rw [if_pos (h.cn ▸ hc)]
        exact ⟨rfl, rfl, h.go w q none⟩
      · rw [WJ h1 (.inr hc)]
        simp only
        rw [if_neg (h.cn ▸ hc)]
        rfl
  by_cases e : t.mw = []
  · exact fin (.inl e)
  · obtain ⟨g, r, hm⟩ := List.exists_cons_of_ne_nil e
    by_cases ho : t.ow = none
    · have q := h.ql1 hm
      rw [Xcg hm ho, XlH q (h.ow ▸ ho)]
      have h' : Vw { s with ow := some g } en { t with ow := some g } := ⟨h.k, h.x, rfl, h.cn, h.vals, h.dn, h.sd, h.rc, h.mw, h.gw, h.st, h.di⟩
      have w' : ({ s with ow := some g } : Ps).W rm n L := w.congr rfl rfl rfl rfl
      have := h'.go w' (k := .lock) (r := (g, .lock)) q none
      exact ⟨rfl, rfl, this⟩
    · exact fin (.inr ho)
theorem XoO {c : Bool} (h : s.pn = true) : (s.mv rm c).2.pn = true := by
  unfold Ps.mv
  split <;> (try split) <;> (try split) <;> (try split) <;> first | exact h | rfl
theorem XhY (h : s.pn = true) : s.gt.2.pn = true := by
  unfold Ps.gt
  split <;> (try split) <;> (try split) <;> first | exact h | rfl
theorem XhZ : ∀ (f : Nat) {s : Ps}, s.pn = true → (s.lp rm f).pn = true
  | 0, _, h => h
  | f + 1, s, h => by rw [Xjf, if_pos h]; exact h
noncomputable def Still (rm : Bool → Int) (t : Ld) : Prop := mvL rm t false = .no ∧ mvL rm t true = .no ∧ gtL t = .no
theorem Xpn (f : Nat) : ∀ {s : Ps} {t : Ld}, Vw s en t → s.W rm n L → s.pn = false → s.ws.length < f →
    match lpL rm f t with
    | none => (s.lp rm f).pn = true
    | some t' => (s.lp rm f).pn = false ∧ Vw (s.lp rm f) en t' ∧ Still rm t' := by
  induction f with
  | zero =>
    intro s t h w hp hl
    lia
  | succ f ih =>
    intro s t h w hp hl
    rw [XgG, Xjf]
    rw [if_neg (by simp [hp])]
    have m1 := Xpb h w false
    have k1 := Xf0 w false
    rcases e1 : mvL rm t false with _ | _ | t1 <;> rw [e1] at m1
    · simp only [Mok] at m1
      rw [m1]
      simp only [Bool.false_eq_true, if_false]
      have m2 := Xpb h w true
      have k2 := Xf0 w true
      rcases e2 : mvL rm t true with _ | _ | t2 <;> rw [e2] at m2
      · simp only [Mok] at m2
        rw [m2]
        simp only [Bool.false_eq_true, if_false]
        have m3 := Xpr h w
        have k3 := Xl9 w
        rcases e3 : gtL t with _ | _ | t3 <;> rw [e3] at m3
        · simp only [Mok] at m3
          rw [m3]
          simp only [Bool.false_eq_true, if_false]
          exact ⟨hp, h, e1, e2, e3⟩
        · obtain ⟨a, b⟩ := m3
          simp only [a, Bool.false_eq_true, if_false]
          exact b
        · obtain ⟨a, b, c⟩ := m3
          simp only [a, if_true]
          exact ih c k3.1 (b.trans hp) (XcT (k3.2.2 a) hl)
      · obtain ⟨a, b⟩ := m2
        simp only [a, Bool.false_eq_true, if_false]
        split
        · exact XhZ f (XhY b)
        · exact XhY b
      · obtain ⟨a, b, c⟩ := m2
        simp only [a, if_true]
        exact ih c k2.1 (b.trans hp) (XcT (k2.2.2 a) hl)
    · obtain ⟨a, b⟩ := m1
      simp only [a, Bool.false_eq_true, if_false]
      have b2 := XoO (rm := rm) (c := true) b
      split
      · exact XhZ f b2
      · split
        · exact XhZ f (XhY b2)
        · exact XhY b2
    · obtain ⟨a, b, c⟩ := m1
      simp only [a, if_true]
      exact ih c k1.1 (b.trans hp) (XcT (k1.2.2 a) hl)
end
end
section
noncomputable def stL (t : Ld) (i : Nat) : Dd → Option Ld
  | .send c v => some { t with sd := ubd t.sd c (t.sd c ++ [(i, v)]), st := upd t.st i .blocked }
  | .take c => some { t with rc := ubd t.rc c (t.rc c ++ [i]), st := upd t.st i .blocked }
  | .lock => some { t with mw := t.mw ++ [i], st := upd t.st i .blocked }
  | .wait => some { t with gw := t.gw ++ [i], st := upd t.st i .blocked }
  | .close c => if t.x c then none else some (({ t with x := ubd t.x c true } : Ld).gor i none)
  | .unlock => if t.ow = none then none else some (({ t with ow := none } : Ld).gor i none)
  | .done => if t.cn - 1 < 0 then none else some (({ t with cn := t.cn - 1 } : Ld).gor i none)
section
variable {s : Ps} {en : List Nat} {t : Ld} {rm : Bool → Int} {n : Nat} {L : Nat → Nat} {i : Nat}
theorem XaW {ws : List Row} {i : Nat} {d : Dd} (hi : i ∉ ws.map Prod.fst) : (ws ++ [(i, d)]).filter (fun q => decide (q.1 ≠ i)) = ws := by
  rw [List.filter_append, List.filter_eq_self.mpr]
  · simp
  · intro p hp
    simp only [decide_eq_true_eq]
    intro e
    exact hi (e ▸ List.mem_map_of_mem hp)
theorem Xfh (h : Vw s en t) (hi : i ∉ s.ws.map Prod.fst) (hen : i ∉ en) : ∀ j, upd t.st i .ready j = if j ∈ s.ws.map Prod.fst then .blocked else if j ∈ en then .ended else .ready := fun j => by
  unfold upd
  split
  · rename_i e; subst e; rw [if_neg hi, if_neg hen]
  · exact h.st j
theorem Xfv (h : Vw s en t) {d : Dd} : ∀ j, upd t.st i .blocked j = if j ∈ (s.ws ++ [(i, d)]).map Prod.fst then .blocked else if j ∈ en then .ended else .ready := fun j => by
  unfold upd
  simp only [List.map_append, List.map_cons, List.map_nil, List.mem_append, List.mem_singleton]
  split
  · rename_i e; rw [if_pos (.inr e)]
  · rename_i e
    rw [h.st j]
    by_cases e2 : j ∈ s.ws.map Prod.fst
    · rw [if_pos e2, if_pos (.inl e2)]
    · rw [if_neg e2, if_neg (show ¬(j ∈ s.ws.map Prod.fst ∨ j = i) from fun x => Or.elim x e2 e)]
theorem XeU (h : Vw s en t) {d : Dd} (hen : i ∉ en) : ∀ j, j ∈ (s.ws ++ [(i, d)]).map Prod.fst → j ∉ en := fun j hj => by
  simp only [List.map_append, List.map_cons, List.map_nil, List.mem_append, List.mem_singleton] at hj
  rcases hj with hj | rfl
  · exact h.di j hj
  · exact hen
theorem Xkw {β : Type} {F : Row → Option β} {ws : List Row} {r : Row} : (ws ++ [r]).filterMap F = ws.filterMap F ++ (F r).toList := by
  rw [List.filterMap_append]
  cases h : F r <;> simp [h]
theorem Vj {β : Type} {F : Row → Option β} {ws : List Row} {r : Row} (h : F r = none) : (ws ++ [r]).filterMap F = ws.filterMap F := by
  rw [Xkw, h]; exact List.append_nil _
theorem Xfa {β : Type} {F : Row → Option β} {ws : List Row} {r : Row} {b : β} (h : F r = some b) : (ws ++ [r]).filterMap F = ws.filterMap F ++ [b] := by
  rw [Xkw, h]; rfl
theorem XmQ {β : Type} {G : Bool → Row → Option β} {f : Bool → List β} {ws : List Row} {r : Row} {c : Bool} {b : β} (hf : ∀ c, f c = ws.filterMap (G c)) (h1 : G c r = some b) (h2 : G (!c) r = none) (c' : Bool) :
    ubd f c (f c ++ [b]) c' = (ws ++ [r]).filterMap (G c') := by
  by_cases e : c' = c
  · subst e; rw [ubd_self, Xfa h1, hf]
  · have e2 : c' = !c := by cases c <;> cases c' <;> first | rfl | exact absurd rfl e
    rw [Xac e, hf, e2, Vj h2]
theorem Xpp (h : Vw s en t) (hp : s.pn = false) (d : Dd) (hi : i ∉ s.ws.map Prod.fst) (hen : i ∉ en) :
    match stL t i d with
    | none => (s.st i d).pn = true
    | some t' => (s.st i d).pn = false ∧ Vw (s.st i d) en t' := by
  cases d with
  | send c v =>
    refine ⟨hp, h.k, h.x, h.ow, h.cn, h.vals, h.dn, fun c' => ?_, fun c' => ?_, ?_, ?_, Xfv h, XeU h hen⟩
    · exact XmQ h.sd (by cases c <;> rfl) (by cases c <;> rfl) c'
    · exact (h.rc c').trans (Vj rfl).symm
    · exact h.mw.trans (Vj rfl).symm
    · exact h.gw.trans (Vj rfl).symm
  | take c =>
    refine ⟨hp, h.k, h.x, h.ow, h.cn, h.vals, h.dn, fun c' => ?_, fun c' => ?_, ?_, ?_, Xfv h, XeU h hen⟩
    · exact (h.sd c').trans (Vj rfl).symm
    · exact XmQ h.rc (by cases c <;> rfl) (by cases c <;> rfl) c'
    · exact h.mw.trans (Vj rfl).symm
    · exact h.gw.trans (Vj rfl).symm
  | lock =>
    refine ⟨hp, h.k, h.x, h.ow, h.cn, h.vals, h.dn, fun c' => ?_, fun c' => ?_, ?_, ?_, Xfv h, XeU h hen⟩
    · exact (h.sd c').trans (Vj rfl).symm
    · exact (h.rc c').trans (Vj rfl).symm
    · exact (congrArg (· ++ [i]) h.mw).trans (Xfa (F := lkF) (r := (i, .lock)) rfl).symm
    · exact h.gw.trans (Vj rfl).symm
  | wait =>
    refine ⟨hp, h.k, h.x, h.ow, h.cn, h.vals, h.dn, fun c' => ?_, fun c' => ?_, ?_, ?_, Xfv h, XeU h hen⟩
    · exact (h.sd c').trans (Vj rfl).symm
    · exact (h.rc c').trans (Vj rfl).symm
    · exact h.mw.trans (Vj rfl).symm
    · exact (congrArg (· ++ [i]) h.gw).trans (Xfa (F := wtF) (r := (i, .wait)) rfl).symm
  | close c =>
    have hb := XaW (d := .close c) hi
    have hw : (s.st i (.close c)).ws = s.ws := hb
    by_cases hx : t.x c = true
    · have e : stL t i (.close c) = none := if_pos hx
      rw [e]
      rw [h.x] at hx; exact hx
    · have e : stL t i (.close c) = _ := if_neg hx
      rw [e]
      rw [h.x] at hx
      refine ⟨by simpa [Ps.st, Ps.go] using hx, h.k, congrArg (fun f => ubd f c true) h.x, h.ow, h.cn, h.vals, XfW (s := s) none h.dn, fun c' => ?_, fun c' => ?_, ?_, ?_, ?_, ?_⟩
      · exact (h.sd c').trans (congrArg (List.filterMap (sdF c')) hw.symm)
      · exact (h.rc c').trans (congrArg (List.filterMap (rcF c')) hw.symm)
      · exact h.mw.trans (congrArg (List.filterMap lkF) hw.symm)
      · exact h.gw.trans (congrArg (List.filterMap wtF) hw.symm)
      · have sb := Xfh h hi hen
        rw [hw]; exact sb
      · rw [hw]; exact h.di
  | unlock =>
    have hb := XaW (d := .unlock) hi
    have hw : (s.st i .unlock).ws = s.ws := hb
    by_cases hx : t.ow = none
    · have e : stL t i .unlock = none := if_pos hx
      rw [e]
      rw [h.ow] at hx; simp [Ps.st, Ps.go, hx]
    · have e : stL t i .unlock = _ := if_neg hx
      rw [e]
      rw [h.ow] at hx
      refine ⟨by simp only [Ps.st, Ps.go]; cases e2 : s.ow with | none => exact absurd e2 hx | some o => rfl, h.k, h.x, rfl, h.cn, h.vals, XfW (s := s) none h.dn, fun c' => ?_, fun c' => ?_, ?_, ?_, ?_, ?_⟩
      · exact (h.sd c').trans (congrArg (List.filterMap (sdF c')) hw.symm)
      · exact (h.rc c').trans (congrArg (List.filterMap (rcF c')) hw.symm)
      · exact h.mw.trans (congrArg (List.filterMap lkF) hw.symm)
      · exact h.gw.trans (congrArg (List.filterMap wtF) hw.symm)
      · have sb := Xfh h hi hen
        rw [hw]; exact sb
      · rw [hw]; exact h.di
  | done =>
    have hb := XaW (d := .done) hi
    have hw : (s.st i .done).ws = s.ws := hb
    by_cases hx : t.cn - 1 < 0
    · have e : stL t i .done = none := if_pos hx
      rw [e]
      rw [h.cn] at hx; simp [Ps.st, Ps.go, hx]
    · have e : stL t i .done = _ := if_neg hx
      rw [e]
      rw [h.cn] at hx
      refine ⟨by simpa [Ps.st, Ps.go] using hx, h.k, h.x, h.ow, congrArg (· - 1) h.cn, h.vals, XfW (s := s) none h.dn, fun c' => ?_, fun c' => ?_, ?_, ?_, ?_, ?_⟩
      · exact (h.sd c').trans (congrArg (List.filterMap (sdF c')) hw.symm)
      · exact (h.rc c').trans (congrArg (List.filterMap (rcF c')) hw.symm)
      · exact h.mw.trans (congrArg (List.filterMap lkF) hw.symm)
      · exact h.gw.trans (congrArg (List.filterMap wtF) hw.symm)
      · have sb := Xfh h hi hen
        rw [hw]; exact sb
      · rw [hw]; exact h.di
noncomputable def XaK (rm : Bool → Int) (t : Ld) (i : Nat) (d : Dd) : Option Ld := match stL t i d with
  | none => none
  | some t' => lpL rm 10 t'
theorem XoV (h : Vw s en t) (w : s.W rm n L) (hp : s.pn = false) (d : Dd) (hi : i ∉ s.ws.map Prod.fst) (hen : i ∉ en) (hn : i < n) (hd : s.dn i < L i) :
    match XaK rm t i d with
    | none => (s.put rm i d).pn = true
    | some t' => (s.put rm i d).pn = false ∧ Vw (s.put rm i d) en t' ∧ Still rm t' := by
  have h1 := Xpp h hp d hi hen
  have w1 := Xmi w (d := d) hi hn hd
  unfold XaK Ps.put
  cases e : stL t i d with
  | none =>
    rw [e] at h1
    exact XhZ 10 h1
  | some t' =>
    rw [e] at h1
    exact Xpn 10 h1.2 w1 h1.1 (by have := w1.wl; lia)
end
end
section
section
variable {t t' : Ld} {rm : Bool → Int} {n i f : Nat} {c : Bool} {p : Nat × Int} {r : List (Nat × Int)} {g : Nat} {l : List Nat} {v : Int} {K : List Int}
theorem XhB (h1 : t.sd c = p :: r) (h2 : t.x c = true) : mvL rm t c = .pan := by unfold mvL; simp [h1, h2]
theorem XkO (h1 : t.sd c = p :: r) (h2 : t.x c = false) (h3 : t.rc c = g :: l) (h4 : t.k c = []) : mvL rm t c = .go ((((t.pop (.send c p.2)).gor p.1 none).pop (.take c)).gor g (some (some p.2, true))) := by unfold mvL; simp [h1, h2, h3, h4]
theorem XjS (h1 : t.sd c = p :: r) (h2 : t.x c = false) (h3 : t.rc c = g :: l) (h4 : t.k c = v :: K) : mvL rm t c = .go ((({ t with k := ubd t.k c K } : Ld).pop (.take c)).gor g (some (some v, true))) := by unfold mvL; simp [h1, h2, h3, h4]
theorem Xkq (h1 : t.sd c = p :: r) (h2 : t.x c = false) (h3 : t.rc c = []) (h4 : ((t.k c).length : Int) < rm c) : mvL rm t c = .go ((({ t with k := ubd t.k c (t.k c ++ [p.2]) } : Ld).pop (.send c p.2)).gor p.1 none) := by unfold mvL; simp [h1, h2, h3, h4]
theorem XmM (h1 : t.sd c = []) (h3 : t.rc c = g :: l) (h4 : t.k c = v :: K) : mvL rm t c = .go ((({ t with k := ubd t.k c K } : Ld).pop (.take c)).gor g (some (some v, true))) := by unfold mvL; simp [h1, h3, h4]
theorem XjB (h1 : t.sd c = []) (h3 : t.rc c = g :: l) (h4 : t.k c = []) (h2 : t.x c = true) : mvL rm t c = .go ((t.pop (.take c)).gor g (some (none, false))) := by unfold mvL; simp [h1, h2, h3, h4]
theorem mvL_no (h1 : t.sd c ≠ [] → t.x c = false ∧ t.rc c = [] ∧ ¬ ((t.k c).length : Int) < rm c) (h2 : t.sd c = [] → t.rc c ≠ [] → t.k c = [] ∧ t.x c = false) : mvL rm t c = .no := by
  unfold mvL
  rcases hs : t.sd c with _ | ⟨p, r⟩
  · rcases ht : t.rc c with _ | ⟨g, l⟩
    · rfl
    · obtain ⟨a, b⟩ := h2 hs (by rw [ht]; simp)
      simp [a, b]
  · obtain ⟨a, b, d⟩ := h1 (by rw [hs]; simp)
    simp [a, b]; omega
theorem Xdi (h : mvL rm t c = .no) (hs : t.sd c ≠ []) : t.x c = false ∧ t.rc c = [] ∧ ¬ ((t.k c).length : Int) < rm c := by
  obtain ⟨p, r, hs⟩ := List.exists_cons_of_ne_nil hs
  have hx : t.x c = false := by
    cases hx : t.x c with
    | false => rfl
    | true => rw [XhB hs hx] at h; cases h
  have hr : t.rc c = [] := by
    cases hr : t.rc c with
    | nil => rfl
    | cons g l =>
      cases hk : t.k c with
      | nil => rw [XkO hs hx hr hk] at h; cases h
      | cons v K => rw [XjS hs hx hr hk] at h; cases h
  refine ⟨hx, hr, fun hl => ?_⟩
  rw [Xkq hs hx hr hl] at h; cases h
theorem Xdt (h : mvL rm t c = .no) (hs : t.sd c = []) (hr : t.rc c ≠ []) : t.k c = [] ∧ t.x c = false := by
  obtain ⟨g, l, hr⟩ := List.exists_cons_of_ne_nil hr
  have hk : t.k c = [] := by
    cases hk : t.k c with
    | nil => rfl
    | cons v K => rw [XmM hs hr hk] at h; cases h
  refine ⟨hk, ?_⟩
  cases hx : t.x c with
  | false => rfl
  | true => rw [XjB hs hr hk hx] at h; cases h
theorem YV (h : mvL rm t c = .no) (h1 : t'.sd c = t.sd c) (h2 : t'.rc c = t.rc c) (h3 : t'.k c = t.k c) (h4 : t'.x c = t.x c) : mvL rm t' c = .no :=
  mvL_no (by rw [h1, h2, h3, h4]; exact Xdi h) (by rw [h1, h2, h3, h4]; exact Xdt h)
theorem Va (h : gtL t = .no) (h1 : t'.mw = t.mw) (h2 : t'.ow = t.ow) (h3 : t'.gw = t.gw) (h4 : t'.cn = t.cn) : gtL t' = .no := by
  obtain ⟨a, b⟩ := Xb5 h
  exact WJ (by rw [h1, h2]; exact a) (by rw [h3, h4]; exact b)
theorem Xc2 (c : Bool) (h1 : mvL rm t (!c) = .no) (h2 : mvL rm t c = .go t') : lpL rm (f + 1) t = lpL rm f t' := by
  rw [XgG]
  cases c
  · rw [h2]
  · rw [Bool.not_true] at h1
    rw [h1, h2]
theorem XkA (c : Bool) (h1 : mvL rm t (!c) = .no) (h2 : mvL rm t c = .pan) : lpL rm (f + 1) t = none := by
  rw [XgG]
  cases c
  · rw [h2]
  · rw [Bool.not_true] at h1
    rw [h1, h2]
theorem Ut (h1 : ∀ c, mvL rm t c = .no) (h3 : gtL t = .no) : lpL rm (f + 1) t = some t := by
  rw [XgG]
  rw [h1 false, h1 true, h3]
theorem Xiq (h1 : ∀ c, mvL rm t c = .no) (h3 : gtL t = .go t') : lpL rm (f + 1) t = lpL rm f t' := by
  rw [XgG]
  rw [h1 false, h1 true, h3]
section
variable {α β : Type} {f : Bool → α} {g : Nat → α} {a b : α} {F : Bool → List β} {x : β} {l : List β} {c : Bool} {i j : Nat}
theorem nc (c : Bool) : (!c) ≠ c := by cases c <;> decide
theorem ubd_n : ubd f c a (!c) = f (!c) := Xac (nc c)
theorem XcK : ubd (ubd f c a) c b (!c) = f (!c) := ubd_n.trans ubd_n
theorem XlL (h : f c = a) : f = ubd f c a := funext fun y => by
  unfold ubd
  split
  · rename_i e; rw [e, h]
  · rfl
theorem ubd2 : ubd (ubd f c a) c b = ubd f c b := funext fun y => by
  unfold ubd
  split <;> rfl
theorem Xjd (h : f c = b) : f = ubd (ubd f c a) c b := (XlL h).trans ubd2.symm
theorem Wn (h : g i = b) : g = upd (upd g i a) i b := funext fun y => by
  unfold upd
  split
  · rename_i e; rw [e, h]
  · rfl
theorem Xib (h : g i = b) : g = upd g i b := funext fun y => by
  unfold upd
  split
  · rename_i e; rw [e, h]
  · rfl
theorem Xgs (h : i ≠ j) : upd (upd g i a) j b = upd (upd g j b) i a := funext fun y => by
  unfold upd
  by_cases e1 : y = j
  · subst e1; rw [if_pos rfl, if_neg (Ne.symm h), if_pos rfl]
  · rw [if_neg e1, if_neg e1]
theorem Xhl (h : F c = x :: l) : ubd F c l = ubd F c (F c).tail := by rw [h]; rfl
theorem Xjv (h : F c = []) : (ubd F c (F c ++ [x]) c).tail = [] := by rw [ubd_self, h]; rfl
theorem Xbk (h : F c = []) : F = ubd (ubd F c (F c ++ [x])) c (ubd F c (F c ++ [x]) c).tail := Xjd (h.trans (Xjv h).symm)
theorem XbR (h : F c = []) : ubd F c (F c ++ [x]) c = [x] := by rw [ubd_self, h]; rfl
theorem Xd0 (h : F c = []) : ubd (ubd F c (F c ++ [x])) c (ubd F c (F c ++ [x]) c).tail c = [] := ubd_self.trans (Xjv h)
theorem XbX {k : Nat} (h : k < 50) : k < 100 := Nat.lt_trans h (by decide)
end
theorem Xe4 (c : Bool) {P : Bool → Prop} (h1 : P (!c)) (h2 : P c) : ∀ c', P c' := fun c' => by
  cases c <;> cases c' <;> first | exact h1 | exact h2
structure EqL (a b : Ld) : Prop where
  k : a.k = b.k
  x : a.x = b.x
  ow : a.ow = b.ow
  cn : a.cn = b.cn
  vals : a.vals = b.vals
  dn : a.dn = b.dn
  sd : a.sd = b.sd
  rc : a.rc = b.rc
  mw : a.mw = b.mw
  gw : a.gw = b.gw
  st : a.st = b.st
structure Qt (t : Ld) (n i : Nat) (rm : Bool → Int) : Prop where
  ist : t.st i = .ready
  sd : ∀ c, ∀ p ∈ t.sd c, p.1 < n ∧ t.st p.1 = .blocked
  rc : ∀ c, ∀ g ∈ t.rc c, g < n ∧ t.st g = .blocked
  mw : ∀ g ∈ t.mw, g < n ∧ t.st g = .blocked
  gw : ∀ g ∈ t.gw, g < n ∧ t.st g = .blocked
  vals : ∀ j, (t.vals j).length < 50
  rcn : ∀ c, (t.rc c).Nodup
  gwn : t.gw.Nodup
  rcl : ∀ c, (t.rc c).length < 9
  gwl : t.gw.length < 9
  kl : ∀ c, ((t.k c).length : Int) ≤ rm c
noncomputable def XbG (rm : Bool → Int) (t : Ld) (n i : Nat) (d : Dd) : Prop :=
  ∀ X, ({ (t.rows rm i d).2 with tmp := X } : Ld).fit n i (t.rows rm i d).1 ∧
    match XaK rm t i d with
    | none => ({ (t.rows rm i d).2 with tmp := X } : Ld).aps i (t.rows rm i d).1 = none
    | some t' => ∃ t2, ({ (t.rows rm i d).2 with tmp := X } : Ld).aps i (t.rows rm i d).1 = some t2 ∧ EqL t2 t'
theorem Zj {rows : List LRow} {u T : Ld} {d : Dd} (e1 : t.rows rm i d = (rows, u)) (e2 : XaK rm t i d = some T) (h1 : ∀ X, ({ u with tmp := X } : Ld).fit n i rows) (h2 : ∀ X, ∃ t2, ({ u with tmp := X } : Ld).aps i rows = some t2 ∧ EqL t2 T) : XbG rm t n i d := fun X => by
  rw [e1, e2]
  exact ⟨h1 X, h2 X⟩
theorem WP {rows : List LRow} {u : Ld} {d : Dd} (e1 : t.rows rm i d = (rows, u)) (e2 : XaK rm t i d = none) (h1 : ∀ X, ({ u with tmp := X } : Ld).fit n i rows) (h2 : ∀ X, ({ u with tmp := X } : Ld).aps i rows = none) : XbG rm t n i d := fun X => by
  rw [e1, e2]
  exact ⟨h1 X, h2 X⟩
theorem Xkz (q : Qt t n i rm) (s : Still rm t) (c : Bool) (v : Int) : XbG rm t n i (.send c v) := by
  obtain ⟨s0, s1, s2⟩ := s
  have sc : ∀ c, mvL rm t c = .no := fun c => by cases c; exact s0; exact s1
  have hn : mvL rm { t with sd := ubd t.sd c (t.sd c ++ [(i, v)]), st := upd t.st i .blocked } (!c) = .no := YV (sc _) ubd_n rfl rfl rfl
  have hg : gtL { t with sd := ubd t.sd c (t.sd c ++ [(i, v)]), st := upd t.st i .blocked } = .no := Va s2 rfl rfl rfl rfl
  have ep : XaK rm t i (.send c v) = lpL rm 10 { t with sd := ubd t.sd c (t.sd c ++ [(i, v)]), st := upd t.st i .blocked } := rfl
  have n1 := Xdi (sc c)
  have n2 := Xdt (sc c)
  cases hx : t.x c with
  | true =>
    have hs : t.sd c = [] := by
      cases hs : t.sd c with
      | nil => rfl
      | cons a b => have := (n1 (by rw [hs]; simp)).1; rw [hx] at this; cases this
    refine WP (rows := [.panic 19]) (u := t) (by simp [Ld.rows, Ld.offer, hx]) ?_ (fun X => ⟨trivial, fun t' e => by cases e⟩) (fun X => rfl)
    rw [ep]
    exact XkA c hn (XhB (p := (i, v)) (r := []) (XbR hs) hx)
  | false =>
    cases hr : t.rc c with
    | cons g l =>
      have hs : t.sd c = [] := by
        cases hs : t.sd c with
        | nil => rfl
        | cons a b => have := (n1 (by rw [hs]; simp)).2.1; rw [hr] at this; cases this
      have hk := (n2 hs (by rw [hr]; simp)).1
      have qg := q.rc c g (by rw [hr]; simp)
      refine Zj (rows := [.done none, .woken g (.recv (some v, true))]) (u := { t with rc := ubd t.rc c l }) (by simp [Ld.rows, Ld.offer, hx, hr]) (ep.trans ((Xc2 c hn (XkO (p := (i, v)) (r := []) (g := g) (l := l) (XbR hs) hx hr hk)).trans (Ut (Xe4 c (YV (sc _) ?_ ?_ rfl rfl) (mvL_no ?_ ?_)) (Va s2 rfl rfl rfl rfl)))) (fun X => ⟨?_, fun t' e => ?_⟩) (fun X => ⟨_, rfl, ?_⟩)
      · exact XcK
      · exact ubd_n
      · exact fun h => absurd (Xd0 hs) h
      · exact fun _ _ => ⟨hk, hx⟩
      · exact XbX (q.vals i)
      · cases e
        exact ⟨⟨qg.1, qg.2, XbX (q.vals g)⟩, fun _ _ => trivial⟩
      · exact ⟨rfl, rfl, rfl, rfl, rfl, rfl, Xbk hs, Xhl hr, rfl, rfl, congrArg (fun s => upd s g Gs.ready) (Wn q.ist)⟩
    | nil =>
      by_cases hl : ((t.k c).length : Int) < rm c
      · have hs : t.sd c = [] := by
          cases hs : t.sd c with
          | nil => rfl
          | cons a b => exact absurd hl (n1 (by rw [hs]; simp)).2.2
        refine Zj (rows := [.done none]) (u := { t with k := ubd t.k c (t.k c ++ [v]) }) (by simp [Ld.rows, Ld.offer, hx, hr, hl]) (ep.trans ((Xc2 c hn (Xkq (p := (i, v)) (r := []) (XbR hs) hx hr hl)).trans (Ut (Xe4 c (YV (sc _) ?_ ?_ ?_ rfl) (mvL_no ?_ ?_)) (Va s2 rfl rfl rfl rfl)))) (fun X => ⟨?_, fun t' e => trivial⟩) (fun X => ⟨_, rfl, ?_⟩)
        · exact XcK
        · rfl
        · exact ubd_n
        · exact fun h => absurd (Xd0 hs) h
        · exact fun _ h => absurd hr h
        · exact XbX (q.vals i)
        · exact ⟨rfl, rfl, rfl, rfl, rfl, rfl, Xbk hs, rfl, rfl, rfl, Wn q.ist⟩
      · refine Zj (rows := [.blocked]) (u := { t with sd := ubd t.sd c (t.sd c ++ [(i, v)]) }) (by simp [Ld.rows, Ld.offer, hx, hr, hl]) (ep.trans (Ut (Xe4 c hn (mvL_no (fun _ => ⟨hx, hr, hl⟩) (fun h => ?_))) hg)) (fun X => ⟨q.ist, fun t' e => trivial⟩) (fun X => ⟨_, rfl, ⟨rfl, rfl, rfl, rfl, rfl, rfl, rfl, rfl, rfl, rfl, rfl⟩⟩)
        exact absurd (ubd_self.symm.trans h) (by simp)
end
end
section
section
variable {t t' : Ld} {rm : Bool → Int} {n i f : Nat}
theorem vlt {i j : Nat} {w : List Vl} {vals : Nat → List Vl} (h : i ≠ j) (hv : (vals j).length < 50) : (upd vals i w j).length < 100 := by
  rw [Xa3 (Ne.symm h)]; exact XbX hv
theorem st2 {i j : Nat} {st : Nat → Gs} (h : st i = .ready) (hne : i ≠ j) : upd st j .ready = upd (upd (upd st i .blocked) j .ready) i .ready := (Wn ((Xa3 hne).trans h)).trans (congrArg (fun s => upd s i Gs.ready) (Xgs hne).symm)
theorem dn2 {i j : Nat} {g : Nat → Nat} (h : i ≠ j) : upd (upd g i (g i + 1)) j (upd g i (g i + 1) j + 1) = upd (upd g j (g j + 1)) i (upd g j (g j + 1) i + 1) := by rw [Xa3 (Ne.symm h), Xa3 h, Xgs h]
theorem kk2 {F : Bool → List Int} {c : Bool} {K : List Int} {x : Int} : ubd F c (K ++ [x]) = ubd (ubd F c K) c (ubd F c K c ++ [x]) := by rw [ubd_self, ubd2]
theorem XjH {l : List Nat} (h : l = []) : l = (l ++ [i]).tail := by rw [h]; rfl
theorem Xj0 (q : Qt t n i rm) (s : Still rm t) (c : Bool) : XbG rm t n i (.take c) := by
  obtain ⟨s0, s1, s2⟩ := s
  have sc : ∀ c, mvL rm t c = .no := fun c => by cases c; exact s0; exact s1
  have hn : mvL rm { t with rc := ubd t.rc c (t.rc c ++ [i]), st := upd t.st i .blocked } (!c) = .no := YV (sc _) rfl ubd_n rfl rfl
  have hg : gtL { t with rc := ubd t.rc c (t.rc c ++ [i]), st := upd t.st i .blocked } = .no := Va s2 rfl rfl rfl rfl
  have ep : XaK rm t i (.take c) = lpL rm 10 { t with rc := ubd t.rc c (t.rc c ++ [i]), st := upd t.st i .blocked } := rfl
  have n1 := Xdi (sc c)
  have n2 := Xdt (sc c)
  have vi := XbX (q.vals i)
  cases hk : t.k c with
  | cons v K =>
    have hr : t.rc c = [] := by
      cases hr : t.rc c with
      | nil => rfl
      | cons a b =>
        cases hs : t.sd c with
        | nil => have := (n2 hs (by rw [hr]; simp)).1; rw [hk] at this; cases this
        | cons a b => have := (n1 (by rw [hs]; simp)).2.1; rw [hr] at this; cases this
    cases hs : t.sd c with
    | nil =>
      refine Zj (rows := [.done (some (some v, true))]) (u := { t with k := ubd t.k c K }) (by simp [Ld.rows, Ld.take, hk, hs]) (ep.trans ((Xc2 c hn (XmM (g := i) (l := []) (v := v) (K := K) hs (XbR hr) hk)).trans (Ut (Xe4 c (YV (sc _) ?_ ?_ ?_ rfl) (mvL_no ?_ ?_)) (Va s2 rfl rfl rfl rfl)))) (fun X => ⟨vi, fun t' e => trivial⟩) (fun X => ⟨_, rfl, ?_⟩)
      · rfl
      · exact XcK
      · exact ubd_n
      · exact fun h => absurd hs h
      · exact fun _ h => absurd (Xd0 hr) h
      · exact ⟨rfl, rfl, rfl, rfl, rfl, rfl, rfl, Xbk hr, rfl, rfl, Wn q.ist⟩
    | cons p r =>
      obtain ⟨hx, _, hl⟩ := n1 (by rw [hs]; simp)
      have hl2 : ((v :: K).length : Int) ≤ rm c := hk ▸ q.kl c
      rw [hk] at hl
      have qp := q.sd c p (by rw [hs]; simp)
      have vp : (t.vals p.1).length < 50 := q.vals p.1
      have hne : i ≠ p.1 := fun e => by have := q.ist; rw [e, qp.2] at this; cases this
      have e1 := Xc2 (f := 9) c hn (XjS (g := i) (l := []) (v := v) (K := K) hs hx (XbR hr) hk)
      rw [← ep] at e1
      generalize hT1 : (({ ({ t with rc := ubd t.rc c (t.rc c ++ [i]), st := upd t.st i .blocked } : Ld) with k := ubd t.k c K } : Ld).pop (.take c)).gor i (some (some v, true)) = T1 at e1
      have f1 : T1.sd = t.sd ∧ T1.rc (!c) = t.rc (!c) ∧ T1.k (!c) = t.k (!c) ∧ T1.x = t.x ∧ T1.rc c = [] ∧ T1.k c = K ∧ T1.mw = t.mw ∧ T1.ow = t.ow ∧ T1.gw = t.gw ∧ T1.cn = t.cn := by
        rw [← hT1]; exact ⟨rfl, XcK, ubd_n, rfl, Xd0 hr, ubd_self, rfl, rfl, rfl, rfl⟩
      refine @cps _ fun Γ γ => ?_
      obtain ⟨a1, a2, a3, a4, a5, a6, a7, a8, a9, a10⟩ := f1
      refine γ ?_; clear γ Γ
      have e2 := Xc2 (f := 8) c (YV (t' := T1) (sc (!c)) (by rw [a1]) a2 a3 (by rw [a4])) (Xkq (p := p) (r := r) (by rw [a1]; exact hs) (by rw [a4]; exact hx) a5 (by rw [a6]; simp at hl2 ⊢; omega))
      rw [e2] at e1
      generalize hT2 : (({ T1 with k := ubd T1.k c (T1.k c ++ [p.2]) } : Ld).pop (.send c p.2)).gor p.1 none = T2 at e1
      have e3 : lpL rm 8 T2 = some T2 := by
        rw [← hT2]
        refine Ut (Xe4 c (YV (sc (!c)) ?_ ?_ ?_ ?_) (mvL_no (fun _ => ⟨?_, ?_, ?_⟩) ?_)) (Va s2 a7 a8 a9 a10)
        · exact ubd_n.trans (by rw [a1])
        · exact a2
        · exact ubd_n.trans a3
        · rw [← a4]; rfl
        · rw [← hx, ← a4]; rfl
        · exact a5
        · have e5 : (ubd T1.k c (T1.k c ++ [p.2]) c) = K ++ [p.2] := by rw [ubd_self, a6]
          show ¬ ((ubd T1.k c (T1.k c ++ [p.2]) c).length : Int) < rm c
          rw [e5, List.length_append]; simp only [List.length_cons, List.length_nil] at hl ⊢; omega
        · intro _ h; exact absurd a5 h
      refine Zj (rows := [.done (some (some v, true)), .woken p.1 .sent]) (u := { t with k := ubd t.k c (K ++ [p.2]), sd := ubd t.sd c r }) (by simp [Ld.rows, Ld.take, hk, hs]) (e1.trans e3) (fun X => ⟨vi, fun t' e => ?_⟩) (fun X => ⟨_, rfl, ?_⟩)
      · cases e
        exact ⟨⟨qp.1, qp.2, vlt hne vp⟩, fun _ _ => trivial⟩
      · rw [← hT2, ← hT1]
        exact ⟨kk2, rfl, rfl, rfl, rfl, rfl, Xhl hs, Xbk hr, rfl, rfl, congrArg (fun s => upd s p.1 Gs.ready) (Wn q.ist)⟩
  | nil =>
    cases hs : t.sd c with
    | cons p r =>
      obtain ⟨hx, hr, hl⟩ := n1 (by rw [hs]; simp)
      rw [hk] at hl
      have qp := q.sd c p (by rw [hs]; simp)
      have vp : (t.vals p.1).length < 50 := q.vals p.1
      have hne : i ≠ p.1 := fun e => by have := q.ist; rw [e, qp.2] at this; cases this
      refine Zj (rows := [.done (some (some p.2, true)), .woken p.1 .sent]) (u := { t with sd := ubd t.sd c r }) (by simp [Ld.rows, Ld.take, hk, hs]) (ep.trans ((Xc2 c hn (XkO (p := p) (r := r) (g := i) (l := []) hs hx (XbR hr) hk)).trans (Ut (Xe4 c (YV (sc _) ?_ ?_ rfl rfl) (mvL_no (fun _ => ⟨by exact hx, ?_, ?_⟩) ?_)) (Va s2 rfl rfl rfl rfl)))) (fun X => ⟨vi, fun t' e => ?_⟩) (fun X => ⟨_, rfl, ?_⟩)
      · exact ubd_n
      · exact XcK
      · exact Xd0 hr
      · show ¬ ((t.k c).length : Int) < rm c
        rw [hk]; exact hl
      · exact fun _ h => absurd (Xd0 hr) h
      · cases e
        exact ⟨⟨qp.1, qp.2, vlt hne vp⟩, fun _ _ => trivial⟩
      · exact ⟨rfl, rfl, rfl, rfl, rfl, dn2 hne, Xhl hs, Xbk hr, rfl, rfl, st2 q.ist hne⟩
    | nil =>
      cases hx : t.x c with
      | true =>
        have hr : t.rc c = [] := by
          cases hr : t.rc c with
          | nil => rfl
          | cons a b => have := (n2 hs (by rw [hr]; simp)).2; rw [hx] at this; cases this
        refine Zj (rows := [.done (some (none, false))]) (u := t) (by simp [Ld.rows, Ld.take, hk, hs, hx]) (ep.trans ((Xc2 c hn (XjB (g := i) (l := []) hs (XbR hr) hk hx)).trans (Ut (Xe4 c (YV (sc _) rfl ?_ rfl rfl) (mvL_no ?_ ?_)) (Va s2 rfl rfl rfl rfl)))) (fun X => ⟨vi, fun t' e => trivial⟩) (fun X => ⟨_, rfl, ?_⟩)
        · exact XcK
        · exact fun h => absurd hs h
        · exact fun _ h => absurd (Xd0 hr) h
        · exact ⟨rfl, rfl, rfl, rfl, rfl, rfl, rfl, Xbk hr, rfl, rfl, Wn q.ist⟩
      | false =>
        exact Zj (rows := [.blocked]) (u := { t with rc := ubd t.rc c (t.rc c ++ [i]) }) (by simp [Ld.rows, Ld.take, hk, hs, hx]) (ep.trans (Ut (Xe4 c hn (mvL_no (fun h => absurd hs h) (fun _ _ => ⟨hk, hx⟩))) hg)) (fun X => ⟨q.ist, fun t' e => trivial⟩) (fun X => ⟨_, rfl, ⟨rfl, rfl, rfl, rfl, rfl, rfl, rfl, rfl, rfl, rfl, rfl⟩⟩)
theorem XkW (q : Qt t n i rm) (s : Still rm t) : XbG rm t n i .lock := by
  obtain ⟨s0, s1, s2⟩ := s
  have sc : ∀ c, mvL rm t c = .no := fun c => by cases c; exact s0; exact s1
  obtain ⟨g1, g2⟩ := Xb5 s2
  have vi := XbX (q.vals i)
  have ep : XaK rm t i .lock = lpL rm 10 { t with mw := t.mw ++ [i], st := upd t.st i .blocked } := rfl
  by_cases ho : t.ow = none
  · have hm : t.mw = [] := by
      rcases g1 with h | h
      · exact h
      · exact absurd ho h
    refine Zj (rows := [.done none]) (u := { t with ow := some i }) (by simp [Ld.rows, Xey ho, LRow.bl]) (ep.trans ((Xiq (t := { t with mw := t.mw ++ [i], st := upd t.st i .blocked }) (fun c => YV (sc c) rfl rfl rfl rfl) (Xcg (t := { t with mw := t.mw ++ [i], st := upd t.st i .blocked }) (g := i) (r := []) (by rw [hm]; rfl) ho)).trans (Ut (t := (({ ({ t with mw := t.mw ++ [i], st := upd t.st i .blocked } : Ld) with ow := some i } : Ld).pop .lock).gor i none) (fun c => YV (sc c) rfl rfl rfl rfl) (WJ (.inl ?_) g2)))) (fun X => ⟨vi, fun t' e => trivial⟩) (fun X => ⟨_, rfl, ?_⟩)
    · show (t.mw ++ [i]).tail = []
      rw [hm]; rfl
    · exact ⟨rfl, rfl, rfl, rfl, rfl, rfl, rfl, rfl, XjH hm, rfl, Wn q.ist⟩
  · obtain ⟨o, ho'⟩ := Option.ne_none_iff_exists'.mp ho
    exact Zj (rows := [.blocked]) (u := { t with mw := t.mw ++ [i] }) (by simp [Ld.rows, Xez ho', LRow.bl]) (ep.trans (Ut (t := { t with mw := t.mw ++ [i], st := upd t.st i .blocked }) (fun c => YV (sc c) rfl rfl rfl rfl) (WJ (.inr ho) g2))) (fun X => ⟨q.ist, fun t' e => trivial⟩) (fun X => ⟨_, rfl, ⟨rfl, rfl, rfl, rfl, rfl, rfl, rfl, rfl, rfl, rfl, rfl⟩⟩)
theorem XkU (q : Qt t n i rm) (s : Still rm t) : XbG rm t n i .wait := by
  obtain ⟨s0, s1, s2⟩ := s
  have sc : ∀ c, mvL rm t c = .no := fun c => by cases c; exact s0; exact s1
  obtain ⟨g1, g2⟩ := Xb5 s2
  have vi := XbX (q.vals i)
  have ep : XaK rm t i .wait = lpL rm 10 { t with gw := t.gw ++ [i], st := upd t.st i .blocked } := rfl
  by_cases hc : t.cn = 0
  · have hm : t.gw = [] := by
      rcases g2 with h | h
      · exact h
      · exact absurd hc h
    refine Zj (rows := [.done none]) (u := t) (by simp [Ld.rows, Ld.wait, if_pos hc, LRow.bl]) (ep.trans ((Xiq (t := { t with gw := t.gw ++ [i], st := upd t.st i .blocked }) (fun c => YV (sc c) rfl rfl rfl rfl) (Xcr (t := { t with gw := t.gw ++ [i], st := upd t.st i .blocked }) (g := i) (r := []) g1 (by rw [hm]; rfl) hc)).trans (Ut (t := (({ t with gw := t.gw ++ [i], st := upd t.st i .blocked } : Ld).pop .wait).gor i none) (fun c => YV (sc c) rfl rfl rfl rfl) (WJ g1 (.inl ?_))))) (fun X => ⟨vi, fun t' e => trivial⟩) (fun X => ⟨_, rfl, ?_⟩)
    · show (t.gw ++ [i]).tail = []
      rw [hm]; rfl
    · exact ⟨rfl, rfl, rfl, rfl, rfl, rfl, rfl, rfl, rfl, XjH hm, Wn q.ist⟩
  · exact Zj (rows := [.blocked]) (u := { t with gw := t.gw ++ [i] }) (by simp [Ld.rows, Ld.wait, if_neg hc, LRow.bl]) (ep.trans (Ut (t := { t with gw := t.gw ++ [i], st := upd t.st i .blocked }) (fun c => YV (sc c) rfl rfl rfl rfl) (WJ g1 (.inr hc)))) (fun X => ⟨q.ist, fun t' e => trivial⟩) (fun X => ⟨_, rfl, ⟨rfl, rfl, rfl, rfl, rfl, rfl, rfl, rfl, rfl, rfl, rfl⟩⟩)
theorem Xhx (q : Qt t n i rm) (s : Still rm t) : XbG rm t n i .unlock := by
  obtain ⟨s0, s1, s2⟩ := s
  have sc : ∀ c, mvL rm t c = .no := fun c => by cases c; exact s0; exact s1
  obtain ⟨g1, g2⟩ := Xb5 s2
  have vi := XbX (q.vals i)
  by_cases ho : t.ow = none
  · exact WP (rows := [.panic 0]) (u := t) (if_pos ho) (by unfold XaK; rw [show stL t i .unlock = none from if_pos ho]) (fun X => ⟨trivial, fun t' e => by cases e⟩) (fun X => rfl)
  · have ep : XaK rm t i .unlock = lpL rm 10 (({ t with ow := none } : Ld).gor i none) := by unfold XaK; rw [show stL t i .unlock = some _ from if_neg ho]
    have er : t.rows rm i .unlock = (.done none :: t.unlock.1.toList.map (fun g => .woken g .sent), t.unlock.2) := if_neg ho
    obtain ⟨l, hm⟩ : ∃ l, t.mw = l := ⟨_, rfl⟩
    cases l with
    | nil =>
      rw [XdZ hm] at er
      refine Zj er (ep.trans (Ut (t := ({ t with ow := none } : Ld).gor i none) (fun c => YV (sc c) rfl rfl rfl rfl) (WJ (.inl hm) g2))) (fun X => ⟨vi, fun t' e => trivial⟩) (fun X => ⟨_, rfl, ⟨rfl, rfl, rfl, rfl, rfl, rfl, rfl, rfl, rfl, rfl, ?_⟩⟩)
      exact Xib q.ist
    | cons g r =>
      rw [XcX hm] at er
      have qg := q.mw g (by rw [hm]; simp)
      refine Zj er (ep.trans ((Xiq (t := ({ t with ow := none } : Ld).gor i none) (fun c => YV (sc c) rfl rfl rfl rfl) (Xcg (t := ({ t with ow := none } : Ld).gor i none) (g := g) (r := r) hm rfl)).trans (Ut (t := (({ (({ t with ow := none } : Ld).gor i none) with ow := some g } : Ld).pop .lock).gor g none) (fun c => YV (sc c) rfl rfl rfl rfl) (WJ (.inr (show some g ≠ none from nofun)) g2)))) (fun X => ⟨vi, fun t' e => ?_⟩) (fun X => ⟨_, rfl, ⟨rfl, rfl, rfl, rfl, rfl, rfl, rfl, rfl, ?_, rfl, ?_⟩⟩)
      · cases e
        exact ⟨⟨qg.1, qg.2, XbX (q.vals g)⟩, fun _ _ => trivial⟩
      · show r = t.mw.tail
        rw [hm]; rfl
      · exact congrArg (fun s => upd s g Gs.ready) (Xib q.ist)
end
end
section
section
variable {t t' : Ld} {rm : Bool → Int} {n i f : Nat}
theorem EqL.wk {T U : Ld} (e : EqL U T) (g : Nat) (v : Option Vl) : EqL (wke (U.say g v) g) (T.gor g v) := by
  refine ⟨e.k, e.x, e.ow, e.cn, ?_, ?_, e.sd, e.rc, e.mw, e.gw, ?_⟩
  · cases v <;> simp [wke, Ld.gor, Ld.say, e.vals]
  · simp [wke, Ld.gor, Ld.say, e.dn]
  · simp [wke, Ld.gor, Ld.say, e.st]
theorem Xg4 (c : Bool) : ∀ (l : List Nat) (f : Nat) (T U : Ld), l.length < f → T.rc c = l → EqL U { T with rc := ubd T.rc c [] } → T.sd c = [] → T.x c = true → (l ≠ [] → T.k c = []) → mvL rm T (!c) = .no → gtL T = .no → l.Nodup → (∀ g ∈ l, g < n ∧ T.st g = .blocked ∧ (T.vals g).length < 100) →
    U.fit n i (l.map fun g => .woken g (.recv (none, false))) ∧ ∃ T' U', lpL rm f T = some T' ∧ U.aps i (l.map fun g => .woken g (.recv (none, false))) = some U' ∧ EqL U' T' := by
  intro l
  induction l with
  | nil =>
    intro f T U hf hr e hs hx hk h1 h2 hn hq
    obtain ⟨f, rfl⟩ := Nat.exists_eq_succ_of_ne_zero (Nat.ne_of_gt hf)
    refine ⟨trivial, T, U, Ut (Xe4 c h1 (mvL_no (fun h => absurd hs h) (fun _ h => absurd hr h))) h2, rfl, ⟨e.k, e.x, e.ow, e.cn, e.vals, e.dn, e.sd, ?_, e.mw, e.gw, e.st⟩⟩
    rw [e.rc]
    funext c'
    simp only [ubd]
    split
    · rename_i e'; subst e'; exact hr.symm
    · rfl
  | cons g l ihl =>
    intro f T U hf hr e hs hx hk h1 h2 hn hq
    refine @cps _ fun Γ γ => ?_
    obtain ⟨f, rfl⟩ := Nat.exists_eq_succ_of_ne_zero (Nat.ne_of_gt (Nat.lt_of_le_of_lt (Nat.zero_le _) hf))
    have hk' := hk (by simp)
    obtain ⟨q1, q2, q3⟩ := hq g (by simp)
    refine γ ?_; clear γ Γ
    have e1 := Xc2 (f := f) c h1 (XjB (g := g) (l := l) hs hr hk' hx)
    rw [List.nodup_cons] at hn
    have ew := (e.wk g (some (none, false)))
    have r1 : ((T.pop (.take c)).gor g (some (none, false))).rc c = l := by simp [Ld.pop, Ld.gor, Ld.say, ubd_self, hr]
    have ih := ihl f ((T.pop (.take c)).gor g (some (none, false))) (wke (U.say g (some (none, false))) g) (by simp at hf; lia) r1 (by
      refine ⟨ew.k, ew.x, ew.ow, ew.cn, ew.vals, ew.dn, ew.sd, ew.rc.trans ?_, ew.mw, ew.gw, ew.st⟩
      funext c'
      simp only [Ld.pop, Ld.gor, Ld.say, ubd]
      split <;> rfl) hs hx (fun _ => hk') (YV h1 rfl (by simp [Ld.pop, Ld.gor, Ld.say, Xac]) rfl rfl) (Va h2 rfl rfl rfl rfl) hn.2 (fun g' hg' => by
        obtain ⟨a1, a2, a3⟩ := hq g' (List.mem_cons_of_mem _ hg')
        have ne : g' ≠ g := fun e => hn.1 (e ▸ hg')
        refine ⟨a1, ?_, ?_⟩
        · simp only [Ld.pop, Ld.gor, Ld.say, upd, if_neg ne]; exact a2
        · simp only [Ld.pop, Ld.gor, Ld.say, upd, if_neg ne]; exact a3)
    refine @cps _ fun Γ γ => ?_
    obtain ⟨ih1, T', U', i1, i2, i3⟩ := ih
    refine γ ?_; clear γ Γ
    refine ⟨⟨⟨q1, by rw [e.st]; exact q2, by rw [e.vals]; exact q3⟩, fun t' et => ?_⟩, T', U', e1.trans i1, ?_, i3⟩
    · cases et; exact ih1
    · exact i2
theorem Xl0 : ∀ (l : List Nat) (f : Nat) (T U : Ld), l.length < f → T.gw = l → EqL U { T with gw := [] } → T.cn = 0 → (T.mw = [] ∨ T.ow ≠ none) → (∀ c, mvL rm T c = .no) → l.Nodup → (∀ g ∈ l, g < n ∧ T.st g = .blocked ∧ (T.vals g).length < 100) →
    U.fit n i (l.map fun g => .woken g .sent) ∧ ∃ T' U', lpL rm f T = some T' ∧ U.aps i (l.map fun g => .woken g .sent) = some U' ∧ EqL U' T' := by
  intro l
  induction l with
  | nil =>
    intro f T U hf hr e hc hm h1 hn hq
    obtain ⟨f, rfl⟩ := Nat.exists_eq_succ_of_ne_zero (Nat.ne_of_gt hf)
    refine ⟨trivial, T, U, Ut h1 (WJ hm (.inl hr)), rfl, ⟨e.k, e.x, e.ow, e.cn, e.vals, e.dn, e.sd, e.rc, e.mw, e.gw.trans hr.symm, e.st⟩⟩
  | cons g l ihl =>
    intro f T U hf hr e hc hm h1 hn hq
    refine @cps _ fun Γ γ => ?_
    obtain ⟨f, rfl⟩ := Nat.exists_eq_succ_of_ne_zero (Nat.ne_of_gt (Nat.lt_of_le_of_lt (Nat.zero_le _) hf))
    obtain ⟨q1, q2, q3⟩ := hq g (by simp)
    refine γ ?_; clear γ Γ
    have e1 := Xiq (f := f) h1 (Xcr (g := g) (r := l) hm hr hc)
    rw [List.nodup_cons] at hn
    have ew := (e.wk g none)
    have ih := ihl f ((T.pop .wait).gor g none) (wke (U.say g none) g) (by simp at hf; lia) (by simp [Ld.pop, Ld.gor, Ld.say, hr])
      ⟨ew.k, ew.x, ew.ow, ew.cn, ew.vals, ew.dn, ew.sd, ew.rc, ew.mw, ew.gw, ew.st⟩ hc hm (fun c => YV (h1 c) rfl rfl rfl rfl) hn.2 (fun g' hg' => by
        obtain ⟨a1, a2, a3⟩ := hq g' (List.mem_cons_of_mem _ hg')
        have ne : g' ≠ g := fun e => hn.1 (e ▸ hg')
        refine ⟨a1, ?_, a3⟩
        simp only [Ld.pop, Ld.gor, Ld.say, upd, if_neg ne]; exact a2)
    refine @cps _ fun Γ γ => ?_
    obtain ⟨ih1, T', U', i1, i2, i3⟩ := ih
    refine γ ?_; clear γ Γ
    refine ⟨⟨⟨q1, by rw [e.st]; exact q2, by rw [e.vals]; exact q3⟩, fun t' et => ?_⟩, T', U', e1.trans i1, ?_, i3⟩
    · cases et; exact ih1
    · exact i2
theorem XiS (q : Qt t n i rm) (s : Still rm t) (c : Bool) : XbG rm t n i (.close c) := by
  obtain ⟨s0, s1, s2⟩ := s
  have sc : ∀ c, mvL rm t c = .no := fun c => by cases c; exact s0; exact s1
  have vi : (t.vals i).length < 100 := Nat.lt_trans (q.vals i) (by decide)
  have n1 := Xdi (sc c)
  have n2 := Xdt (sc c)
  by_cases hx : t.x c = true
  · exact WP (rows := [.panic 20]) (u := t) (if_pos hx) (by unfold XaK; rw [show stL t i (.close c) = none from if_pos hx]) (fun X => ⟨trivial, fun t' e => by cases e⟩) (fun X => rfl)
  · have ep : XaK rm t i (.close c) = lpL rm 10 (({ t with x := ubd t.x c true } : Ld).gor i none) := by unfold XaK; rw [show stL t i (.close c) = some _ from if_neg hx]
    have er : t.rows rm i (.close c) = (.done none :: ((t.rc c).map (fun g => .woken g (.recv (none, false))) ++ (t.sd c).map (fun p => .woken p.1 .panic)), { t with x := ubd t.x c true, rc := ubd t.rc c [], sd := ubd t.sd c [] }) := if_neg hx
    have hno : mvL rm (({ t with x := ubd t.x c true } : Ld).gor i none) (!c) = .no := YV (sc _) rfl rfl rfl (by simp [Ld.gor, Ld.say, Xac])
    cases hs : t.sd c with
    | cons p r =>
      have hr := (n1 (by rw [hs]; simp)).2.1
      rw [hr, hs] at er
      refine WP er (ep.trans (XkA c hno (XhB (p := p) (r := r) hs (by simp [Ld.gor, Ld.say, ubd_self])))) (fun X => ⟨vi, fun t' e => ?_⟩) (fun X => rfl)
      exact ⟨trivial, fun t' e => by cases e⟩
    | nil =>
      rw [hs] at er
      simp only [List.map_nil, List.append_nil] at er
      have cf := fun X => Xg4 (rm := rm) (n := n) (i := i) c (t.rc c) 10 (({ t with x := ubd t.x c true } : Ld).gor i none) (({ t with x := ubd t.x c true, rc := ubd t.rc c [], sd := ubd t.sd c [], tmp := X } : Ld).say i none) (by have := q.rcl c; lia) rfl ⟨rfl, rfl, rfl, rfl, rfl, rfl, by
          funext c'
          simp only [Ld.gor, Ld.say, ubd]
          split
          · rename_i e; subst e; exact hs.symm
          · rfl, rfl, rfl, rfl, by
          funext j
          simp only [Ld.gor, Ld.say, upd]
          split
          · rename_i e; subst e; exact q.ist
          · rfl⟩ hs (by simp [Ld.gor, Ld.say, ubd_self]) (fun h => (n2 hs h).1) hno (Va s2 rfl rfl rfl rfl) (q.rcn c) (fun g hg => by
          obtain ⟨a1, a2⟩ := q.rc c g hg
          have ne : g ≠ i := fun e => by have := q.ist; rw [← e, a2] at this; cases this
          refine ⟨a1, ?_, ?_⟩
          · simp only [Ld.gor, Ld.say, upd, if_neg ne]; exact a2
          · have := q.vals g; show (t.vals g).length < 100; lia)
      refine @cps _ fun Γ γ => ?_
      obtain ⟨_, T', _, p1, _, _⟩ := cf none
      refine γ ?_; clear γ Γ
      refine Zj er (ep.trans p1) (fun X => ⟨vi, fun t' e => ?_⟩) (fun X => ?_)
      · cases e; exact (cf X).1
      · obtain ⟨_, T'', U', p2, p3, p4⟩ := cf X
        rw [p1] at p2
        cases p2
        exact ⟨U', p3, p4⟩
theorem XjY (q : Qt t n i rm) (s : Still rm t) : XbG rm t n i .done := by
  obtain ⟨s0, s1, s2⟩ := s
  have sc : ∀ c, mvL rm t c = .no := fun c => by cases c; exact s0; exact s1
  obtain ⟨g1, g2⟩ := Xb5 s2
  have vi : (t.vals i).length < 100 := Nat.lt_trans (q.vals i) (by decide)
  by_cases hc : t.cn - 1 < 0
  · have hc' : t.cn + -1 < 0 := hc
    exact WP (rows := [.panic 0]) (u := t) (if_pos hc') (by unfold XaK; rw [show stL t i .done = none from if_pos hc]) (fun X => ⟨trivial, fun t' e => by cases e⟩) (fun X => rfl)
  · have hc' : ¬ t.cn + -1 < 0 := hc
    have ep : XaK rm t i .done = lpL rm 10 (({ t with cn := t.cn - 1 } : Ld).gor i none) := by unfold XaK; rw [show stL t i .done = some _ from if_neg hc]
    have er : t.rows rm i .done = (.done none :: (if t.cn + -1 > 0 then [] else t.gw).map (fun g => .woken g .sent), if t.cn + -1 > 0 then { t with cn := t.cn + -1 } else { t with cn := t.cn + -1, gw := [] }) := if_neg hc'
    have ce : t.cn + -1 = t.cn - 1 := rfl
    rw [ce] at er
    by_cases hp : t.cn - 1 > 0
    · rw [if_pos hp, if_pos hp] at er
      refine Zj er (ep.trans (Ut (t := ({ t with cn := t.cn - 1 } : Ld).gor i none) (fun c => YV (sc c) rfl rfl rfl rfl) (WJ g1 (.inr ?_)))) (fun X => ⟨vi, fun t' e => trivial⟩) (fun X => ⟨_, rfl, ⟨rfl, rfl, rfl, rfl, rfl, rfl, rfl, rfl, rfl, rfl, ?_⟩⟩)
      · simp only [Ld.gor, Ld.say]; lia
      · funext j
        simp only [Ld.gor, Ld.say, upd]
        split
        · rename_i e; subst e; exact q.ist
        · rfl
    · rw [if_neg hp, if_neg hp] at er
      have cf := fun X => Xl0 (rm := rm) (n := n) (i := i) t.gw 10 (({ t with cn := t.cn - 1 } : Ld).gor i none) (({ t with cn := t.cn - 1, gw := [], tmp := X } : Ld).say i none) (by have := q.gwl; lia) rfl ⟨rfl, rfl, rfl, rfl, rfl, rfl, rfl, rfl, rfl, rfl, by
          funext j
          simp only [Ld.gor, Ld.say, upd]
          split
          · rename_i e; subst e; exact q.ist
          · rfl⟩ (by simp only [Ld.gor, Ld.say]; lia) g1 (fun c => YV (sc c) rfl rfl rfl rfl) q.gwn (fun g hg => by
          obtain ⟨a1, a2⟩ := q.gw g hg
          have ne : g ≠ i := fun e => by have := q.ist; rw [← e, a2] at this; cases this
          refine ⟨a1, ?_, ?_⟩
          · simp only [Ld.gor, Ld.say, upd, if_neg ne]; exact a2
          · have := q.vals g; show (t.vals g).length < 100; lia)
      refine @cps _ fun Γ γ => ?_
      obtain ⟨_, T', _, p1, _, _⟩ := cf none
      refine γ ?_; clear γ Γ
      refine Zj er (ep.trans p1) (fun X => ⟨vi, fun t' e => ?_⟩) (fun X => ?_)
      · cases e; exact (cf X).1
      · obtain ⟨_, T'', U', p2, p3, p4⟩ := cf X
        rw [p1] at p2
        cases p2
        exact ⟨U', p3, p4⟩
theorem sim (q : Qt t n i rm) (s : Still rm t) (d : Dd) : XbG rm t n i d := by
  cases d with
  | send c v => exact Xkz q s c v
  | take c => exact Xj0 q s c
  | close c => exact XiS q s c
  | lock => exact XkW q s
  | unlock => exact Xhx q s
  | wait => exact XkU q s
  | done => exact XjY q s
end
end
section
noncomputable def wt (L : Nat → Nat) (s : Ps) (en : List Nat) (i : Nat) : Nat := if i ∈ en then 0 else 2 * (L i - s.dn i) + (if i ∈ s.ws.map Prod.fst then 0 else 1)
noncomputable def mu (L : Nat → Nat) (n : Nat) (s : Ps) (en : List Nat) : Nat := ((List.range n).map (wt L s en)).sum
theorem XeW {f g : Nat → Nat} : ∀ (l : List Nat), (∀ i, f i ≤ g i) → (l.map f).sum ≤ (l.map g).sum
  | [], _ => Nat.le_refl _
  | a :: l, h => by
    simp only [List.map_cons, List.sum_cons]
    exact Nat.add_le_add (h a) (XeW l h)
theorem Xhf {f g : Nat → Nat} {i : Nat} : ∀ (l : List Nat), (∀ i, f i ≤ g i) → i ∈ l → f i < g i → (l.map f).sum < (l.map g).sum
  | a :: l, h, hi, hl => by
    simp only [List.map_cons, List.sum_cons]
    rcases List.mem_cons.mp hi with rfl | hi
    · exact Nat.add_lt_add_of_lt_of_le hl (XeW l h)
    · exact Nat.add_lt_add_of_le_of_lt (h a) (Xhf l h hi hl)
section
variable {s : Ps} {en : List Nat} {rm : Bool → Int} {n : Nat} {L : Nat → Nat}
theorem XaU (w : s.W rm n L) {r : Row} (hr : r ∈ s.ws) (v : Option Vl) (i : Nat) : wt L (s.go r.1 v) en i ≤ wt L s en i := by
  unfold wt
  split
  · exact Nat.le_refl _
  · have hl := (w.lt r hr).2
    by_cases e : i = r.1
    · subst e
      have h1 : r.1 ∈ s.ws.map Prod.fst := List.mem_map_of_mem hr
      rw [if_pos h1]
      have : (s.go r.1 v).dn r.1 = s.dn r.1 + 1 := by simp [Ps.go, upd]
      rw [this]
      have e : L r.1 - s.dn r.1 = L r.1 - (s.dn r.1 + 1) + 1 := by rw [Nat.sub_add_eq]; exact (Nat.succ_pred_eq_of_pos (Nat.sub_pos_of_lt hl)).symm
      rw [e]
      split
      · exact Nat.mul_le_mul_left 2 (Nat.le_succ _)
      · exact Nat.le_succ _
    · have h1 : (s.go r.1 v).dn i = s.dn i := by simp [Ps.go, upd, e]
      have h2 : i ∈ (s.go r.1 v).ws.map Prod.fst ↔ i ∈ s.ws.map Prod.fst := by
        simp only [Ps.go, List.mem_map, List.mem_filter, decide_eq_true_eq]
        constructor
        · rintro ⟨q, ⟨a, b⟩, c⟩; exact ⟨q, a, c⟩
        · rintro ⟨q, a, c⟩; exact ⟨q, ⟨a, by rw [c]; exact e⟩, c⟩
      rw [h1]
      by_cases h3 : i ∈ s.ws.map Prod.fst
      · rw [if_pos h3, if_pos (h2.mpr h3)]; lia
      · rw [if_neg h3, if_neg (fun x => h3 (h2.mp x))]; lia
theorem XmT (w : s.W rm n L) (c : Bool) (i : Nat) : wt L (s.mv rm c).2 en i ≤ wt L s en i := by
  unfold Ps.mv
  rcases hs : s.q (.send c) with _ | d
  · rcases ht : s.q (.take c) with _ | t
    · exact Nat.le_refl _
    · have tm := VR ht
      rcases hk : s.k c with _ | ⟨v, k⟩
      · simp only
        split
        · exact XaU w tm _ i
        · exact Nat.le_refl _
      · have w' := w.setK (c := c) (l := k) (by have := w.kl c; rw [hk] at this; simp at this; lia)
        exact XaU (s := { s with k := ubd s.k c k }) w' tm _ i
  · have dm := VR hs
    simp only
    split
    · exact Nat.le_refl _
    · rcases ht : s.q (.take c) with _ | t
      · simp only
        split
        · have w' := w.setK (c := c) (l := s.k c ++ [d.2.val]) (by simp; lia)
          exact XaU (s := { s with k := ubd s.k c (s.k c ++ [d.2.val]) }) w' dm _ i
        · exact Nat.le_refl _
      · have tm := VR ht
        have ne : t ≠ d := by
          rintro rfl
          exact nomatch Xcv (XaX hs) (XaX ht)
        rcases hk : s.k c with _ | ⟨v, k⟩
        · exact Nat.le_trans (XaU (w.go dm) (XhP w tm dm ne) _ i) (XaU w dm _ i)
        · have w' := w.setK (c := c) (l := k) (by have := w.kl c; rw [hk] at this; simp at this; lia)
          exact XaU (s := { s with k := ubd s.k c k }) w' tm _ i
theorem XoB (w : s.W rm n L) (i : Nat) : wt L s.gt.2 en i ≤ wt L s en i := by
  unfold Ps.gt
  split
  · rename_i l hl ho
    have w' : ({ s with ow := some l.1 } : Ps).W rm n L := w.congr rfl rfl rfl rfl
    exact XaU (s := { s with ow := some l.1 }) w' (VR hl) _ i
  · split
    · rename_i q hq
      split
      · exact XaU w (VR hq) _ i
      · exact Nat.le_refl _
    · exact Nat.le_refl _
theorem Xo8 (f : Nat) : ∀ {s : Ps}, s.W rm n L → ∀ i, wt L (s.lp rm f) en i ≤ wt L s en i := by
  induction f with
  | zero =>
    intro s w i
    exact Nat.le_refl _
  | succ f ih =>
    intro s w i
    rw [Xjf]
    have w1 := (Xf0 w false).1
    have w2 := (Xf0 w1 true).1
    have w3 := (Xl9 w2).1
    have l1 := XmT (en := en) w false i
    have l2 := XmT (en := en) w1 true i
    have l3 := XoB (en := en) w2 i
    split
    · exact Nat.le_refl _
    · split
      · exact Nat.le_trans (ih w1 i) l1
      · split
        · exact Nat.le_trans (ih w2 i) (Nat.le_trans l2 l1)
        · split
          · exact Nat.le_trans (ih w3 i) (Nat.le_trans l3 (Nat.le_trans l2 l1))
          · exact Nat.le_trans l3 (Nat.le_trans l2 l1)
theorem XnK {i : Nat} {d : Dd} (j : Nat) : wt L (s.add i d) en j ≤ wt L s en j := by
  unfold wt
  split
  · exact Nat.le_refl _
  · have h1 : (s.add i d).dn j = s.dn j := rfl
    have h2 : j ∈ s.ws.map Prod.fst → j ∈ (s.add i d).ws.map Prod.fst := fun h => by simp only [Ps.add, List.map_append, List.mem_append]; exact .inl h
    rw [h1]
    by_cases h3 : j ∈ s.ws.map Prod.fst
    · rw [if_pos h3, if_pos (h2 h3)]; lia
    · rw [if_neg h3]; split <;> lia
theorem XlK {i : Nat} {d : Dd} (hi : i ∉ s.ws.map Prod.fst) (hen : i ∉ en) : wt L (s.add i d) en i < wt L s en i := by
  unfold wt
  rw [if_neg hen, if_neg hen, if_neg hi, if_pos (by simp [Ps.add])]
  show 2 * (L i - s.dn i) + 0 < _
  lia
theorem XoN (w : s.W rm n L) {i : Nat} {d : Dd} (hi : i ∉ s.ws.map Prod.fst) (hn : i < n) (hd : s.dn i < L i) (j : Nat) : wt L (s.st i d) en j ≤ wt L (s.add i d) en j := by
  have w1 := XkC w (d := d) hi hn hd
  unfold Ps.st
  cases d with
  | close c => exact XaU (s := { s.add i (.close c) with pn := s.x c, x := ubd s.x c true }) (w1.congr rfl rfl rfl rfl) (r := (i, .close c)) Wy none j
  | unlock => exact XaU (s := { s.add i .unlock with pn := s.ow.isNone, ow := none }) (w1.congr rfl rfl rfl rfl) (r := (i, .unlock)) Wy none j
  | done => exact XaU (s := { s.add i .done with cn := s.cn - 1, pn := decide (s.cn - 1 < 0) }) (w1.congr rfl rfl rfl rfl) (r := (i, .done)) Wy none j
  | _ => exact Nat.le_refl _
theorem Xm4 (w : s.W rm n L) {i : Nat} {d : Dd} (hi : i ∉ s.ws.map Prod.fst) (hen : i ∉ en) (hn : i < n) (hd : s.dn i < L i) : mu L n (s.put rm i d) en < mu L n s en := by
  have w2 := Xmi w (d := d) hi hn hd
  have h1 := fun j => Nat.le_trans (Xo8 (en := en) 10 w2 j) (XoN (en := en) w hi hn hd j)
  refine Nat.lt_of_le_of_lt (XeW _ h1) (Xhf (i := i) _ (fun j => XnK j) (by simpa using hn) (XlK hi hen))
theorem Xm9 {i : Nat} (hi : i ∉ s.ws.map Prod.fst) (hen : i ∉ en) (hn : i < n) : mu L n s (en ++ [i]) < mu L n s en := by
  refine Xhf (i := i) _ (fun j => ?_) (by simpa using hn) ?_
  · unfold wt
    by_cases h : j ∈ en
    · rw [if_pos (by simp [h]), if_pos h]; exact Nat.le_refl _
    · by_cases h2 : j = i
      · rw [if_pos (by simp [h2])]; exact Nat.zero_le _
      · rw [if_neg (by simp [h, h2]), if_neg h]; exact Nat.le_refl _
  · unfold wt
    rw [if_pos (by simp), if_neg hen, if_neg hi]
    lia
theorem Xnh {P : Nat → List Dd} {ds : List Nat} : ∀ (f : Nat) (s : Ps) (en : List Nat) (tk : Nat), (s.W rm n fun i => (P i).length) → mu (fun i => (P i).length) n s en < f → run rm n P ds f s en tk ≠ .none := by
  intro f
  induction f with
  | zero => intro s en tk w hf; exact absurd hf (Nat.not_lt_zero _)
  | succ f ih =>
    intro s en tk w hf
    rw [Xh1]
    split
    · simp
    · rename_i hz
      have hm : (live n s en).getD (pick ds tk (live n s en).length).1 0 ∈ live n s en := by
        have := XaG (ds := ds) (tk := tk) (List.length_pos_iff.mpr hz)
        rw [List.getD_eq_getElem?_getD, List.getElem?_eq_getElem this]
        exact List.getElem_mem this
      obtain ⟨hi, hnw, hen⟩ := Xai hm
      simp only
      generalize (live n s en).getD (pick ds tk (live n s en).length).1 0 = i at *
      split
      · exact ih s _ _ w (XcT (Xm9 (L := fun i => (P i).length) (n := n) hnw hen hi) hf)
      · rename_i d hd
        split
        · simp
        · have hlt := (List.getElem?_eq_some_iff.mp hd).1
          exact ih _ _ _ (Xif w hnw hi hlt) (XcT (Xm4 w (d := d) hnw hen hi hlt) hf)
theorem mu0 {P : Nat → List Dd} {c : Int} (n3 : n ≤ 3) (l4 : ∀ i, (P i).length ≤ 4) : mu (fun i => (P i).length) n (s0 c) [] < 40 := by
  have h1 : mu (fun i => (P i).length) n (s0 c) [] ≤ ((List.range n).map fun _ => 9).sum := XeW _ (fun i => by
    have := l4 i
    simp [wt, s0]; lia)
  have h2 : ((List.range n).map fun _ => 9).sum = n * 9 := by simp [List.map_const']
  lia
end
end
section
structure K9 (fr : Fr) (ad : Ad → Nat) (pj : Nat) : Prop where
  h2 : fr.lookup 24 = some (.ref (ad .vs))
  h3 : fr.lookup 7 = some (.ref (ad .dn))
  h4 : fr.lookup 67 = some (.ref (ad .sch))
  h5 : fr.lookup 81 = some (.ref (ad .wd))
  h6 : fr.lookup 65 = some (.ref pj)
noncomputable def n9 (x : Sy) : Bool := decide (x = 24) || decide (x = 7) || decide (x = 67) || decide (x = 81) || decide (x = 65)
section
variable {S σ : Sg} {rm : Bool → Int} {n dj : Nat} {ad ad' : Ad → Nat} {t t' : Ld} {fr : Fr} {i pj : Nat} {s : Ps} {en : List Nat} {L : Nat → Nat}
theorem K9.set (k : K9 fr ad pj) (x : Sy) (v : MV) (h : n9 x = false) : K9 (fset fr x v) ad pj := by
  simp only [n9, Bool.or_eq_false_iff, decide_eq_false_iff_not] at h
  refine @cps _ fun Γ γ => ?_
  obtain ⟨⟨⟨⟨b, c⟩, d⟩, f⟩, g⟩ := h
  refine γ ?_; clear γ Γ
  exact ⟨by rw [Xh, if_neg (Ne.symm b)]; exact k.h2, by rw [Xh, if_neg (Ne.symm c)]; exact k.h3, by rw [Xh, if_neg (Ne.symm d)]; exact k.h4, by rw [Xh, if_neg (Ne.symm f)]; exact k.h5, by rw [Xh, if_neg (Ne.symm g)]; exact k.h6⟩
theorem K9.same (k : K9 fr ad pj) (h : Same ad ad') : K9 fr ad' pj :=
  ⟨by rw [h .vs rfl]; exact k.h2, by rw [h .dn rfl]; exact k.h3, by rw [h .sch rfl]; exact k.h4, by rw [h .wd rfl]; exact k.h5, k.h6⟩
theorem K8.k9 (k : K8 fr ad i pj) : K9 fr ad pj := ⟨k.h2, k.h3, k.h4, k.h5, k.h6⟩
theorem K9.k8 (k : K9 fr ad pj) (h : fr.lookup 60 = some (Ur ad i)) : K8 fr ad i pj := ⟨h, k.h2, k.h3, k.h4, k.h5, k.h6⟩
noncomputable def XaL : XM := (Xo (YE (Ua .scheduler none Wj (Xc 67) Xi) (XC 60)) (Xo (YZ (XN oIs (Xc 60) (Xd .none)) (Xo (mFl .brk) Xp) Xp) (Xo (YZ (XN oEq (XI (Xc 7) (Yl .goroutine 34 (Xc 60))) (XB ZN (Xe (XI (Xc 65) (Yl .goroutine 34 (Xc 60))) Xi))) (Xo (Zd (Ua .scheduler none Xgm (Xc 67) Xi)) (Xo (mFl .cont) Xp)) Xp) (Xo (Xaj (XB WK (Xe (Xc 81) (Xe (Yl .goroutine 34 (Xc 60)) (Xe (XI (XI (Xc 65) (Yl .goroutine 34 (Xc 60))) (XI (Xc 7) (Yl .goroutine 34 (Xc 60)))) Xi)))) (XC 37) XdN) Xp))))
theorem Xcm {F : Row → Option Nat} (hF : ∀ r g, F r = some g → g = r.1) : ∀ ws : List Row, (ws.filterMap F).Sublist (ws.map Prod.fst)
  | [] => .slnil
  | r :: ws => by
    cases h : F r with
    | none => rw [List.filterMap_cons_none h]; exact (Xcm hF ws).cons _
    | some g => rw [List.filterMap_cons_some h, hF r g h]; exact (Xcm hF ws).cons_cons _
theorem Vw.blocked (h : Vw s en t) (w : s.W rm n L) {r : Row} (hr : r ∈ s.ws) : r.1 < n ∧ t.st r.1 = .blocked := by
  refine ⟨(w.lt r hr).1, ?_⟩
  rw [h.st, if_pos (List.mem_map_of_mem hr)]
theorem Vw.qt (h : Vw s en t) (w : s.W rm n L) (hi : i ∉ s.ws.map Prod.fst) (hen : i ∉ en) : Qt t n i rm where
  ist := by rw [h.st, if_neg hi, if_neg hen]
  sd c p hp := by
    rw [h.sd c] at hp
    obtain ⟨r, hr, e⟩ := List.mem_filterMap.mp hp
    have := h.blocked w hr
    rw [XgC e] at this; exact this
  rc c g hg := by
    rw [h.rc c] at hg
    obtain ⟨r, hr, e⟩ := List.mem_filterMap.mp hg
    have := h.blocked w hr
    rw [XdD e] at this; exact this
  mw g hg := by
    rw [h.mw] at hg
    obtain ⟨r, hr, e⟩ := List.mem_filterMap.mp hg
    have := h.blocked w hr
    rw [XdX e] at this; exact this
  gw g hg := by
    rw [h.gw] at hg
    obtain ⟨r, hr, e⟩ := List.mem_filterMap.mp hg
    have := h.blocked w hr
    rw [Xdx e] at this; exact this
  vals j := by rw [h.vals]; have := w.vl j; have := w.dl j; have := w.l4 j; lia
  rcn c := by rw [h.rc c]; exact (Xcm (fun r g e => by rw [XdD e]) s.ws).nodup w.nd
  gwn := by rw [h.gw]; exact (Xcm (fun r g e => by rw [Xdx e]) s.ws).nodup w.nd
  rcl c := by rw [h.rc c]; have := List.length_filterMap_le (rcF c) s.ws; have := w.wl; lia
  gwl := by rw [h.gw]; have := List.length_filterMap_le wtF s.ws; have := w.wl; lia
  kl c := by rw [h.k]; exact w.kl c
theorem Vw.bd (h : Vw s en t) (w : s.W rm n L) : t.Bd where
  k c := by rw [h.k]; have := w.kl c; have := w.rl c; lia
  sd c := by rw [h.sd c]; have := List.length_filterMap_le (sdF c) s.ws; have := w.wl; lia
  rc c := by rw [h.rc c]; have := List.length_filterMap_le (rcF c) s.ws; have := w.wl; lia
  mw := by rw [h.mw]; have := List.length_filterMap_le lkF s.ws; have := w.wl; lia
  gw := by rw [h.gw]; have := List.length_filterMap_le wtF s.ws; have := w.wl; lia
theorem Vw.live (h : Vw s en t) : t.inSt n 15 = live n s en := by
  unfold Ld.inSt Mine.Internal.live
  apply List.filter_congr
  intro i _
  rw [h.st i]
  by_cases h1 : i ∈ s.ws.map Prod.fst
  · rw [if_pos h1]; simp [Gs.sy, List.contains_eq_mem, h1]
  · rw [if_neg h1]
    by_cases h2 : i ∈ en
    · rw [if_pos h2]; simp [Gs.sy, List.contains_eq_mem, h2]
    · rw [if_neg h2]
      have h1' : ¬ ∃ x, (i, x) ∈ s.ws := fun ⟨x, hx⟩ => h1 (List.mem_map_of_mem hx)
      simp [Gs.sy, List.contains_eq_mem, h2, h1']
theorem Vw.eqv (h : Vw s en t) (k : t'.k = t.k) (x : t'.x = t.x) (ow : t'.ow = t.ow) (cn : t'.cn = t.cn) (vals : t'.vals = t.vals) (dn : t'.dn = t.dn) (sd : t'.sd = t.sd) (rc : t'.rc = t.rc) (mw : t'.mw = t.mw) (gw : t'.gw = t.gw) (st : t'.st = t.st) : Vw s en t' :=
  ⟨k.trans h.k, x.trans h.x, ow.trans h.ow, cn.trans h.cn, vals.trans h.vals, dn.trans h.dn, fun c => by rw [sd]; exact h.sd c, fun c => by rw [rc]; exact h.rc c, mw.trans h.mw, gw.trans h.gw, fun i => by rw [st]; exact h.st i, h.di⟩
theorem Still.eqv (h : Still rm t) (k : t'.k = t.k) (x : t'.x = t.x) (ow : t'.ow = t.ow) (cn : t'.cn = t.cn) (sd : t'.sd = t.sd) (rc : t'.rc = t.rc) (mw : t'.mw = t.mw) (gw : t'.gw = t.gw) : Still rm t' :=
  ⟨YV h.1 (by rw [sd]) (by rw [rc]) (by rw [k]) (by rw [x]), YV h.2.1 (by rw [sd]) (by rw [rc]) (by rw [k]) (by rw [x]), Va h.2.2 mw ow gw cn⟩
theorem Vw.endd (h : Vw s en t) (hi : i ∉ s.ws.map Prod.fst) (z : Nat) : Vw s (en ++ [i]) (endd t i z) :=
  ⟨h.k, h.x, h.ow, h.cn, h.vals, h.dn, h.sd, h.rc, h.mw, h.gw, fun j => by
    show upd t.st i .ended j = _
    unfold upd
    split
    · rename_i e; subst e; rw [if_neg hi, if_pos (by simp)]
    · rename_i e
      rw [h.st j]
      by_cases h1 : j ∈ s.ws.map Prod.fst
      · rw [if_pos h1, if_pos h1]
      · rw [if_neg h1, if_neg h1]
        by_cases h2 : j ∈ en
        · rw [if_pos h2, if_pos (by simp [h2])]
        · rw [if_neg h2, if_neg (by simp [h2, e])], fun j hj => by
    have := h.di j hj
    simp only [List.mem_append, List.mem_singleton, not_or]
    exact ⟨this, fun e => hi (e ▸ hj)⟩⟩
noncomputable def Ld.TH (t u : Ld) : Prop := u.tk = t.tk ∧ u.here = t.here
theorem Xic (d : Dd) : t.TH (t.rows rm i d).2 := by
  cases d with
  | send c v => unfold Ld.rows Ld.offer; simp only; split <;> (try split) <;> (try split) <;> exact ⟨rfl, rfl⟩
  | take c => unfold Ld.rows Ld.take; simp only; split <;> (try split) <;> exact ⟨rfl, rfl⟩
  | close c => unfold Ld.rows Ld.close; simp only; split <;> exact ⟨rfl, rfl⟩
  | lock => unfold Ld.rows Ld.lock; simp only; split <;> exact ⟨rfl, rfl⟩
  | unlock => unfold Ld.rows Ld.unlock; simp only; split <;> (try split) <;> exact ⟨rfl, rfl⟩
  | wait => unfold Ld.rows Ld.wait; simp only; split <;> exact ⟨rfl, rfl⟩
  | done => unfold Ld.rows; simp only; split <;> (try split) <;> exact ⟨rfl, rfl⟩
theorem Xoq {r : LRow} (e : t.ap i r = some t') : t'.tk = t.tk := by
  cases r with
  | panic => cases e
  | blocked => cases e; rfl
  | done v => cases e; rfl
  | woken g w => cases w <;> cases e <;> rfl
theorem XmZ (l : List LRow) : ∀ (t : Ld), t.aps i l = some t' → t'.tk = t.tk := by
  induction l with
  | nil =>
    intro t e
    cases e; rfl
  | cons r l ih =>
    intro t e
    rw [XoA] at e
    cases h : t.ap i r with
    | none => rw [h] at e; cases e
    | some t1 => rw [h] at e; exact (ih t1 e).trans (Xoq h)
noncomputable def XnQ (S : Sg) (rm : Bool → Int) (n dj pj : Nat) (r : R (Fl × Fr)) : Oc → Prop
  | .none => False
  | .panic => ∃ a b z fr' σ', r = .ok (.ret (.tup [.str 14, .ref a, .ref b, .ref z]), fr') σ' ∧ (∀ (i : Nat) (o : MO), S[i]? = some o → σ'[i]? = some o)
  | .fin s => ∃ ad' t' en' fr' σ', r = .ok (.next, fr') σ' ∧ Lh S rm n dj ad' t' σ' ∧ Vw s en' t' ∧ K9 fr' ad' pj ∧ live n s en' = []
theorem Lh.pushes : ∀ (G : Sg) {σ : Sg}, Lh S rm n dj ad t σ → Lh S rm n dj ad t (σ ++ G)
  | [], σ, h => by rw [List.append_nil]; exact h
  | o :: G, σ, h => by
    have := Lh.pushes G (h.push o)
    rw [List.append_assoc] at this; exact this
theorem Xej {P : Nat → List Dd} {ds : List Nat} {j : Nat} {pr : Nat → Nat} (B : Bs S n P ds rm pj j dj pr) (h : Lh S rm n dj ad t σ) (v : Vw s en t) (w : s.W rm n fun i => (P i).length) (k : K9 fr ad pj)
    (hz : live n s en = []) : ∃ fr' σ', XaL fr σ = .ok (.brk, fr') σ' ∧ Lh S rm n dj ad t σ' ∧ K9 fr' ad pj := by
  have n3 := B.n3
  obtain ⟨G, e⟩ := Xef h (by lia) (v.live.trans hz)
  unfold XaL
  simp only [Xk, Xj, Xm, XE, Xt, XF, Xz, XY, XZ, XA, YJ, Yu, Xau, Yj, Yk, XJ, XQ, Xw, XD, ZF, k.h4, Xcx h, e, Xh, if_true, Xfn]
  exact ⟨_, _, rfl, h.pushes G, k.set _ _ rfl⟩
theorem Xi0 {P : Nat → List Dd} {ds : List Nat} {j : Nat} {pr : Nat → Nat} (B : Bs S n P ds rm pj j dj pr) (h : Lh S rm n dj ad t σ) (v : Vw s en t) (w : s.W rm n fun i => (P i).length) (st : Still rm t) (hp : s.pn = false) (k : K9 fr ad pj)
    (hz : live n s en ≠ []) :
    match (P ((live n s en).getD (pick ds t.tk (live n s en).length).1 0))[s.dn ((live n s en).getD (pick ds t.tk (live n s en).length).1 0)]? with
      | .none => ∃ t' fr' σ', XaL fr σ = .ok (.cont, fr') σ' ∧ Lh S rm n dj ad t' σ' ∧ Vw s (en ++ [(live n s en).getD (pick ds t.tk (live n s en).length).1 0]) t' ∧ Still rm t' ∧ t'.tk = (pick ds t.tk (live n s en).length).2 ∧ K9 fr' ad pj
      | .some d => if (s.put rm ((live n s en).getD (pick ds t.tk (live n s en).length).1 0) d).pn then ∃ a b z fr' σ', XaL fr σ = .ok (.ret (.tup [.str 14, .ref a, .ref b, .ref z]), fr') σ' ∧ ∀ (i : Nat) (o : MO), S[i]? = some o → σ'[i]? = some o
        else ∃ ad' t' fr' σ', XaL fr σ = .ok (.next, fr') σ' ∧ Lh S rm n dj ad' t' σ' ∧ Vw (s.put rm ((live n s en).getD (pick ds t.tk (live n s en).length).1 0) d) en t' ∧ Still rm t' ∧ t'.tk = (pick ds t.tk (live n s en).length).2 ∧ K9 fr' ad' pj := by
  have n3 := B.n3
  generalize hr : XaL fr σ = r
  have hl := v.live (n := n)
  obtain ⟨σ1, e1, h1⟩ := XeE h (show n < 100 by lia) B.hd (by have := B.ld; lia) (by rw [hl]; exact hz)
  rw [hl] at e1 h1
  have hm : (live n s en).getD (pick ds t.tk (live n s en).length).1 0 ∈ live n s en := by
    have := XaG (ds := ds) (tk := t.tk) (List.length_pos_iff.mpr hz)
    rw [List.getD_eq_getElem?_getD, List.getElem?_eq_getElem this]
    exact List.getElem_mem this
  obtain ⟨hi, hnw, hen⟩ := Xai hm
  generalize (live n s en).getD (pick ds t.tk (live n s en).length).1 0 = i at *
  generalize (pick ds t.tk (live n s en).length).2 = tk' at *
  have k1 := (k.set 60 (Ur ad i) rfl)
  have l1 : (fset fr 60 (Ur ad i)).lookup 60 = some (Ur ad i) := by rw [Xh, if_pos rfl]
  have v1 : Vw s en { t with tk := tk', here := some i } := v.eqv rfl rfl rfl rfl rfl rfl rfl rfl rfl rfl rfl
  have st1 : Still rm { t with tk := tk', here := some i } := st.eqv rfl rfl rfl rfl rfl rfl rfl rfl
  generalize ht1 : ({ t with tk := tk', here := some i } : Ld) = t1 at h1 v1 st1
  have hh1 : t1.here = some i := by rw [← ht1]
  have htk1 : t1.tk = tk' := by rw [← ht1]
  have hdn : t1.dn i = s.dn i := by rw [v1.dn]
  have oP : σ1[pj]? = some (.list ((List.range n).map fun i => .ref (pr i))) := h1.old _ _ B.hp
  have oPi : σ1[pr i]? = some (.list ((P i).map Dd.mv)) := h1.old _ _ (B.hi i hi)
  have gp := Zr oP (j := i) (v := .ref (pr i)) (by simp [hi]) (by lia)
  have gl : ZN [.ref (pr i)] σ1 = .ok (.int ((P i).length : Nat)) σ1 := by
    have := Xa4 oPi (by have := B.l4 i; simp; lia)
    rw [List.length_map] at this; exact this
  have isn : ∀ σ : Sg, oIs (Ur ad i) .none σ = .ok (.bool false) σ := fun _ => rfl
  have e0 : Ua .scheduler none Wj (Xc 67) Xi fr σ = .ok (Ur ad i) σ1 := by simp only [Xk, Xj, XA, YJ, Yu, k.h4, Xcx h, e1]
  unfold XaL at hr
  simp only [Xw, Yj, e0, Yk, XQ, XJ, XD] at hr
  generalize fset fr 60 (Ur ad i) = fr1 at k1 l1 hr
  simp only [Xk, Xj, Xm, XE, Xt, Ym, XF, Xz, XY, XR, Yh, Ys, Xw, XD, XG, l1, isn, k1.h3] at hr
  simp only [Ur, h1.r_num hi, h1.g_dn hi (show n < 100 by lia), gp, gl, Xag, Xk, Xj, XE, Xt, Ym, Xz, XA, Xx, Xv, Xn, Yh, Ys, XU, XT, l1, k1.h6] at hr
  rw [hdn] at hr
  cases hd : (P i)[s.dn i]? with
  | none =>
    have := List.getElem?_eq_none_iff.mp hd
    have hq : ((s.dn i : Int) == ((P i).length : Int)) = true := by
      have := w.dl i
      simp; lia
    refine @cps _ fun Γ γ => ?_
    obtain ⟨σ2, z, e2, h2⟩ := XiP h1 hi hh1
    refine γ ?_; clear γ Γ
    rw [hq] at hr
    simp only [Xk, Xj, XZ, XA, YJ, Yu, YK, YD, Xau, Xw, XD, Za, e2, Xcx h1, k1.h4] at hr
    exact ⟨_, _, _, hr.symm, h2, v1.endd hnw z, st1.eqv rfl rfl rfl rfl rfl rfl rfl rfl, htk1, k1⟩
  | some d =>
    have hlt := (List.getElem?_eq_some_iff.mp hd).1
    have hq : ((s.dn i : Int) == ((P i).length : Int)) = false := by
      simp; lia
    rw [hq] at hr
    have gd : Zx (.ref (pr i)) (.int (s.dn i : Int)) σ1 = .ok d.mv σ1 :=
      Zr oPi (by simp [hd]) (by have := B.l4 i; lia)
    have hmw : i ∉ t1.mw := fun hm => hnw ((Xcm (fun r g e => by rw [XdX e]) s.ws).subset (v1.mw ▸ hm))
    refine @cps _ fun Γ γ => ?_
    obtain ⟨σ2, ad2, e2, sm, h2⟩ := Xg8 h1 (v1.bd w) d hmw
    obtain ⟨fit, ag⟩ := sim (v1.qt w hnw hen) st1 d (some ((t1.rows rm i d).1.map LRow.mv))
    refine γ ?_; clear γ Γ
    have pl := XoV v1 w hp d hnw hen hi hlt
    have k2 := ((k1.same sm).k8 (by rw [l1]; show some (MV.ref (ad (.go i))) = some (.ref (ad2 (.go i))); rw [sm _ rfl]) : K8 fr1 ad2 i pj)
    have rl := XiW (rows := (t1.rows rm i d).1) (show n < 100 by lia) hi (t1.rows rm i d).1.length 0 _ σ2 fr1 (by simp) h2 k2 ((Xic d).2.trans hh1) rfl fit
    have tat := h2.at_ .tmp (.list ((t1.rows rm i d).1.map LRow.mv)) rfl
    simp only [XR, Xw, XD, XG] at hr
    simp only [Xaj, Xk, Xj, XE, Xt, Ym, XA, Xx, Xv, Xn, Yh, Ys, XU, XT, k1.h5, l1, Ur, h1.r_num hi, k1.h6, gp, k1.h3, h1.g_dn hi (show n < 100 by lia), hdn, gd, e2, R.bind, tat, List.length_map] at hr
    rw [List.drop_zero] at rl
    dsimp only
    cases hput : XaK rm t1 i d with
    | none =>
      rw [hput] at ag pl
      simp only at ag pl
      rw [if_pos pl]
      rw [ag] at rl
      refine @cps _ fun Γ γ => ?_
      obtain ⟨z, fr', σ', e, ho⟩ := rl
      refine γ ?_; clear γ Γ
      rw [e] at hr
      exact ⟨_, _, _, _, _, hr.symm, ho⟩
    | some t' =>
      rw [hput] at ag pl
      simp only at ag pl
      obtain ⟨p1, p2, p3⟩ := pl
      rw [if_neg (by rw [p1]; simp)]
      obtain ⟨t2, a1, a2⟩ := ag
      rw [a1] at rl
      refine @cps _ fun Γ γ => ?_
      obtain ⟨fr', σ', e, h3, k3⟩ := rl
      refine γ ?_; clear γ Γ
      rw [e] at hr
      have htk : t2.tk = tk' := (XmZ _ _ a1).trans ((Xic d).1.trans htk1)
      exact ⟨ad2, t2, fr', σ', hr.symm, h3, p2.eqv a2.k a2.x a2.ow a2.cn a2.vals a2.dn a2.sd a2.rc a2.mw a2.gw a2.st, p3.eqv a2.k a2.x a2.ow a2.cn a2.sd a2.rc a2.mw a2.gw, htk, k3.k9⟩
end
end
section
section
variable {S σ : Sg} {rm : Bool → Int} {n dj : Nat} {ad ad' : Ad → Nat} {t t' : Ld} {fr : Fr} {i pj : Nat} {s : Ps} {en : List Nat} {L : Nat → Nat}
theorem Xj1 {P : Nat → List Dd} {ds : List Nat} {j : Nat} {pr : Nat → Nat} (B : Bs S n P ds rm pj j dj pr) (f : Nat) : ∀ (k : Nat) (fr : Fr) (ad : Ad → Nat) (en : List Nat) (s : Ps) (t : Ld) (σ : Sg), f + k = 40 → Lh S rm n dj ad t σ → Vw s en t → (s.W rm n fun i => (P i).length) → Still rm t → s.pn = false → K9 fr ad pj → run rm n P ds f s en t.tk ≠ .none →
    XnQ S rm n dj pj (loopI (nxR 40) (XC 75) XaL (f + 1) k fr σ) (run rm n P ds f s en t.tk) := by
  induction f with
  | zero =>
    intro k fr ad en s t σ hf h v w st hp kk hn
    exact absurd rfl hn
  | succ f ih =>
    intro k fr ad en s t σ hf h v w st hp kk hn
    have k1 := kk.set 75 (.int k) rfl
    rw [Xh1] at hn ⊢
    rw [UW]
    simp only [nxR, show ((k : Int) < 40) from by lia, if_true, XC, R.bind]
    by_cases hz : live n s en = []
    · rw [if_pos hz]
      refine @cps _ fun Γ γ => ?_
      obtain ⟨fr', σ', e, h', k'⟩ := Xej B h v w k1 hz
      refine γ ?_; clear γ Γ
      rw [e]
      exact ⟨ad, t, en, fr', σ', rfl, h', v, k', hz⟩
    · rw [if_neg hz] at hn ⊢
      have it := Xi0 B h v w st hp k1 hz
      have hm : (live n s en).getD (pick ds t.tk (live n s en).length).1 0 ∈ live n s en := by
        have := XaG (ds := ds) (tk := t.tk) (List.length_pos_iff.mpr hz)
        rw [List.getD_eq_getElem?_getD, List.getElem?_eq_getElem this]
        exact List.getElem_mem this
      obtain ⟨hi, hnw, _⟩ := Xai hm
      simp only at hn ⊢
      generalize (live n s en).getD (pick ds t.tk (live n s en).length).1 0 = i at *
      generalize (pick ds t.tk (live n s en).length).2 = tk' at *
      cases hd : (P i)[s.dn i]? with
      | none =>
        rw [hd] at it hn
        simp only at it hn ⊢
        refine @cps _ fun Γ γ => ?_
        obtain ⟨t', fr', σ', e, h', v', st', htk, k'⟩ := it
        refine γ ?_; clear γ Γ
        subst htk
        rw [e]
        exact ih (k + 1) fr' ad _ s t' σ' (by lia) h' v' w st' hp k' hn
      | some d =>
        rw [hd] at it hn
        simp only at it hn ⊢
        split at it
        · rename_i hpn
          rw [if_pos hpn]
          refine @cps _ fun Γ γ => ?_
          obtain ⟨a, b, z, fr', σ', e, ho⟩ := it
          refine γ ?_; clear γ Γ
          rw [e]
          exact ⟨a, b, z, fr', σ', rfl, ho⟩
        · rename_i hpn
          rw [if_neg hpn] at hn ⊢
          refine @cps _ fun Γ γ => ?_
          obtain ⟨ad', t', fr', σ', e, h', v', st', htk, k'⟩ := it
          refine γ ?_; clear γ Γ
          subst htk
          rw [e]
          exact ih (k + 1) fr' ad' en _ t' σ' (by lia) h' v' (Xif w hnw hi (List.getElem?_eq_some_iff.mp hd).1) st' (by simpa using hpn) k' hn
noncomputable def Xjy : XM := (Xo (XaM (Zz (Ua .scheduler none UG (Xc 67) Xi) [] (XC 37) YU (XI (Xc 37) (Xd (.int 0)))) 26) (Xo (Zg (Yw (Xe (mIf (UI (Ua .scheduler none UU (Xc 67) Xi)) (Xd (.str 5)) (Xd (.str 12))) (Xe (Xc 24) (Xe (Xc 7) (Xe (Xc 26) Xi)))))) Xp))
noncomputable def blocked (n : Nat) (s : Ps) : List Nat := (List.range n).filter fun i => (s.ws.map Prod.fst).contains i
theorem Vw.blk (h : Vw s en t) : t.inSt n 1 = Mine.Internal.blocked n s := by
  unfold Ld.inSt Mine.Internal.blocked
  apply List.filter_congr
  intro i _
  rw [h.st i]
  by_cases h1 : i ∈ s.ws.map Prod.fst
  · rw [if_pos h1]; simp [Gs.sy, List.contains_eq_mem, h1]
  · rw [if_neg h1]
    have h1' : ¬ ∃ x, (i, x) ∈ s.ws := fun ⟨x, hx⟩ => h1 (List.mem_map_of_mem hx)
    split <;> simp [Gs.sy, List.contains_eq_mem, h1']
noncomputable def XmI (S : Sg) (n : Nat) (s : Ps) (v : MV) (σ : Sg) : Prop :=
  ∃ (a b z : Nat) (va : Nat → Nat), v = .tup [.str (WI s), .ref a, .ref b, .ref z] ∧ σ[a]? = some (.list ((List.range n).map fun i => .ref (va i))) ∧ (∀ i, i < n → σ[va i]? = some (.list ((s.vals i).map vMV))) ∧ σ[b]? = some (.list ((List.range n).map fun i => iMV (s.dn i))) ∧ σ[z]? = some (.list ((Mine.Internal.blocked n s).map iMV)) ∧ ∀ (i : Nat) (o : MO), S[i]? = some o → σ[i]? = some o
theorem XiU (hn3 : n ≤ 3) (h : Lh S rm n dj ad t σ) (v : Vw s en t) (w : s.W rm n L) (k : K9 fr ad pj) (hz : live n s en = []) :
    ∃ v fr' σ', Xjy fr σ = .ok (.ret v, fr') σ' ∧ XmI S n s v σ' := by
  unfold Xjy
  have e1 := Xd9 h (show n < 100 by lia)
  rw [v.blk] at e1
  have h1 := h.push (.list ((Mine.Internal.blocked n s).map fun i : Nat => .tup [.int (i : Int), t.wf i]))
  generalize hσ1 : σ ++ [MO.list ((Mine.Internal.blocked n s).map fun i : Nat => .tup [.int (i : Int), t.wf i])] = σ1 at e1 h1
  have a1 : σ1[σ.length]? = some (.list ((Mine.Internal.blocked n s).map fun i : Nat => .tup [.int (i : Int), t.wf i])) := by rw [← hσ1]; exact YC
  have bl : (Mine.Internal.blocked n s).length ≤ n := by
    have := List.length_filter_le (fun i => (s.ws.map Prod.fst).contains i) (List.range n)
    simpa [Mine.Internal.blocked] using this
  have c1 : Zz (Ua .scheduler none UG (Xc 67) Xi) [] (XC 37) YU (XI (Xc 37) (Xd (.int 0))) fr σ = .ok (.ref σ1.length) (σ1 ++ [.list (((Mine.Internal.blocked n s).filter fun _ => true).map iMV)]) :=
    e_compM (fun _ => True) (fun _ => true) iMV (by simp only [Xk, Xj, XA, YJ, Yu, k.h4, Xcx h, e1]) a1 (by lia) trivial (fun i _ fr acc _ => ⟨fset fr 37 _, trivial, rfl, rfl, fun _ => by simp only [Xk, Xj, Xm, XE, Xt, Ym, Xh, if_true, Vb]; rfl⟩)
  have hft : ((Mine.Internal.blocked n s).filter fun _ => true) = Mine.Internal.blocked n s := List.filter_eq_self.mpr (fun _ _ => rfl)
  rw [hft] at c1
  have h2 := h1.push (.list ((Mine.Internal.blocked n s).map iMV))
  obtain ⟨G, e3⟩ := Xhs h2 (show n < 100 by lia)
  rw [v.live, v.blk, hz] at e3
  have k2 := k.set 26 (.ref σ1.length) rfl
  have kw : (fset fr 26 (.ref σ1.length)).lookup 26 = some (.ref σ1.length) := by rw [Xh, if_pos rfl]
  rw [Xw, UD, c1, Vk, XD]
  generalize fset fr 26 (.ref σ1.length) = fr2 at k2 kw ⊢
  have h3 := h2.pushes G
  have a2 : (σ1 ++ [MO.list ((Mine.Internal.blocked n s).map iMV)] ++ G)[σ1.length]? = some (.list ((Mine.Internal.blocked n s).map iMV)) := by
    rw [List.append_assoc, List.getElem?_append_right (Nat.le_refl _)]; simp
  have hdead : (Mine.Internal.blocked n s).isEmpty = decide (s.ws = []) := by
    cases hw : s.ws with
    | nil => simp [Mine.Internal.blocked, hw]
    | cons r l =>
      have : r.1 ∈ Mine.Internal.blocked n s := by
        simp only [Mine.Internal.blocked, List.mem_filter, List.mem_range, hw]
        exact ⟨(w.lt r (by rw [hw]; simp)).1, by simp⟩
      have ne : Mine.Internal.blocked n s ≠ [] := fun e => by rw [e] at this; cases this
      simp [ne]
  refine ⟨.tup [.str (WI s), .ref (ad .vs), .ref (ad .dn), .ref σ1.length], fr2, _, ?_, ad .vs, ad .dn, σ1.length, fun i => ad (.v i), rfl, h3.at_vs, fun i hi => ?_, ?_, a2, h3.old⟩
  · cases hw : decide (s.ws = []) with
    | true =>
      have hw' := of_decide_eq_true hw
      rw [hdead, hw] at e3
      simp only [Xk, Xj, Xm, Xz, YS, Vf, XR, XA, Xx, Xv, Xn, Yx, Yy, YJ, Yu, Yg, Yn, Xw, Xq, el4, List.length_cons, List.length_nil, List.isEmpty_nil, Bool.not_true, k2.h4, Xcx h2, e3, k2.h2, k2.h3, kw, List.isEmpty_nil, Bool.and_false, Bool.not_true, WI, hw', if_true]
    | false =>
      have hw' := of_decide_eq_false hw
      rw [hdead, hw] at e3
      simp only [Xk, Xj, Xm, Xz, YS, Vf, XZ, XA, Xx, Xv, Xn, Yx, Yy, YJ, Yu, Yg, Yn, Xw, Xq, el4, List.length_cons, List.length_nil, List.isEmpty_nil, Bool.not_false, k2.h4, Xcx h2, e3, k2.h2, k2.h3, kw, List.isEmpty_nil, Bool.and_self, Bool.not_false, WI, hw', if_false]
  · rw [← v.vals]; exact h3.at_v hi
  · rw [← v.dn]; exact h3.at_dn
end
end
section
section
variable {σ G : Sg} {c : Cl} {f : Sy} {v : MV} {l : List (Sy × MV)}
theorem XgH {o : MO} : (σ ++ o :: G)[σ.length]? = some o := by simp
theorem XbN (hl : l.length < 100) : Zb c f v (.ref σ.length) (σ ++ .inst c l :: G) = .ok () (σ ++ .inst c (fset l f v) :: G) := by
  rw [UV XgH hl, List.set_append_right _ _ (Nat.le_refl _), Nat.sub_self, List.set_cons_zero]
theorem f1u {a : MV} {x : Sy} {m : XM} {σ : Sg} : ZU [x] [] m [a] σ = Xc9 (m [(x, a)] σ) := f1
theorem Xn9 : Wo .waitgroup Un [] σ = .ok (.ref σ.length) (σ ++ [.inst .waitgroup [(4, .int 0), (41, .ref (σ.length + 1))], .list []]) := by
  rw [Vz]
  unfold Un
  rw [f1]
  unfold Vs
  simp only [Xk, Xj, Xm, XA, Yd, Yf, VC, YA, Yj, Yk, XJ, YB, YF, YG, Xw, XD, XG, Yz, Ya, Zl, Sy.eqb, Fin.reduceBEq, cond_true, cond_false, el0, List.length_nil, XbN, List.append_assoc, List.cons_append, List.nil_append, List.length_append, List.length_cons, Nat.zero_add, Nat.reduceLT]
theorem Xn3 : Wo .mutex Vc [] σ = .ok (.ref σ.length) (σ ++ [.inst .mutex [(13, .none), (41, .ref (σ.length + 1))], .list []]) := by
  rw [Vz]
  unfold Vc
  rw [f1]
  unfold Wp
  simp only [Xk, Xj, Xm, XA, Yd, Yf, VC, YA, Yj, Yk, XJ, YB, YF, YG, Xw, XD, XG, Yz, Ya, Zl, Sy.eqb, Fin.reduceBEq, cond_true, cond_false, el0, List.length_nil, XbN, List.append_assoc, List.cons_append, List.nil_append, List.length_append, List.length_cons, Nat.zero_add, Nat.reduceLT]
theorem XkL {r : MV} : Wo .channel ZO [r] σ = .ok (.ref σ.length) (σ ++ [.inst .channel [(36, r), (30, .ref (σ.length + 1)), (38, .ref (σ.length + 2)), (35, .ref (σ.length + 3)), (3, .bool false)], .list [], .list [], .list []]) := by
  rw [Vz]
  unfold ZO
  rw [f2]
  unfold VO
  simp only [Xk, Xj, Xm, XA, Yd, Yf, VC, YA, Yj, Yk, XJ, YB, YF, YG, Xw, XD, XG, Yz, Ya, Zl, Sy.eqb, Fin.reduceBEq, cond_true, cond_false, el0, List.length_nil, XbN, List.append_assoc, List.cons_append, List.nil_append, List.length_append, List.length_cons, Nat.zero_add, Nat.reduceAdd, Nat.reduceLT]
theorem Xma {r : MV} : Wo .choices Uj [r] σ = .ok (.ref σ.length) (σ ++ [.inst .choices [(37, r), (40, .int 0)]]) := by
  rw [Vz]
  unfold Uj
  rw [f2]
  unfold VQ
  simp only [Xk, Xj, Xm, VC, YA, Yj, Yk, XJ, YB, YF, YG, Xw, XD, XG, Yz, Ya, Zl, Sy.eqb, Fin.reduceBEq, cond_true, cond_false, List.length_nil, XbN, List.length_cons, Nat.zero_add, Nat.reduceLT]
theorem XlD {r : MV} : Wo .scheduler ZP [r] σ = .ok (.ref σ.length) (σ ++ [.inst .scheduler [(31, r), (28, .ref (σ.length + 1)), (33, .none)], .list []]) := by
  rw [Vz]
  unfold ZP
  rw [f2]
  unfold Vu
  simp only [Xk, Xj, Xm, XA, Yd, Yf, VC, YA, Yj, Yk, XJ, YB, YF, YG, Xw, XD, XG, Yz, Ya, Zl, Sy.eqb, Fin.reduceBEq, cond_true, cond_false, el0, List.length_nil, XbN, List.append_assoc, List.cons_append, List.nil_append, List.length_append, List.length_cons, Nat.zero_add, Nat.reduceAdd, Nat.reduceLT]
theorem Xoe {r : MV} : Wo .goroutine Ul [r] σ = .ok (.ref σ.length) (σ ++ [.inst .goroutine [(34, r), (39, .str 15), (42, .none), (32, .ref (σ.length + 1)), (29, .none)], .list []]) := by
  rw [Vz]
  unfold Ul
  rw [f2]
  unfold Vp
  simp only [Xk, Xj, Xm, XA, Yd, Yf, VC, YA, Yj, Yk, XJ, YB, YF, YG, Xw, XD, XG, Yz, Ya, Zl, Sy.eqb, Fin.reduceBEq, cond_true, cond_false, el0, List.length_nil, XbN, List.append_assoc, List.cons_append, List.nil_append, List.length_append, List.length_cons, Nat.zero_add, Nat.reduceAdd, Nat.reduceLT]
theorem Xh0 (h : l.lookup f = some v) : UF c f (.ref σ.length) (σ ++ .inst c l :: G) = .ok v (σ ++ .inst c l :: G) := ZV XgH h
theorem Xpx {w : MV} {c : Int} (hc : 1 ≤ c) : XbE [.ref σ.length, .int c] (σ ++ .inst .waitgroup [(4, .int 0), (41, w)] :: G) = .ok (.ref (σ ++ MO.inst .waitgroup [(4, .int c), (41, w)] :: G).length) (σ ++ .inst .waitgroup [(4, .int c), (41, w)] :: G ++ [.list []]) := by
  unfold XbE
  rw [f2]
  unfold XdG
  have r1 : UF .waitgroup 4 (.ref σ.length) (σ ++ .inst .waitgroup [(4, .int 0), (41, w)] :: G) = .ok (.int 0) _ := Xh0 rfl
  have r2 : UF .waitgroup 4 (.ref σ.length) (σ ++ .inst .waitgroup [(4, .int c), (41, w)] :: G) = .ok (.int c) _ := Xh0 rfl
  have h1 : ¬ (0 + c < 0) := by lia
  have s1 : Zb .waitgroup 4 (.int c) (.ref σ.length) (σ ++ .inst .waitgroup [(4, .int 0), (41, w)] :: G) = .ok () (σ ++ .inst .waitgroup [(4, .int c), (41, w)] :: G) := XbN (by simp)
  have h2 : (c > 0) := by lia
  have z : (0 : Int) + c = c := by lia
  rw [z] at h1
  simp only [Xk, Xj, Xm, YT, XE, Xt, XF, Xz, XY, XZ, XR, XA, Yd, Yf, Yh, Ys, Xu, Yg, Yn, Yj, Yk, XJ, YB, YF, YG, Xw, XD, Xq, XG, Yz, Sy.eqb, Fin.reduceBEq, cond_true, cond_false, el0, List.length_nil, r1, add_int, z, lt_int, h1, decide_false, s1, r2, gt_int, h2, decide_true]
noncomputable def chO (b : Nat) (r : Int) : Sg := [.inst .channel [(36, .int r), (30, .ref (b + 1)), (38, .ref (b + 2)), (35, .ref (b + 3)), (3, .bool false)], .list [], .list [], .list []]
theorem Xos {fr : Fr} {j : Nat} {r0 r1 : Int} (h : fr.lookup 17 = some (.ref j)) (hj : σ[j]? = some (.list [.int r0, .int r1])) :
    Zz (Xc 17) [] (XC 36) YU (XB (Wo .channel ZO) (Xe (Xc 36) Xi)) fr σ = .ok (.ref σ.length) (σ ++ .list [.ref (σ.length + 1), .ref (σ.length + 5)] :: (chO (σ.length + 1) r0 ++ chO (σ.length + 5) r1)) := by
  unfold Zz
  simp only [Xk, Xj, h, R.bind, hj, List.length_cons, List.length_nil]
  rw [Uu]
  have j1 : ∀ G, (σ ++ G)[j]? = some (.list [.int r0, .int r1]) := fun G => by rw [List.getElem?_append_left (Uf hj)]; exact hj
  have n1 := XkL (σ := σ ++ [.list []]) (r := .int r0)
  have n2 := XkL (σ := σ ++ .list [.ref (σ.length + 1)] :: chO (σ.length + 1) r0) (r := .int r1)
  have l1 : (σ ++ [MO.list []]).length = σ.length + 1 := by simp
  have l2 : (σ ++ MO.list [.ref (σ.length + 1)] :: chO (σ.length + 1) r0).length = σ.length + 5 := by simp [chO]
  rw [l1] at n1
  rw [l2] at n2
  have p1 : Vo σ.length (.ref (σ.length + 1)) (σ ++ [MO.list []] ++ chO (σ.length + 1) r0) = .ok () (σ ++ .list [.ref (σ.length + 1)] :: chO (σ.length + 1) r0) := by
    rw [List.append_assoc]
    simp only [Vo, List.cons_append, List.nil_append, XgH]
    rw [UY (by simp), List.set_append_right _ _ (Nat.le_refl _), Nat.sub_self, List.set_cons_zero]
  have p2 : Vo σ.length (.ref (σ.length + 5)) (σ ++ MO.list [.ref (σ.length + 1)] :: chO (σ.length + 1) r0 ++ chO (σ.length + 5) r1) = .ok () (σ ++ .list [.ref (σ.length + 1), .ref (σ.length + 5)] :: (chO (σ.length + 1) r0 ++ chO (σ.length + 5) r1)) := by
    rw [List.append_assoc]
    simp only [Vo, List.cons_append, List.nil_append, XgH]
    rw [UY (by simp), List.set_append_right _ _ (Nat.le_refl _), Nat.sub_self, List.set_cons_zero]
  have n1' : Wo .channel ZO [.int r0] (σ ++ [.list []]) = .ok (.ref (σ.length + 1)) (σ ++ [.list []] ++ chO (σ.length + 1) r0) := n1
  have n2' : Wo .channel ZO [.int r1] (σ ++ .list [.ref (σ.length + 1)] :: chO (σ.length + 1) r0) = .ok (.ref (σ.length + 5)) (σ ++ .list [.ref (σ.length + 1)] :: chO (σ.length + 1) r0 ++ chO (σ.length + 5) r1) := n2
  simp only [nxL, j1, List.getElem?_cons_zero, XC, Zf, R.bind, YU, if_true, Xk, Xj, XA, Xx, Xv, Xn, XU, XT, Xh, n1', p1]
  rw [Uu]
  simp only [nxL, j1, Nat.zero_add, List.getElem?_cons_succ, List.getElem?_cons_zero, XC, Zf, R.bind, YU, if_true, Xk, Xj, XA, Xx, Xv, Xn, XU, XT, Xh, n2', p2]
  rw [Uu]
  simp only [nxL, j1, Nat.reduceAdd, List.getElem?_cons_succ, List.getElem?_nil]
noncomputable def wdL (b : Nat) (rm : Bool → Int) (n : Nat) (c : Int) : Sg :=
  .inst .waitgroup [(4, .int c), (41, .ref (b + 1))] :: .list [] :: .list [] :: .list [.ref (b + 4), .ref (b + 8)] :: (chO (b + 4) (rm false) ++ chO (b + 8) (rm true) ++
    .inst .mutex [(13, .none), (41, .ref (b + 13))] :: .list [] :: (Wt (b + 14) n ++ [.list [.int 0], .list (List.replicate n (.int 0)), .list [.ref (b + 3), .ref (b + 12), .ref b, .ref (b + 14), .ref (b + 16 + n)]]))
theorem Xmq {S : Sg} {j n : Nat} {rm : Bool → Int} {c : Int} (hc : 1 ≤ c) (hn : n ≤ 3) (hj : S[j]? = some (.list [.int (rm false), .int (rm true)])) :
    Wf [.ref j, .int n, .int c] S = .ok (.ref (S.length + 17 + n)) (S ++ wdL S.length rm n c) := by
  unfold Wf
  rw [f3]
  unfold Xas
  have e1 : YE (XB (Wo .waitgroup Un) Xi) (XC 54) [(17, .ref j), (57, .int n), (4, .int c)] S = .ok (.next, [(17, .ref j), (57, .int n), (4, .int c), (54, .ref S.length)]) (S ++ [.inst .waitgroup [(4, .int 0), (41, .ref (S.length + 1))], .list []]) := by
    simp only [Yj, XU, XA, XT, Xn9, Yk, XQ, XJ]
    rfl
  obtain ⟨fr, hfr⟩ : ∃ fr : Fr, fr = [(17, .ref j), (57, .int n), (4, .int c), (54, .ref S.length)] := ⟨_, rfl⟩
  rw [← hfr] at e1
  have l1 : fr.lookup 17 = some (.ref j) := by rw [hfr]; rfl
  have l2 : fr.lookup 57 = some (.int n) := by rw [hfr]; rfl
  have l3 : fr.lookup 4 = some (.int c) := by rw [hfr]; rfl
  have l4 : fr.lookup 54 = some (.ref S.length) := by rw [hfr]; rfl
  obtain ⟨σ1, h1⟩ : ∃ σ1 : Sg, σ1 = S ++ [.inst .waitgroup [(4, .int c), (41, .ref (S.length + 1))], .list []] ++ [.list []] := ⟨_, rfl⟩
  have e2 : Zd (Ua .waitgroup none XbE (Xc 54) (Xe (Xc 4) Xi)) fr (S ++ [.inst .waitgroup [(4, .int 0), (41, .ref (S.length + 1))], .list []]) = .ok (.next, fr) σ1 := by
    have km : ∀ (m : List MV → Sg → R MV) (a : EMs) (fr : Fr) (σ : Sg), σ = (S ++ [.inst .waitgroup [(4, .int 0), (41, .ref (S.length + 1))], .list []]) → Xam .waitgroup none m a fr (.ok (.ref S.length) σ) = VX m S.length (a fr σ) := fun m a fr σ e => by subst e; exact WN XgH rfl
    simp only [Xk, Xj, XA, Xx, Xv, Xn, YJ, Yu, YK, YD, l4, km _ _ _ _ rfl, l3, Xpx hc]
    rw [h1]
  have z1 : σ1.length = S.length + 3 := by rw [h1]; simp
  have c1 := Xos (σ := σ1) (r0 := rm false) (r1 := rm true) l1 (by rw [h1, List.append_assoc, List.getElem?_append_left (Uf hj)]; exact hj)
  obtain ⟨σ2, h2⟩ : ∃ σ2 : Sg, σ2 = σ1 ++ .list [.ref (σ1.length + 1), .ref (σ1.length + 5)] :: (chO (σ1.length + 1) (rm false) ++ chO (σ1.length + 5) (rm true)) := ⟨_, rfl⟩
  have z2 : σ2.length = S.length + 12 := by rw [h2]; simp [z1, chO]
  have c2 : XB (Wo .mutex Vc) Xi fr σ2 = _ := Xn3
  obtain ⟨σ3, h3⟩ : ∃ σ3 : Sg, σ3 = σ2 ++ [.inst .mutex [(13, .none), (41, .ref (σ2.length + 1))], .list []] := ⟨_, rfl⟩
  have z3 : σ3.length = S.length + 14 := by rw [h3]; simp [z2]
  have c4 := Xkl (x := 34) (σ := σ3) (m := n) (fr := fr) (e := Xc 57) (by lia) (by simp only [Xk, l2, Xj])
  obtain ⟨σ4, h4⟩ : ∃ σ4 : Sg, σ4 = σ3 ++ Wt σ3.length n := ⟨_, rfl⟩
  have z4 : σ4.length = S.length + 15 + n := by rw [h4]; simp [z3, Xcs]; lia
  have c5 : YI WG (XO (Xe (Xd (.int 0)) Xi)) (Xc 57) fr σ4 = .ok (.ref (σ4.length + 1)) (σ4 ++ [.list [.int 0]] ++ [.list (List.replicate n (.int 0))]) := by
    simp only [YT, Yd, Xx, Xm, Xv, XA, Xn, Yf, List.length_cons, List.length_nil, el1, XE, Xk, l2, Xj, Xt, XoT hn]
  obtain ⟨σ5, h5⟩ : ∃ σ5 : Sg, σ5 = σ4 ++ [.list [.int 0]] ++ [.list (List.replicate n (.int 0))] := ⟨_, rfl⟩
  have z5 : σ5.length = S.length + 17 + n := by rw [h5]; simp [z4]; lia
  rw [← h2] at c1
  rw [← h3] at c2
  rw [← h4] at c4
  rw [← h5] at c5
  rw [Xw, e1, XD, Xw, e2, XD, Xw, Yg, Yd]
  rw [UZ c1 (UZ c2 (UZ (x := .ref S.length) (σ1 := σ3) (by simp only [Xk, l4, Xj]) (UZ c4 (UZ c5 (XA (σ := σ5))))))]
  simp only [Yf, List.length_cons, List.length_nil, el5, Yn, Xq, Xu]
  rw [z5]
  congr 1
  rw [h5, h4, z3, h3, z2, h2, z1, h1]
  unfold wdL
  simp
  simp [chO, Xcs]
  lia
end
end
noncomputable def goO (z k : Nat) : Sg := [.inst .goroutine [(34, .int k), (39, .str 15), (42, .none), (32, .ref (z + 3 + 2 * k)), (29, .none)], .list []]
noncomputable def goS (z : Nat) : Nat → Sg
  | 0 => []
  | k + 1 => goS z k ++ goO z k
theorem XoC {z k : Nat} : goS z (k + 1) = goS z k ++ goO z k := rfl
noncomputable def spL (z k : Nat) : List MV := (List.range k).map fun i => MV.ref (z + 2 + 2 * i)
noncomputable def XbS (z : Nat) : Nat → MV
  | 0 => .none
  | _ + 1 => .ref (z + 2)
noncomputable def spG (z k : Nat) : Sg := .inst .scheduler [(31, .ref (z - 1)), (28, .ref (z + 1)), (33, XbS z k)] :: .list (spL z k) :: goS z k
theorem Xik {z : Nat} : ∀ k, (goS z k).length = 2 * k
  | 0 => rfl
  | k + 1 => by rw [XoC, List.length_append, Xik k]; simp [goO]; lia
theorem Xfq {z k : Nat} : (spL z k).length = k := by simp [spL]
theorem XnN {σ : Sg} {i : Nat} : oIs (.ref i) .none σ = .ok (.bool false) σ := rfl
theorem Xhh {T : Sg} {k : Nat} (hk : k < 100) : Xbd [.ref T.length] (T ++ spG T.length k) = .ok (.ref (T.length + 2 + 2 * k)) (T ++ spG T.length (k + 1)) := by
  unfold Xbd
  rw [f1]
  unfold Xdz
  have a0 : ∀ X, (T ++ spG T.length k ++ X)[T.length]? = some (.inst .scheduler [(31, .ref (T.length - 1)), (28, .ref (T.length + 1)), (33, XbS T.length k)]) := fun X => by
    rw [List.append_assoc, List.getElem?_append_right (Nat.le_refl _), Nat.sub_self]; rfl
  have a1 : ∀ X, (T ++ spG T.length k ++ X)[T.length + 1]? = some (.list (spL T.length k)) := fun X => by
    rw [List.append_assoc, Ux]; rfl
  have b0 := a0 []
  have b1 := a1 []
  rw [List.append_nil] at b0 b1
  have r1 : UF .scheduler 28 (.ref T.length) (T ++ spG T.length k) = .ok (.ref (T.length + 1)) _ := ZV b0 rfl
  have r2 := Xa4 b1 (by rw [Xfq]; lia)
  rw [Xfq] at r2
  have hL : (T ++ spG T.length k).length = T.length + 2 + 2 * k := by simp [spG, Xik]; lia
  have r3 := Xoe (σ := T ++ spG T.length k) (r := .int k)
  rw [hL] at r3
  obtain ⟨σ1, h1⟩ : ∃ σ1, σ1 = T ++ spG T.length k ++ goO T.length k := ⟨_, rfl⟩
  have r3' : Wo .goroutine Ul [.int k] (T ++ spG T.length k) = .ok (.ref (T.length + 2 + 2 * k)) σ1 := by
    rw [r3, h1]
    unfold goO
    rw [show T.length + 2 + 2 * k + 1 = T.length + 3 + 2 * k by lia]
  have c0 := a0 (goO T.length k)
  have c1 := a1 (goO T.length k)
  rw [← h1] at c0 c1
  have r4 : UF .scheduler 28 (.ref T.length) σ1 = .ok (.ref (T.length + 1)) _ := ZV c0 rfl
  have r5 : Yt (T.length + 1) (spL T.length k) [.ref (T.length + 2 + 2 * k)] σ1 = _ := XbI (by rw [Xfq]; lia)
  have q1 : σ1 = T ++ (.inst .scheduler [(31, .ref (T.length - 1)), (28, .ref (T.length + 1)), (33, XbS T.length k)] :: .list (spL T.length k) :: (goS T.length k ++ goO T.length k)) := by
    rw [h1]; simp [spG]
  have q2 : spL T.length k ++ [.ref (T.length + 2 + 2 * k)] = spL T.length (k + 1) := by
    unfold spL; rw [List.range_succ, List.map_append]; rfl
  obtain ⟨σ2, h2⟩ : ∃ σ2, σ2 = σ1.set (T.length + 1) (.list (spL T.length k ++ [.ref (T.length + 2 + 2 * k)])) := ⟨_, rfl⟩
  have h2' : σ2 = T ++ (.inst .scheduler [(31, .ref (T.length - 1)), (28, .ref (T.length + 1)), (33, XbS T.length k)] :: .list (spL T.length (k + 1)) :: (goS T.length k ++ goO T.length k)) := by
    rw [h2, q1, q2, WT]; rfl
  rw [← h2] at r5
  have d0 : σ2[T.length]? = some (.inst .scheduler [(31, .ref (T.length - 1)), (28, .ref (T.length + 1)), (33, XbS T.length k)]) := by
    rw [h2', List.getElem?_append_right (Nat.le_refl _), Nat.sub_self]; rfl
  have r6 : UF .scheduler 33 (.ref T.length) σ2 = .ok (XbS T.length k) _ := ZV d0 rfl
  cases k with
  | zero =>
    have s1 : Zb .scheduler 33 (.ref (T.length + 2 + 2 * 0)) (.ref T.length) σ2 = .ok () (T ++ spG T.length 1) := by
      rw [UV d0 (by simp), h2', List.set_append_right _ _ (Nat.le_refl _), Nat.sub_self]; rfl
    simp only [XbS] at r6
    simp only [Xk, Xj, Xm, XE, Xt, XF, Xz, XY, XZ, XA, Xx, Xv, Xn, Yh, Ys, XU, XT, Xu, UH, Yg, Yn, YK, YD, Yj, Yk, XJ, XQ, YB, YF, YG, Xw, XD, Xq, XG, Yz, Ya, Zl, Sy.eqb, Fin.reduceBEq, cond_true, cond_false, r1, r2, r3', r4, Vv c1, Uh c1, r5, r6, Xfn, s1]
  | succ k =>
    simp only [XbS] at r6 h2'
    simp only [Xk, Xj, Xm, XE, Xt, XF, Xz, XY, XR, XA, Xx, Xv, Xn, Yh, Ys, XU, XT, Xu, UH, Yg, Yn, YK, YD, Yj, Yk, XJ, XQ, Xw, XD, Xq, XG, Yz, Ya, Zl, Sy.eqb, Fin.reduceBEq, cond_true, cond_false, r1, r2, r3', r4, Vv c1, Uh c1, r5, r6, XnN]
    rw [h2']
    rfl
noncomputable def XkR : XM := (Xo (Zd (Ua .scheduler none Xbd (Xc 67) Xi)) Xp)
theorem Xhq {T : Sg} {pj n : Nat} {l : List MV} (hp : T[pj]? = some (.list l)) (hl : l.length = n) (hn : n < 100) (f : Nat) : ∀ (k : Nat) (fr : Fr), f + k = n → fr.lookup 67 = some (.ref T.length) →
    ∃ fr', loopI (nxL pj) (XC 64) XkR (f + 1) k fr (T ++ spG T.length k) = .ok (.next, fr') (T ++ spG T.length n) ∧ ∀ x, x ≠ 64 → fr'.lookup x = fr.lookup x := by
  induction f with
  | zero =>
    intro k fr hf hs
    have hp' : (T ++ spG T.length k)[pj]? = some (.list l) := by rw [List.getElem?_append_left (Uf hp)]; exact hp
    refine ⟨fr, ?_, fun _ _ => rfl⟩
    rw [UW]
    simp only [nxL, hp']
    rw [List.getElem?_eq_none (by lia)]
    have : k = n := by lia
    rw [this]
  | succ f ih =>
    intro k fr hf hs
    have hp' : (T ++ spG T.length k)[pj]? = some (.list l) := by rw [List.getElem?_append_left (Uf hp)]; exact hp
    have hk : k < l.length := by lia
    have a0 : (T ++ spG T.length k)[T.length]? = some (.inst .scheduler [(31, .ref (T.length - 1)), (28, .ref (T.length + 1)), (33, XbS T.length k)]) := by
      rw [List.getElem?_append_right (Nat.le_refl _), Nat.sub_self]; rfl
    have hs1 : (fset fr 64 l[k]).lookup 67 = some (.ref T.length) := by rw [Xh, if_neg (by decide)]; exact hs
    obtain ⟨fr', e, hx⟩ := ih (k + 1) (fset fr 64 l[k]) (by lia) hs1
    have sp := Xhh (T := T) (k := k) (by lia)
    refine ⟨fr', ?_, fun x hne => by rw [hx x hne, Xh, if_neg hne]⟩
    rw [UW]
    simp only [nxL, hp', List.getElem?_eq_getElem hk, XC, R.bind]
    have eb : XkR (fset fr 64 l[k]) (T ++ spG T.length k) = .ok (.next, fset fr 64 l[k]) (T ++ spG T.length (k + 1)) := by
      unfold XkR
      have km : ∀ (m : List MV → Sg → R MV) (a : EMs) (fr : Fr), Xam .scheduler none m a fr (.ok (.ref T.length) (T ++ spG T.length k)) = VX m T.length (a fr (T ++ spG T.length k)) := fun m a fr => WN a0 rfl
      simp only [Xk, Xj, XA, YJ, Yu, YK, YD, Xw, XD, XG, hs1, km, sp]
    rw [eb]
    simp only [Zf]
    exact e
noncomputable def ad0 (b n : Nat) : Ad → Nat
  | .grp => b
  | .gw => b + 1
  | .chs => b + 3
  | .ch c => b + 4 + (if c then 4 else 0)
  | .bf c => b + 5 + (if c then 4 else 0)
  | .sd c => b + 6 + (if c then 4 else 0)
  | .rc c => b + 7 + (if c then 4 else 0)
  | .mu => b + 12
  | .mw => b + 13
  | .vs => b + 14
  | .v i => b + 15 + i
  | .dn => b + 16 + n
  | .wd => b + 17 + n
  | .cho => b + 18 + n
  | .sch => b + 19 + n
  | .all => b + 20 + n
  | .go i => b + 21 + n + 2 * i
  | .tmp => b
noncomputable def t0 (b n : Nat) (c : Int) : Ld := { k := fun _ => [], sd := fun _ => [], rc := fun _ => [], x := fun _ => false, ow := none, mw := [], cn := c, gw := [], vals := fun _ => [], dn := fun _ => 0, st := fun _ => .ready, wf := fun _ => .none, fr := fun i => b + 22 + n + 2 * i, tk := 0, here := some 0, tmp := none }
noncomputable def tb (n k : Nat) : Option Ad := ([.grp, .gw, .tmp, .chs, .ch false, .bf false, .sd false, .rc false, .ch true, .bf true, .sd true, .rc true, .mu, .mw, .vs] ++ (List.range n).map .v ++ [.tmp, .dn, .wd, .cho, .sch, .all] ++ (List.range n).flatMap fun i => [.go i, .tmp])[k]?
noncomputable def XoE (dj : Nat) : MO := .inst .choices [(37, .ref dj), (40, .int 0)]
noncomputable def ldL (b : Nat) (rm : Bool → Int) (n dj : Nat) (c : Int) : Sg := wdL b rm n c ++ [XoE dj] ++ spG (b + 19 + n) n
noncomputable def At0 (b : Nat) (n : Nat) (L : Sg) (a : Ad) (o : MO) : Prop := ∃ k, ad0 b n a = b + k ∧ tb n k = some a ∧ L[k]? = some o
theorem Xeo {n i : Nat} {o o' : MO} (e : (if i < n then some o else none) = some o') : i < n := by
  cases Nat.lt_or_ge i n with
  | inl h => exact h
  | inr h => rw [if_neg (by lia)] at e; cases e
theorem Xor {b : Nat} {rm : Bool → Int} {dj : Nat} {c : Int} (a : Ad) (o : MO) (e : ob rm 1 dj (ad0 b 1) (t0 b 1 c) a = some o) : At0 b 1 (ldL b rm 1 dj c) a o := by
  cases a with
  | grp => exact ⟨0, rfl, rfl, e⟩
  | gw => exact ⟨1, rfl, rfl, e⟩
  | chs => exact ⟨3, rfl, rfl, e⟩
  | mu => exact ⟨12, rfl, rfl, e⟩
  | mw => exact ⟨13, rfl, rfl, e⟩
  | vs => exact ⟨14, rfl, rfl, e⟩
  | dn => exact ⟨17, rfl, rfl, e⟩
  | wd => exact ⟨18, rfl, rfl, e⟩
  | cho => exact ⟨19, rfl, rfl, e⟩
  | sch => exact ⟨20, rfl, rfl, e⟩
  | all => exact ⟨21, rfl, rfl, e⟩
  | ch c => cases c; exact ⟨4, rfl, rfl, e⟩; exact ⟨8, rfl, rfl, e⟩
  | bf c => cases c; exact ⟨5, rfl, rfl, e⟩; exact ⟨9, rfl, rfl, e⟩
  | sd c => cases c; exact ⟨6, rfl, rfl, e⟩; exact ⟨10, rfl, rfl, e⟩
  | rc c => cases c; exact ⟨7, rfl, rfl, e⟩; exact ⟨11, rfl, rfl, e⟩
  | tmp => cases e
  | v i =>
    have hi := Xeo e
    match i, hi with
    | 0, _ => exact ⟨15, rfl, rfl, e⟩
  | go i =>
    have hi := Xeo e
    match i, hi with
    | 0, _ => exact ⟨22, rfl, rfl, e⟩
theorem Xo3 {b : Nat} {rm : Bool → Int} {dj : Nat} {c : Int} (a : Ad) (o : MO) (e : ob rm 2 dj (ad0 b 2) (t0 b 2 c) a = some o) : At0 b 2 (ldL b rm 2 dj c) a o := by
  cases a with
  | grp => exact ⟨0, rfl, rfl, e⟩
  | gw => exact ⟨1, rfl, rfl, e⟩
  | chs => exact ⟨3, rfl, rfl, e⟩
  | mu => exact ⟨12, rfl, rfl, e⟩
  | mw => exact ⟨13, rfl, rfl, e⟩
  | vs => exact ⟨14, rfl, rfl, e⟩
  | dn => exact ⟨18, rfl, rfl, e⟩
  | wd => exact ⟨19, rfl, rfl, e⟩
  | cho => exact ⟨20, rfl, rfl, e⟩
  | sch => exact ⟨21, rfl, rfl, e⟩
  | all => exact ⟨22, rfl, rfl, e⟩
  | ch c => cases c; exact ⟨4, rfl, rfl, e⟩; exact ⟨8, rfl, rfl, e⟩
  | bf c => cases c; exact ⟨5, rfl, rfl, e⟩; exact ⟨9, rfl, rfl, e⟩
  | sd c => cases c; exact ⟨6, rfl, rfl, e⟩; exact ⟨10, rfl, rfl, e⟩
  | rc c => cases c; exact ⟨7, rfl, rfl, e⟩; exact ⟨11, rfl, rfl, e⟩
  | tmp => cases e
  | v i =>
    have hi := Xeo e
    match i, hi with
    | 0, _ => exact ⟨15, rfl, rfl, e⟩
    | 1, _ => exact ⟨16, rfl, rfl, e⟩
  | go i =>
    have hi := Xeo e
    match i, hi with
    | 0, _ => exact ⟨23, rfl, rfl, e⟩
    | 1, _ => exact ⟨25, rfl, rfl, e⟩
theorem Xot {b : Nat} {rm : Bool → Int} {dj : Nat} {c : Int} (a : Ad) (o : MO) (e : ob rm 3 dj (ad0 b 3) (t0 b 3 c) a = some o) : At0 b 3 (ldL b rm 3 dj c) a o := by
  cases a with
  | grp => exact ⟨0, rfl, rfl, e⟩
  | gw => exact ⟨1, rfl, rfl, e⟩
  | chs => exact ⟨3, rfl, rfl, e⟩
  | mu => exact ⟨12, rfl, rfl, e⟩
  | mw => exact ⟨13, rfl, rfl, e⟩
  | vs => exact ⟨14, rfl, rfl, e⟩
  | dn => exact ⟨19, rfl, rfl, e⟩
  | wd => exact ⟨20, rfl, rfl, e⟩
  | cho => exact ⟨21, rfl, rfl, e⟩
  | sch => exact ⟨22, rfl, rfl, e⟩
  | all => exact ⟨23, rfl, rfl, e⟩
  | ch c => cases c; exact ⟨4, rfl, rfl, e⟩; exact ⟨8, rfl, rfl, e⟩
  | bf c => cases c; exact ⟨5, rfl, rfl, e⟩; exact ⟨9, rfl, rfl, e⟩
  | sd c => cases c; exact ⟨6, rfl, rfl, e⟩; exact ⟨10, rfl, rfl, e⟩
  | rc c => cases c; exact ⟨7, rfl, rfl, e⟩; exact ⟨11, rfl, rfl, e⟩
  | tmp => cases e
  | v i =>
    have hi := Xeo e
    match i, hi with
    | 0, _ => exact ⟨15, rfl, rfl, e⟩
    | 1, _ => exact ⟨16, rfl, rfl, e⟩
    | 2, _ => exact ⟨17, rfl, rfl, e⟩
  | go i =>
    have hi := Xeo e
    match i, hi with
    | 0, _ => exact ⟨24, rfl, rfl, e⟩
    | 1, _ => exact ⟨26, rfl, rfl, e⟩
    | 2, _ => exact ⟨28, rfl, rfl, e⟩
theorem Lh0 {S : Sg} {rm : Bool → Int} {n dj : Nat} {c : Int} (h1 : 1 ≤ n) (h3 : n ≤ 3) : Lh S rm n dj (ad0 S.length n) (t0 S.length n c) (S ++ ldL S.length rm n dj c) := by
  have at0 : ∀ (a : Ad) (o : MO), ob rm n dj (ad0 S.length n) (t0 S.length n c) a = some o → At0 S.length n (ldL S.length rm n dj c) a o := by
    have : n = 1 ∨ n = 2 ∨ n = 3 := by lia
    rcases this with rfl | rfl | rfl
    · exact Xor
    · exact Xo3
    · exact Xot
  refine ⟨fun a o e => ?_, fun a a' h h' e => ?_, fun a h => ?_, fun i o e => by rw [List.getElem?_append_left (Uf e)]; exact e⟩
  · obtain ⟨k, h1, _, h2⟩ := at0 a o e
    rw [h1, Ux]; exact h2
  · obtain ⟨o, e1⟩ := Option.isSome_iff_exists.mp h
    refine @cps _ fun Γ γ => ?_
    obtain ⟨o', e2⟩ := Option.isSome_iff_exists.mp h'
    obtain ⟨k, h1, h2, _⟩ := at0 a o e1
    obtain ⟨k', h3, h4, _⟩ := at0 a' o' e2
    refine γ ?_; clear γ Γ
    rw [h1, h3] at e
    rw [Nat.add_left_cancel e] at h2
    exact Option.some.inj (h2.symm.trans h4)
  · cases a <;> simp only [ad0] <;> lia
section
noncomputable def Xpc (S : Sg) (n : Nat) : Oc → MV → Sg → Prop
  | .none, _, _ => False
  | .panic, v, σ => ∃ a b z, v = .tup [.str 14, .ref a, .ref b, .ref z] ∧ ∀ (i : Nat) (o : MO), S[i]? = some o → σ[i]? = some o
  | .fin s, v, σ => XmI S n s v σ
theorem Xfj {b n : Nat} {rm : Bool → Int} {c : Int} : (wdL b rm n c).length = 18 + n := by
  simp [wdL, chO, Xcs]; lia
theorem XoK {b n : Nat} {rm : Bool → Int} {c : Int} (h1 : 1 ≤ n) (h3 : n ≤ 3) : (wdL b rm n c)[17 + n]? = some (.list [.ref (b + 3), .ref (b + 12), .ref b, .ref (b + 14), .ref (b + 16 + n)]) := by
  have : n = 1 ∨ n = 2 ∨ n = 3 := by lia
  rcases this with rfl | rfl | rfl <;> rfl
section
variable {S : Sg} {j n : Nat} {rm : Bool → Int}
theorem Vw0 {b : Nat} {c : Int} : Vw (s0 c) [] (t0 b n c) := ⟨rfl, rfl, rfl, rfl, rfl, rfl, fun _ => rfl, fun _ => rfl, rfl, rfl, fun _ => rfl, fun _ h => by cases h⟩
theorem XmW {b : Nat} {c : Int} : Still rm (t0 b n c) := ⟨rfl, rfl, rfl⟩
theorem XmR {P : Nat → List Dd} {ds : List Nat} (f : Nat) : ∀ (s : Ps) (en : List Nat) (tk : Nat) (s' : Ps), (s.W rm n fun i => (P i).length) → run rm n P ds f s en tk = .fin s' → s'.W rm n fun i => (P i).length := by
  induction f with
  | zero =>
    intro s en tk s' w e
    cases e
  | succ f ih =>
    intro s en tk s' w e
    rw [Xh1] at e
    by_cases hz : live n s en = []
    · rw [if_pos hz] at e; cases e; exact w
    · rw [if_neg hz] at e
      have hm : (live n s en).getD (pick ds tk (live n s en).length).1 0 ∈ live n s en := by
        have := XaG (ds := ds) (tk := tk) (List.length_pos_iff.mpr hz)
        rw [List.getD_eq_getElem?_getD, List.getElem?_eq_getElem this]
        exact List.getElem_mem this
      obtain ⟨hi, hnw, _⟩ := Xai hm
      simp only at e
      generalize (live n s en).getD (pick ds tk (live n s en).length).1 0 = i at *
      generalize (pick ds tk (live n s en).length).2 = tk' at *
      cases hd : (P i)[s.dn i]? with
      | none => rw [hd] at e; exact ih _ _ _ _ w e
      | some d =>
        rw [hd] at e
        simp only at e
        split at e
        · cases e
        · exact ih _ _ _ _ (Xif w hnw hi (List.getElem?_eq_some_iff.mp hd).1) e
theorem XmH {P : Nat → List Dd} {ds : List Nat} {pj dj : Nat} {pr : Nat → Nat} {c : Int} (B : Bs S n P ds rm pj j dj pr) (h0 : ∀ c, 0 ≤ rm c) (h1 : ∀ c, rm c ≤ 1) (hc : 1 ≤ c) (n1 : 1 ≤ n) (hr : run rm n P ds 40 (s0 c) [] 0 ≠ .none) :
    ∃ v σ', Vh [.ref pj, .ref j, .int c, .ref dj] S = .ok v σ' ∧ Xpc S n (run rm n P ds 40 (s0 c) [] 0) v σ' := by
  have n3 := B.n3
  unfold Vh
  rw [f4]
  unfold XbJ
  obtain ⟨T, hT⟩ : ∃ T, T = S ++ wdL S.length rm n c ++ [XoE dj] := ⟨_, rfl⟩
  have hz : T.length = S.length + 19 + n := by rw [hT]; simp [Xfj]; lia
  have ew := Xmq (c := c) hc n3 B.hr
  have e0 : ZN [.ref pj] S = .ok (.int n) S := by rw [Xa4 B.hp (by simp; lia)]; simp
  have ec : Wo .choices Uj [.ref dj] (S ++ wdL S.length rm n c) = .ok (.ref (S.length + 18 + n)) T := by
    rw [Xma, hT]
    congr 1
    simp [Xfj]; lia
  have es : Wo .scheduler ZP [.ref (S.length + 18 + n)] T = .ok (.ref T.length) (T ++ spG T.length 0) := by
    rw [XlD]
    congr 2
    unfold spG
    rw [show T.length - 1 = S.length + 18 + n by rw [hz, Nat.add_right_comm (S.length + 18) 1 n]; rfl]
    rfl
  obtain ⟨fr0, hf0⟩ : ∃ fr0 : Fr, fr0 = [(65, .ref pj), (17, .ref j), (4, .int c), (48, .ref dj)] := ⟨_, rfl⟩
  have l1 : fr0.lookup 65 = some (.ref pj) := by rw [hf0]; rfl
  have l2 : fr0.lookup 17 = some (.ref j) := by rw [hf0]; rfl
  have l3 : fr0.lookup 4 = some (.int c) := by rw [hf0]; rfl
  have l4 : fr0.lookup 48 = some (.ref dj) := by rw [hf0]; rfl
  rw [← hf0]
  obtain ⟨fr1, hf1⟩ : ∃ fr1 : Fr, fr1 = fset (fset fr0 67 (.ref T.length)) 81 (.ref (S.length + 17 + n)) := ⟨_, rfl⟩
  have step1 : VB (Yw (Xe (XB Wf (Xe (Xc 17) (Xe (XB ZN (Xe (Xc 65) Xi)) (Xe (Xc 4) Xi)))) (Xe (XB (Wo .scheduler ZP) (Xe (XB (Wo .choices Uj) (Xe (Xc 48) Xi)) Xi)) Xi))) [81, 67] fr0 S = .ok (.next, fr1) (T ++ spG T.length 0) := by
    simp only [Ud, Yx, Xx, XA, XU, Xk, l1, l2, l3, l4, Xj, Xv, Xn, XT, e0, ew, ec, es, Yy, List.length_cons, List.length_nil, el2,
      WY (show [MV.ref (S.length + 17 + n), MV.ref T.length].length = [(81 : Sy), 67].length from rfl), List.reverse_cons, List.reverse_nil, List.nil_append, List.cons_append, Zs, Uc, hf1]
  have m1 : fr1.lookup 81 = some (.ref (S.length + 17 + n)) := by rw [hf1, Xh, if_pos rfl]
  have m2 : fr1.lookup 67 = some (.ref T.length) := by rw [hf1, Xh, if_neg (by decide), Xh, if_pos rfl]
  have m3 : fr1.lookup 65 = some (.ref pj) := by rw [hf1, Xh, if_neg (by decide), Xh, if_neg (by decide)]; exact l1
  have wat : (T ++ spG T.length 0)[S.length + 17 + n]? = some (.list [.ref (S.length + 3), .ref (S.length + 12), .ref S.length, .ref (S.length + 14), .ref (S.length + 16 + n)]) := by
    rw [List.getElem?_append_left (by lia), hT, List.append_assoc, Nat.add_assoc, Ux, List.getElem?_append_left (by rw [Xfj]; lia)]
    exact XoK n1 n3
  obtain ⟨fr2, hf2⟩ : ∃ fr2 : Fr, fr2 = fset (fset fr1 7 (.ref (S.length + 16 + n))) 24 (.ref (S.length + 14)) := ⟨_, rfl⟩
  have g3 : Zx (.ref (S.length + 17 + n)) (.int 3) (T ++ spG T.length 0) = .ok (.ref (S.length + 14)) _ := Zr wat (j := 3) rfl (by lia)
  have g4 : Zx (.ref (S.length + 17 + n)) (.int 4) (T ++ spG T.length 0) = .ok (.ref (S.length + 16 + n)) _ := Zr wat (j := 4) rfl (by lia)
  have step2 : VB (Yw (Xe (XI (Xc 81) (Xd (.int 3))) (Xe (XI (Xc 81) (Xd (.int 4))) Xi))) [24, 7] fr1 (T ++ spG T.length 0) = .ok (.next, fr2) (T ++ spG T.length 0) := by
    simp only [Xk, Xj, Xm, XE, Xt, Ym, XA, Xx, Xv, Xn, Yx, Yy, Ud, Zs, Uc, m1, g3, g4, List.length_cons, List.length_nil, el2, WY (show [MV.ref (S.length + 14), MV.ref (S.length + 16 + n)].length = [(24 : Sy), 7].length from rfl), List.reverse_cons, List.reverse_nil, List.nil_append, List.cons_append, hf2]
  have p1 : fr2.lookup 81 = some (.ref (S.length + 17 + n)) := by rw [hf2, Xh, if_neg (by decide), Xh, if_neg (by decide)]; exact m1
  have p2 : fr2.lookup 67 = some (.ref T.length) := by rw [hf2, Xh, if_neg (by decide), Xh, if_neg (by decide)]; exact m2
  have p3 : fr2.lookup 65 = some (.ref pj) := by rw [hf2, Xh, if_neg (by decide), Xh, if_neg (by decide)]; exact m3
  have p4 : fr2.lookup 24 = some (.ref (S.length + 14)) := by rw [hf2, Xh, if_pos rfl]
  have p5 : fr2.lookup 7 = some (.ref (S.length + 16 + n)) := by rw [hf2, Xh, if_neg (by decide), Xh, if_pos rfl]
  have hpT : T[pj]? = some (.list ((List.range n).map fun i => .ref (pr i))) := by rw [hT, List.append_assoc, List.getElem?_append_left (Uf B.hp)]; exact B.hp
  obtain ⟨fr3, e3, k3⟩ := Xhq hpT (n := n) (by simp) (by lia) n 0 fr2 (by lia) p2
  have hpT' : (T ++ spG T.length 0)[pj]? = some (.list ((List.range n).map fun i => .ref (pr i))) := by rw [List.getElem?_append_left (Uf hpT)]; exact hpT
  have step3 : Xaj (Xc 65) (XC 64) (Xo (Zd (Ua .scheduler none Xbd (Xc 67) Xi)) Xp) fr2 (T ++ spG T.length 0) = .ok (.next, fr3) (T ++ spG T.length n) := by
    unfold Xaj
    simp only [Xk, p3, Xj, R.bind, hpT']
    have : ((List.range n).map fun i => MV.ref (pr i)).length = n := by simp
    rw [this]
    exact e3
  have kk : K9 fr3 (ad0 S.length n) pj := ⟨(k3 _ (by decide)).trans p4, (k3 _ (by decide)).trans p5, ((k3 _ (by decide)).trans p2).trans (by rw [hz]; rfl), (k3 _ (by decide)).trans p1, (k3 _ (by decide)).trans p3⟩
  have hl : Lh S rm n dj (ad0 S.length n) (t0 S.length n c) (T ++ spG T.length n) := by
    have := Lh0 (S := S) (rm := rm) (n := n) (dj := dj) (c := c) n1 n3
    rw [hz, hT]
    unfold ldL at this
    rw [List.append_assoc, List.append_assoc] at *
    exact this
  have lr := Xj1 B 40 0 fr3 (ad0 S.length n) [] (s0 c) (t0 S.length n c) _ rfl hl Vw0 (XkT h0 h1 n3 B.l4) XmW rfl kk hr
  have ef : Xa0 (fun fr σ => Zf ((Xd (.int 40)) fr σ)) (XC 75) XaL fr3 (T ++ spG T.length n) = loopI (nxR 40) (XC 75) XaL (40 + 1) 0 fr3 (T ++ spG T.length n) := by
    unfold Xa0
    simp only [Xm, Zf, R.bind]
    rw [if_pos (by lia)]
    rfl
  unfold XaL XdN at ef
  rw [Xw, step1, XD, Xw, step2, XD, Xw, step3, XD, Xw, ef]
  have ht : ((t0 S.length n c).tk) = 0 := rfl
  rw [ht] at lr
  unfold XaL XdN at lr
  generalize loopI (nxR 40) (XC 75) _ (40 + 1) 0 fr3 (T ++ spG T.length n) = r at lr ⊢
  cases ho : run rm n P ds 40 (s0 c) [] 0 with
  | none => exact absurd ho hr
  | panic =>
    rw [ho] at lr
    refine @cps _ fun Γ γ => ?_
    obtain ⟨a, b, z, fr', σ', e, hk⟩ := lr
    refine γ ?_; clear γ Γ
    rw [e, Xq, Xu]
    exact ⟨_, _, rfl, a, b, z, rfl, hk⟩
  | fin s =>
    rw [ho] at lr
    refine @cps _ fun Γ γ => ?_
    obtain ⟨ad', t', en', fr', σ', e, h', v', k', hlv⟩ := lr
    obtain ⟨v, fr'', σ'', e', ht'⟩ := XiU n3 h' v' (XmR 40 _ _ _ _ (XkT h0 h1 n3 B.l4) ho) k' hlv
    refine γ ?_; clear γ Γ
    unfold Xjy at e'
    rw [e, XD, e', Xu]
    exact ⟨v, σ'', rfl, ht'⟩
end
end
theorem sub_int {σ : Sg} {a b : Int} : Xgu (.int a) (.int b) σ = .ok (.int (a - b)) σ := rfl
theorem mul_int {σ : Sg} {a b : Int} (h : b.natAbs < 2 ^ 64) : WG (.int a) (.int b) σ = .ok (.int (a * b)) σ := by simp only [WG]; rw [if_pos h]; rfl
theorem Xbl {σ : Sg} {a b : Int} (h : 0 < b) : XaT (.int a) (.int b) σ = .ok (.int (a % b)) σ := by simp only [XaT]; rw [if_pos h]; rfl
theorem Xir {σ : Sg} {a b : Int} (h : 0 < b) (h2 : b < 2 ^ 62) : XjC (.int a) (.int b) σ = .ok (.int (a / b)) σ := by simp only [XjC]; rw [if_pos ⟨h, h2⟩]; rfl
theorem ge_int {σ : Sg} {a b : Int} : oGe (.int a) (.int b) σ = .ok (.bool (decide (a ≥ b))) σ := rfl
theorem neg_int {σ : Sg} {a : Int} : Xf5 (Xd (.int a)) = fun _ σ => .ok (.int (-a)) σ := rfl
theorem XkG {σ : Sg} : Xlb (.int 10) (.int 18) σ = .ok (.int 1000000000000000000) σ := rfl
theorem Xpm {σ : Sg} {a : Int} : Xmx (.int a) σ = .ok (.int (-a)) σ := rfl
theorem XdQ {σ : Sg} {a : Int} : Xa1 [.int a] σ = .ok (.int a) σ := rfl
theorem Xi9 {σ : Sg} {b : Bool} : Xa1 [.bool b] σ = .ok (.int (if b then 1 else 0)) σ := rfl
theorem Xjq {σ : Sg} {a b : Int} : Xk5 [.int a, .int b] σ = .ok (.int (max a b)) σ := rfl
noncomputable def Src (S : Sg) (i : Nat) : Prop := ∃ a m : Int, 0 ≤ a ∧ 0 ≤ m ∧ m < 2147483647 ∧ S[i]? = some (.list [.int a, .int m])
noncomputable def WS (a m : Int) : MO := .list [.int a, .int m]
theorem XhR {S : Sg} {i : Nat} {a m : Int} {top : Nat} (h : S[i]? = some (WS a m)) (ha : 0 ≤ a) (hm : 0 ≤ m) (hm2 : m < 2147483647) (ht : 0 < top) (ht2 : top < 100) :
    ∃ (d : Nat) (a' m' : Int), d < top ∧ 0 ≤ a' ∧ 0 ≤ m' ∧ m' < 2147483647 ∧ XW [.ref i, .int top] S = .ok (.int d) (S.set i (WS a' m')) := by
  unfold XW
  rw [f2]
  unfold XaY
  have g0 : Zx (.ref i) (.int 0) S = .ok (.int a) S := Zr h (j := 0) rfl (by lia)
  have g1 : Zx (.ref i) (.int 1) S = .ok (.int m) S := Zr h (j := 1) rfl (by lia)
  have hi := Uf h
  by_cases hp : a > 0
  · refine ⟨(a % top).toNat, a / top, m, ?_, Int.ediv_nonneg ha (by lia), hm, hm2, ?_⟩
    · have := Int.emod_lt_of_pos a (show (0 : Int) < top by lia)
      exact Xgn (by lia) this
    · have s0 : ZZ (.int (a / top)) (.ref i) (.int 0) S = .ok () (S.set i (WS (a / top) m)) := Xbi h (j := 0) (by simp) (by lia)
      have e : ((a % top).toNat : Int) = a % top := Int.toNat_of_nonneg (Int.emod_nonneg a (by lia))
      rw [e]
      simp only [Xk, Xj, Xm, YT, XE, Xt, Ym, XF, Xz, XY, XZ, XA, Xx, Xv, Xn, XU, XT, Xu, Yg, Yn, Yj, Yk, XJ, XQ, YB, Zn, Zo, YO, Xw, XD, Xq, Yz, Ya, Zl, Sy.eqb, Fin.reduceBEq, cond_true, cond_false, g0, gt_int, hp, decide_true, XdQ, Xbl (show (0 : Int) < top by lia), Xir (show (0 : Int) < top by lia) (show (top : Int) < 2 ^ 62 by lia), s0]
  · obtain ⟨m', hm'⟩ : ∃ m' : Int, m' = (m * 39373 + 7) % 2147483647 := ⟨_, rfl⟩
    have b0 : 0 ≤ m' := by rw [hm']; exact Int.emod_nonneg _ (by lia)
    have b1 : m' < 2147483647 := by rw [hm']; exact Int.emod_lt_of_pos _ (by lia)
    have h' : (S.set i (WS a m'))[i]? = some (WS a m') := by rw [List.getElem?_set_self hi]
    have g1' : Zx (.ref i) (.int 1) (S.set i (WS a m')) = .ok (.int m') _ := Zr h' (j := 1) rfl (by lia)
    have s1 : ZZ (.int m') (.ref i) (.int 1) S = .ok () (S.set i (WS a m')) := Xbi h (j := 1) (by simp) (by lia)
    refine ⟨((m' * m' % 2147483629 / 32) % top).toNat, a, m', ?_, ha, b0, b1, ?_⟩
    · have := Int.emod_lt_of_pos (m' * m' % 2147483629 / 32) (show (0 : Int) < top by lia)
      exact Xgn (by lia) this
    · have e : (((m' * m' % 2147483629 / 32) % top).toNat : Int) = (m' * m' % 2147483629 / 32) % top := Int.toNat_of_nonneg (Int.emod_nonneg _ (by lia))
      rw [e]
      have hp' : decide (a > 0) = false := by simpa using hp
      simp only [Xk, Xj, Xm, YT, XE, Xt, Ym, XF, Xz, XY, XR, XA, Xx, Xv, Xn, XU, XT, Xu, Yg, Yn, Yj, Yk, XJ, YB, Zn, Zo, YO, Xw, XD, Xq, XG, Yz, Sy.eqb, Fin.reduceBEq, cond_true, cond_false, g0, gt_int, hp', g1, mul_int (show (39373 : Int).natAbs < 2 ^ 64 by decide), add_int, XdQ, Xbl (show (0 : Int) < 2147483647 by lia), ← hm', s1, g1', mul_int (show m'.natAbs < 2 ^ 64 from Nat.lt_trans (Xj4 b0 b1) (by decide)), Xbl (show (0 : Int) < 2147483629 by lia), Xir (show (0 : Int) < 32 by lia) (show (32 : Int) < 2 ^ 62 by lia), Xbl (show (0 : Int) < top by lia)]
theorem XnD {S : Sg} {l : List Int} (hl : l.length < 1000) : ∃ a m : Int, 0 ≤ a ∧ 0 ≤ m ∧ m < 2147483647 ∧ VY [.arg l, .int 0] S = .ok (.ref S.length) (S ++ [WS a m]) := by
  unfold VY
  rw [f2]
  unfold XaO
  obtain ⟨c, hc⟩ : ∃ c : Int, (l = [] ∧ c = 0) ∨ ∃ r, l = c :: r := by
    cases l with
    | nil => exact ⟨0, .inl ⟨rfl, rfl⟩⟩
    | cons x r => exact ⟨x, .inr ⟨r, rfl⟩⟩
  have el : ZN [.arg l] S = .ok (.int l.length) S := by unfold ZN; dsimp only; rw [if_pos (by lia)]; rfl
  have hm : ∀ big : Int, 0 ≤ (big % 2147483629 + 7919 * 0 * 0 + 31 * 0 + 17) * 48271 % 2147483647 := fun big => Int.emod_nonneg _ (by lia)
  have hm2 : ∀ big : Int, (big % 2147483629 + 7919 * 0 * 0 + 31 * 0 + 17) * 48271 % 2147483647 < 2147483647 := fun big => Int.emod_lt_of_pos _ (by lia)
  refine ⟨max c (-1 - c) * (if decide (max c (-1 - c) ≥ 1000000000000000000) then 1 else 0), (max c (-1 - c) % 2147483629 + 7919 * 0 * 0 + 31 * 0 + 17) * 48271 % 2147483647, ?_, hm _, hm2 _, ?_⟩
  · have : 0 ≤ max c (-1 - c) := by
      by_cases h : 0 ≤ c
      · exact Int.le_trans h (Int.le_max_left _ _)
      · exact Int.le_trans (Int.sub_nonneg_of_le (Int.le_sub_one_of_lt (Int.not_le.mp h))) (Int.le_max_right _ _)
    exact Int.mul_nonneg this (by split <;> decide)
  · have fin : ∀ fr : Fr, fr.lookup 45 = some (.int c) → fr.lookup 55 = some (.int 0) → Xc9 ((Xo (YE (XB Xk5 (Xe (XB Xa1 (Xe (Xc 45) Xi)) (Xe (XB Xa1 (Xe (YI Xgu (Xf5 (Xd (.int 1))) (Xc 45)) Xi)) Xi))) (XC 44)) (Xo (YE (YI XaT (XB Xa1 (Xe (YI WG (YI UJ (YI UJ (YI UJ (YI XaT (XB Xa1 (Xe (Xc 44) Xi)) (Xd (.int 2147483629))) (YI WG (YI WG (Xd (.int 7919)) (Xc 55)) (Xc 55))) (YI WG (Xd (.int 31)) (Xc 55))) (Xd (.int 17))) (Xd (.int 48271))) Xi)) (Xd (.int 2147483647))) (XC 59)) (Xo (Zg (XO (Xe (YI WG (Xc 44) (XB Xa1 (Xe (YI oGe (Xc 44) (YI Xlb (Xd (.int 10)) (Xd (.int 18)))) Xi))) (Xe (Xc 59) Xi)))) Xp))) fr S) = .ok (.ref S.length) (S ++ [WS (max c (-1 - c) * (if decide (max c (-1 - c) ≥ 1000000000000000000) then 1 else 0)) ((max c (-1 - c) % 2147483629 + 7919 * 0 * 0 + 31 * 0 + 17) * 48271 % 2147483647)]) := fun fr h1 h2 => by
      have hb : (if decide (max c (-1 - c) ≥ 1000000000000000000) = true then (1 : Int) else 0).natAbs < 2 ^ 64 := by split <;> decide
      simp only [Xk, Xj, Xm, YT, XE, Xt, XA, Xx, Xv, Xn, Yd, Yf, Vn, Ys, XU, XT, Xu, Yg, Yn, Yj, Yk, XJ, XQ, Xw, XD, Xq, Fin.reduceEq, h1, h2, Xh, if_true, if_false, XdQ, Xpm, sub_int, Xjq, Xbl (show (0 : Int) < 2147483629 by lia), mul_int (show (0 : Int).natAbs < 2 ^ 64 by decide), add_int, mul_int (show (48271 : Int).natAbs < 2 ^ 64 by decide), Xbl (show (0 : Int) < 2147483647 by lia), XkG, ge_int, Xi9, mul_int hb, List.length_cons, List.length_nil, el2]
      rfl
    have st1 : (YE (Xd (.int 0)) (XC 45)) [(68, .arg l), (55, .int 0)] S = .ok (.next, [(68, .arg l), (55, .int 0), (45, .int 0)]) S := rfl
    have st2 : (YZ (XN oLt (Xc 55) (XB ZN (Xe (Xc 68) Xi))) (Xo (YE (XI (Xc 68) (Xc 55)) (XC 45)) Xp) Xp) [(68, .arg l), (55, .int 0), (45, .int 0)] S = .ok (.next, [(68, .arg l), (55, .int 0), (45, .int c)]) S := by
      rcases hc with ⟨rfl, rfl⟩ | ⟨r, rfl⟩
      · have el' : ZN [.arg []] S = .ok (.int 0) S := el
        simp only [Xk, Xj, XE, Xt, XF, Xz, XY, XR, XA, Xx, Xv, Xn, XU, XT, XG, Yz, Sy.eqb, Fin.reduceBEq, cond_true, cond_false, el', lt_int, show decide ((0 : Int) < 0) = false from rfl]
      · have lt : decide ((0 : Int) < ((c :: r).length : Int)) = true := by simp
        have gc : Zx (.arg (c :: r)) (.int 0) S = .ok (.int c) S := rfl
        simp only [Xk, Xj, XE, Xt, Ym, XF, Xz, XY, XZ, XA, Xx, Xv, Xn, XU, XT, Yj, Yk, XJ, XQ, Xw, XD, XG, Yz, Ya, Zl, Sy.eqb, Fin.reduceBEq, cond_true, cond_false, el, lt_int, lt, gc]
    rw [Xw, st1, XD, Xw, st2, XD]
    exact fin _ rfl rfl
section
noncomputable def XdL : XM := (Xo (VB (Yw (Xe (XB XW (Xe (Xc 71) (Xe (Xd (.int 10)) Xi))) (Xe (XB XW (Xe (Xc 71) (Xe (Xd (.int 2)) Xi))) Xi))) [78, 46]) (Xo (YZ (XN oLt (Xc 78) (Xd (.int 3))) (Xo (Zd (mLm Yt (Xc 52) (Xe (Yw (Xe (Xd (.str 18)) (Xe (Xc 46) (Xe (YI UJ (YI WG (Xd (.int 10)) (Xc 34)) (Xc 75)) Xi)))) Xi))) Xp) (Xo (YZ (XN oLt (Xc 78) (Xd (.int 7))) (Xo (Zd (mLm Yt (Xc 52) (Xe (Yw (Xe (Xd (.str 22)) (Xe (Xc 46) Xi))) Xi))) Xp) (Xo (YE (XO (Xe (Yw (Xe (Xd (.str 2)) (Xe (Xc 46) Xi))) (Xe (Yw (Xe (Xd (.str 10)) Xi)) (Xe (Yw (Xe (Xd (.str 23)) Xi)) (Xe (Yw (Xe (Xd (.str 25)) Xi)) (Xe (Yw (Xe (Xd (.str 7)) Xi)) Xi)))))) (XC 61)) (Xo (Zd (mLm Yt (Xc 52) (Xe (XI (Xc 61) (YI UJ (YI Xgu (Xc 78) (Xd (.int 7))) (XB XW (Xe (Xc 71) (Xe (Xd (.int 3)) Xi))))) Xi))) Xp))) Xp)) Xp))
structure K10 (fr : Fr) (i num f : Nat) : Prop where
  h1 : fr.lookup 71 = some (.ref i)
  h2 : fr.lookup 34 = some (.int num)
  h3 : fr.lookup 52 = some (.ref f)
noncomputable def n10 (x : Sy) : Bool := decide (x = 71) || decide (x = 34) || decide (x = 52)
theorem K10.set {fr : Fr} {i num f : Nat} (k : K10 fr i num f) (x : Sy) (v : MV) (h : n10 x = false) : K10 (fset fr x v) i num f := by
  simp only [n10, Bool.or_eq_false_iff, decide_eq_false_iff_not] at h
  obtain ⟨⟨a, b⟩, c⟩ := h
  exact ⟨by rw [Xh, if_neg (Ne.symm a)]; exact k.h1, by rw [Xh, if_neg (Ne.symm b)]; exact k.h2, by rw [Xh, if_neg (Ne.symm c)]; exact k.h3⟩
noncomputable def dH (S : Sg) (i : Nat) (a m : Int) (l : List Dd) (G : Sg) : Sg := S.set i (WS a m) ++ (.list (l.map Dd.mv) :: G)
section
variable {S : Sg} {i : Nat} {a m a' m' : Int} {l l' : List Dd} {G : Sg}
theorem XjQ (hi : i < S.length) : (dH S i a m l G)[i]? = some (WS a m) := by
  unfold dH; rw [List.getElem?_append_left (by simpa using hi), List.getElem?_set_self hi]
theorem Xmh : (dH S i a m l G)[S.length]? = some (.list (l.map Dd.mv)) := by
  unfold dH; rw [List.getElem?_append_right (by simp)]; simp
theorem Xm0 (hi : i < S.length) : (dH S i a m l G).set i (WS a' m') = dH S i a' m' l G := by
  unfold dH; rw [List.set_append_left _ _ (by simpa using hi), List.set_set]
theorem Xli : (dH S i a m l G).set S.length (.list (l'.map Dd.mv)) = dH S i a m l' G := by
  unfold dH; rw [List.set_append_right _ _ (by simp)]; simp
theorem Xh2 {o : MO} : dH S i a m l G ++ [o] = dH S i a m l (G ++ [o]) := by
  unfold dH; simp
theorem Xdr (hi : i < S.length) (ha : 0 ≤ a) (hm : 0 ≤ m) (hm2 : m < 2147483647) {top : Nat} (ht : 0 < top) (ht2 : top < 100) :
    ∃ (d : Nat) (a' m' : Int), d < top ∧ 0 ≤ a' ∧ 0 ≤ m' ∧ m' < 2147483647 ∧ XW [.ref i, .int top] (dH S i a m l G) = .ok (.int d) (dH S i a' m' l G) := by
  obtain ⟨d, a', m', h1, h2, h3, h4, e⟩ := XhR (XjQ hi) ha hm hm2 ht ht2
  exact ⟨d, a', m', h1, h2, h3, h4, by rw [e, Xm0 hi]⟩
theorem Xg7 (hl : l.length < 100) (d : Dd) : Yt S.length (l.map Dd.mv) [d.mv] (dH S i a m l G) = .ok .none (dH S i a m (l ++ [d]) G) := by
  rw [XbI (by simp; lia), show l.map Dd.mv ++ [d.mv] = (l ++ [d]).map Dd.mv by simp, Xli]
noncomputable def XcI (c : Nat) : List MV := [.tup [.str 2, .int c], .tup [.str 10], .tup [.str 23], .tup [.str 25], .tup [.str 7]]
theorem Xlo {c k : Nat} (hc : c < 2) (hk : k < 5) : ∃ d : Dd, (XcI c)[k]? = some d.mv := by
  have hc' : ∃ b : Bool, (c : Int) = cI b := by
    have : c = 0 ∨ c = 1 := by lia
    rcases this with rfl | rfl
    · exact ⟨false, rfl⟩
    · exact ⟨true, rfl⟩
  obtain ⟨b, hb⟩ := hc'
  have e : XcI c = [Dd.close b, .lock, .unlock, .wait, .done].map Dd.mv := by unfold XcI; rw [hb]; rfl
  exact ⟨_, by rw [e, List.getElem?_map, List.getElem?_eq_getElem (show k < 5 from hk)]; rfl⟩
theorem XnX {fr : Fr} {num k : Nat} (kk : K10 fr i num S.length) (hk : fr.lookup 75 = some (.int k)) (hi : i < S.length) (ha : 0 ≤ a) (hm : 0 ≤ m) (hm2 : m < 2147483647) (hl : l.length < 100) (hnum : num < 100) :
    ∃ (d : Dd) (a' m' : Int) (G' : Sg) (fr' : Fr), 0 ≤ a' ∧ 0 ≤ m' ∧ m' < 2147483647 ∧ K10 fr' i num S.length ∧ XdL fr (dH S i a m l G) = .ok (.next, fr') (dH S i a' m' (l ++ [d]) G') := by
  refine @cps _ fun Γ γ => ?_
  obtain ⟨d1, a1, m1, hd1, ha1, hm1, hm12, e1⟩ := Xdr (l := l) (G := G) hi ha hm hm2 (top := 10) (by lia) (by lia)
  obtain ⟨d2, a2, m2, hd2, ha2, hm2', hm22, e2⟩ := Xdr (l := l) (G := G) hi ha1 hm1 hm12 (top := 2) (by lia) (by lia)
  refine γ ?_; clear γ Γ
  obtain ⟨b, hb⟩ : ∃ b : Bool, (d2 : Int) = cI b := by
    have : d2 = 0 ∨ d2 = 1 := by lia
    rcases this with rfl | rfl
    · exact ⟨false, rfl⟩
    · exact ⟨true, rfl⟩
  obtain ⟨fr1, hf1⟩ : ∃ fr1 : Fr, fr1 = fset (fset fr 46 (.int d2)) 78 (.int d1) := ⟨_, rfl⟩
  have e1' : XW [.ref i, .int 10] (dH S i a m l G) = .ok (.int d1) (dH S i a1 m1 l G) := e1
  have e2' : XW [.ref i, .int 2] (dH S i a1 m1 l G) = .ok (.int d2) (dH S i a2 m2 l G) := e2
  have st1 : VB (Yw (Xe (XB XW (Xe (Xc 71) (Xe (Xd (.int 10)) Xi))) (Xe (XB XW (Xe (Xc 71) (Xe (Xd (.int 2)) Xi))) Xi))) [78, 46] fr (dH S i a m l G) = .ok (.next, fr1) (dH S i a2 m2 l G) := by
    simp only [Xk, Xj, Xm, XA, Xx, Xv, Xn, Yx, Yy, XU, XT, Ud, Zs, Uc, kk.h1, e1', e2', List.length_cons, List.length_nil, el2, WY (show [MV.int d1, MV.int d2].length = [(78 : Sy), 46].length from rfl), List.reverse_cons, List.reverse_nil, List.nil_append, List.cons_append, hf1]
  have k1 : K10 fr1 i num S.length := by rw [hf1]; exact (kk.set _ _ rfl).set _ _ rfl
  have w1 : fr1.lookup 78 = some (.int d1) := by rw [hf1, Xh, if_pos rfl]
  have c1 : fr1.lookup 46 = some (.int d2) := by rw [hf1, Xh, if_neg (by decide), Xh, if_pos rfl]
  have t1 : fr1.lookup 75 = some (.int k) := by rw [hf1, Xh, if_neg (by decide), Xh, if_neg (by decide)]; exact hk
  unfold XdL
  rw [Xw, st1, XD]
  have mf := Xmh (S := S) (i := i) (a := a2) (m := m2) (l := l) (G := G)
  by_cases h3 : (d1 : Int) < 3
  · refine ⟨.send b (10 * num + k), a2, m2, G, fr1, ha2, hm2', hm22, k1, ?_⟩
    have ap := Xg7 (S := S) (i := i) (a := a2) (m := m2) (G := G) hl (.send b (10 * num + k))
    simp only [Dd.mv] at ap
    simp only [Xk, Xj, Xm, YT, XE, Xt, XF, Xz, XY, XZ, XA, Xx, Xv, Xn, Yx, Yy, UH, YK, YD, Xw, XD, XG, w1, lt_int, h3, decide_true, k1.h3, Vv mf, Uh mf, c1, hb, k1.h2, t1, mul_int (show (num : Int).natAbs < 2 ^ 64 from Nat.lt_trans (show num < 100 from hnum) (by decide)), add_int, List.length_cons, List.length_nil, el3, ap]
  · by_cases h7 : (d1 : Int) < 7
    · refine ⟨.take b, a2, m2, G, fr1, ha2, hm2', hm22, k1, ?_⟩
      have ap := Xg7 (S := S) (i := i) (a := a2) (m := m2) (G := G) hl (.take b)
      simp only [Dd.mv] at ap
      simp only [Xk, Xj, Xm, XE, Xt, XF, Xz, XY, XZ, XR, XA, Xx, Xv, Xn, Yx, Yy, UH, YK, YD, Xw, XD, XG, w1, lt_int, h3, h7, decide_true, decide_false, k1.h3, Vv mf, Uh mf, c1, hb, List.length_cons, List.length_nil, el2, ap]
    · obtain ⟨fr2, hf2⟩ : ∃ fr2 : Fr, fr2 = fset fr1 61 (.ref (dH S i a2 m2 l G).length) := ⟨_, rfl⟩
      refine @cps _ fun Γ γ => ?_
      obtain ⟨d3, a3, m3, hd3, ha3, hm3, hm32, e3⟩ := Xdr (l := l) (G := G ++ [.list (XcI d2)]) hi ha2 hm2' hm22 (top := 3) (by lia) (by lia)
      have e3' : XW [.ref i, .int 3] (dH S i a2 m2 l (G ++ [.list (XcI d2)])) = .ok (.int d3) (dH S i a3 m3 l (G ++ [.list (XcI d2)])) := e3
      obtain ⟨d, hd⟩ := Xlo (c := d2) (k := d1 - 7 + d3) hd2 (by lia)
      refine γ ?_; clear γ Γ
      have k2 : K10 fr2 i num S.length := by rw [hf2]; exact k1.set _ _ rfl
      have o2 : fr2.lookup 61 = some (.ref (dH S i a2 m2 l G).length) := by rw [hf2, Xh, if_pos rfl]
      have w2 : fr2.lookup 78 = some (.int d1) := by rw [hf2, Xh, if_neg (by decide)]; exact w1
      refine ⟨d, a3, m3, G ++ [.list (XcI d2)], fr2, ha3, hm3, hm32, k2, ?_⟩
      have ap := Xg7 (S := S) (i := i) (a := a3) (m := m3) (G := G ++ [.list (XcI d2)]) hl d
      have mf2 := Xmh (S := S) (i := i) (a := a2) (m := m2) (l := l) (G := G ++ [.list (XcI d2)])
      have mf3 := Xmh (S := S) (i := i) (a := a3) (m := m3) (l := l) (G := G ++ [.list (XcI d2)])
      have mo : (dH S i a3 m3 l (G ++ [.list (XcI d2)]))[(dH S i a2 m2 l G).length]? = some (.list (XcI d2)) := by
        have : (dH S i a2 m2 l G).length = (dH S i a3 m3 l G).length := by simp [dH]
        rw [this, ← Xh2]; simp
      have go := Zr mo (j := d1 - 7 + d3) hd (by lia)
      have ix : (d1 : Int) - 7 + d3 = ((d1 - 7 + d3 : Nat) : Int) := by lia
      have st2 : YE (XO (Xe (Yw (Xe (Xd (.str 2)) (Xe (Xc 46) Xi))) (Xe (Yw (Xe (Xd (.str 10)) Xi)) (Xe (Yw (Xe (Xd (.str 23)) Xi)) (Xe (Yw (Xe (Xd (.str 25)) Xi)) (Xe (Yw (Xe (Xd (.str 7)) Xi)) Xi)))))) (XC 61) fr1 (dH S i a2 m2 l G) = .ok (.next, fr2) (dH S i a2 m2 l (G ++ [.list (XcI d2)])) := by
        simp only [Xk, Xj, Xm, XA, Xx, Xv, Xn, Yx, Yy, Yd, Yf, Yj, Yk, XJ, XQ, c1, List.length_cons, List.length_nil, el1, el2, el5, hf2]
        rw [← Xh2]; rfl
      have q1 : ∀ A B : XM, YZ (XN oLt (Xc 78) (Xd (.int 3))) A B fr1 (dH S i a2 m2 l G) = B fr1 (dH S i a2 m2 l G) := fun A B => by simp only [Xk, Xj, Xm, XE, Xt, XF, Xz, XY, XR, w1, lt_int, h3, decide_false]
      have q2 : ∀ A B : XM, YZ (XN oLt (Xc 78) (Xd (.int 7))) A B fr1 (dH S i a2 m2 l G) = B fr1 (dH S i a2 m2 l G) := fun A B => by simp only [Xk, Xj, Xm, XE, Xt, XF, Xz, XY, XR, w1, lt_int, h7, decide_false]
      rw [Xw, q1, Xw, q2, Xw, st2, XD]
      simp only [Xk, Xj, Xm, YT, XE, Xt, Ym, XA, Xx, Xv, Xn, XU, XT, UH, YK, YD, Xw, XD, XG, k2.h3, Vv mf2, Uh mf3, o2, w2, k2.h1, sub_int, e3', add_int, ix, go, ap]
end
end
section
section
variable {S : Sg} {i : Nat} {a m a' m' : Int} {l l' : List Dd} {G : Sg}
theorem XhA {num n : Nat} (hi : i < S.length) (hn : n ≤ 4) (hnum : num < 100) (f : Nat) : ∀ (k : Nat) (fr : Fr) (l : List Dd) (a m : Int) (G : Sg), f + k = n → l.length = k → K10 fr i num S.length → 0 ≤ a → 0 ≤ m → m < 2147483647 →
    ∃ (l' : List Dd) (a' m' : Int) (G' : Sg) (fr' : Fr), l'.length = n ∧ 0 ≤ a' ∧ 0 ≤ m' ∧ m' < 2147483647 ∧ K10 fr' i num S.length ∧ loopI (nxR n) (XC 75) XdL (f + 1) k fr (dH S i a m l G) = .ok (.next, fr') (dH S i a' m' l' G') := by
  induction f with
  | zero =>
    intro k fr l a m G hf hl kk ha hm hm2
    refine ⟨l, a, m, G, fr, by lia, ha, hm, hm2, kk, ?_⟩
    rw [UW, nxR, if_neg (by lia)]
  | succ f ih =>
    intro k fr l a m G hf hl kk ha hm hm2
    refine @cps _ fun Γ γ => ?_
    obtain ⟨d, a1, m1, G1, fr1, ha1, hm1, hm12, k1, e1⟩ := XnX (G := G) (kk.set 75 (.int k) rfl) (k := k) (by rw [Xh, if_pos rfl]) hi ha hm hm2 (show l.length < 100 by lia) hnum
    obtain ⟨l', a', m', G', fr', h1, h2, h3, h4, h5, e⟩ := ih (k + 1) fr1 (l ++ [d]) a1 m1 G1 (by lia) (by simp [hl]) k1 ha1 hm1 hm12
    refine γ ?_; clear γ Γ
    refine ⟨l', a', m', G', fr', h1, h2, h3, h4, h5, ?_⟩
    rw [UW, nxR, if_pos (by lia)]
    simp only [XC, R.bind, e1, Zf]
    exact e
theorem Xkf {o : MO} (h : S[i]? = some o) : S.set i o = S := by
  apply List.ext_getElem?
  intro k
  by_cases e : i = k
  · subst e; rw [List.getElem?_set_self (Uf h), h]
  · rw [List.getElem?_set_ne e]
theorem Xle {num : Nat} (h : S[i]? = some (WS a m)) (ha : 0 ≤ a) (hm : 0 ≤ m) (hm2 : m < 2147483647) (hnum : num < 100) :
    ∃ (l' : List Dd) (a' m' : Int) (G' : Sg), l'.length ≤ 4 ∧ 0 ≤ a' ∧ 0 ≤ m' ∧ m' < 2147483647 ∧ VI [.ref i, .int num] S = .ok (.ref S.length) (dH S i a' m' l' G') := by
  have hi := Uf h
  unfold VI
  rw [f2]
  unfold Xat
  have s0 : S ++ [.list []] = dH S i a m [] [] := by unfold dH; rw [Xkf h]; rfl
  refine @cps _ fun Γ γ => ?_
  obtain ⟨d, a1, m1, hd, ha1, hm1, hm12, e1⟩ := Xdr (S := S) (l := []) (G := []) hi ha hm hm2 (top := 4) (by lia) (by lia)
  refine γ ?_; clear γ Γ
  have e1' : XW [.ref i, .int 4] (dH S i a m [] []) = .ok (.int d) (dH S i a1 m1 [] []) := e1
  obtain ⟨fr, hfr⟩ : ∃ fr : Fr, fr = [(71, .ref i), (34, .int num), (52, .ref S.length)] := ⟨_, rfl⟩
  have kk : K10 fr i num S.length := by rw [hfr]; exact ⟨rfl, rfl, rfl⟩
  refine @cps _ fun Γ γ => ?_
  obtain ⟨l', a', m', G', fr', h1, h2, h3, h4, h5, e⟩ := XhA (n := 1 + d) hi (by lia) hnum (1 + d) 0 fr [] a1 m1 [] rfl rfl kk ha1 hm1 hm12
  refine γ ?_; clear γ Γ
  refine ⟨l', a', m', G', by lia, h2, h3, h4, ?_⟩
  have st1 : YE (XO Xi) (XC 52) [(71, .ref i), (34, .int num)] S = .ok (.next, fr) (dH S i a m [] []) := by
    rw [← s0, hfr]; rfl
  have st2 : Xa0 (fun fr σ => Zf ((YI UJ (Xd (.int 1)) (XB XW (Xe (Xc 71) (Xe (Xd (.int 4)) Xi)))) fr σ)) (XC 75) XdL fr (dH S i a m [] []) = .ok (.next, fr') (dH S i a' m' l' G') := by
    have ev : YI UJ (Xd (.int 1)) (XB XW (Xe (Xc 71) (Xe (Xd (.int 4)) Xi))) fr (dH S i a m [] []) = .ok (.int ((1 + d : Nat) : Int)) (dH S i a1 m1 [] []) := by
      simp only [Xk, Xj, Xm, YT, XE, Xt, XA, Xx, Xv, Xn, XU, XT, kk.h1, e1', add_int]
      rfl
    unfold Xa0
    simp only [ev, Zf, R.bind]
    rw [if_pos (by lia), Int.toNat_natCast]
    exact e
  unfold XdL at st2
  rw [Xw, st1, XD, Xw, st2, XD]
  simp only [Xk, Xj, Xu, Yg, Yn, Xw, Xq, h5.h3]
theorem Xg3 {x : Nat} {o : MO} (hx : x ≠ i) (h : S[x]? = some o) : (dH S i a m l G)[x]? = some o := by
  unfold dH
  rw [List.getElem?_append_left (by simpa using Uf h), List.getElem?_set_ne (Ne.symm hx)]; exact h
end
structure Pg (S : Sg) (i acc k : Nat) (pr : Nat → Nat) (P : Nat → List Dd) (σ : Sg) : Prop where
  src : ∃ a m : Int, 0 ≤ a ∧ 0 ≤ m ∧ m < 2147483647 ∧ σ[i]? = some (WS a m)
  old : ∀ (x : Nat) (o : MO), x ≠ i → S[x]? = some o → σ[x]? = some o
  at_ : σ[acc]? = some (.list ((List.range k).map fun j => .ref (pr j)))
  el : ∀ j, j < k → σ[pr j]? = some (.list ((P j).map Dd.mv)) ∧ pr j ≠ i ∧ pr j ≠ acc
  l4 : ∀ j, (P j).length ≤ 4
theorem Xl1 {k x : Nat} {pr : Nat → Nat} : (List.range k).map (fun j => MV.ref (upd pr k x j)) = (List.range k).map (fun j => MV.ref (pr j)) := by
  apply List.map_congr_left
  intro j hj
  rw [upd, if_neg (by have := List.mem_range.mp hj; lia)]
theorem Xiz {S : Sg} {i acc n : Nat} (hi : i < S.length) (hacc : S.length ≤ acc) (hn : n ≤ 3) (f : Nat) : ∀ (k : Nat) (fr : Fr) (pr : Nat → Nat) (P : Nat → List Dd) (σ : Sg), f + k = n → fr.lookup 71 = some (.ref i) → Pg S i acc k pr P σ →
    ∃ pr' P' σ', Pg S i acc n pr' P' σ' ∧ Uk (nxR n) (XC 34) YU (XB VI (Xe (Xc 71) (Xe (Xc 34) Xi))) acc (f + 1) k fr σ = .ok (.ref acc) σ' := by
  induction f with
  | zero =>
    intro k fr pr P σ hf hs h
    have : k = n := by lia
    subst this
    exact ⟨pr, P, σ, h, by rw [Uu, nxR, if_neg (by lia)]⟩
  | succ f ih =>
    intro k fr pr P σ hf hs h
    refine @cps _ fun Γ γ => ?_
    obtain ⟨a, m, ha, hm, hm2, hsrc⟩ := h.src
    obtain ⟨l', a', m', G', hl', ha', hm', hm2', e⟩ := Xle (num := k) hsrc ha hm hm2 (by lia)
    refine γ ?_; clear γ Γ
    have hs1 : (fset fr 34 (.int k)).lookup 71 = some (.ref i) := by rw [Xh, if_neg (by decide)]; exact hs
    have hn1 : (fset fr 34 (.int k)).lookup 34 = some (.int k) := by rw [Xh, if_pos rfl]
    have ia : acc ≠ i := by lia
    have hat := Xg3 (i := i) (a := a') (m := m') (l := l') (G := G') ia h.at_
    have hL := Uf h.at_
    have hiL := Uf hsrc
    obtain ⟨σ1, h1⟩ : ∃ σ1, σ1 = (dH σ i a' m' l' G').set acc (.list ((List.range k).map (fun j => MV.ref (pr j)) ++ [.ref σ.length])) := ⟨_, rfl⟩
    have ne1 : ∀ x, x ≠ acc → σ1[x]? = (dH σ i a' m' l' G')[x]? := fun x hx => by rw [h1, List.getElem?_set_ne (Ne.symm hx)]
    have pg : Pg S i acc (k + 1) (upd pr k σ.length) (upd P k l') σ1 := by
      refine ⟨⟨a', m', ha', hm', hm2', ?_⟩, fun x o hx hS => ?_, ?_, fun j hj => ?_, fun j => ?_⟩
      · rw [ne1 _ (Ne.symm ia)]; exact XjQ hiL
      · have := Uf hS
        rw [ne1 _ (by lia)]; exact Xg3 hx (h.old x o hx hS)
      · rw [h1, List.getElem?_set_self (by unfold dH; simp; lia), List.range_succ, List.map_append, Xl1]
        simp [upd]
      · by_cases e : j = k
        · subst e
          rw [upd, if_pos rfl, upd, if_pos rfl]
          refine ⟨?_, by lia, by lia⟩
          rw [ne1 _ (by lia)]; exact Xmh
        · rw [upd, if_neg e, upd, if_neg e]
          obtain ⟨q1, q2, q3⟩ := h.el j (by lia)
          exact ⟨by rw [ne1 _ q3]; exact Xg3 q2 q1, q2, q3⟩
      · unfold upd
        split
        · exact hl'
        · exact h.l4 j
    refine @cps _ fun Γ γ => ?_
    obtain ⟨pr', P', σ', hp, ec⟩ := ih (k + 1) (fset fr 34 (.int k)) (upd pr k σ.length) (upd P k l') σ1 (by lia) hs1 pg
    refine γ ?_; clear γ Γ
    refine ⟨pr', P', σ', hp, ?_⟩
    have ee : XB VI (Xe (Xc 71) (Xe (Xc 34) Xi)) (fset fr 34 (.int k)) σ = .ok (.ref σ.length) (dH σ i a' m' l' G') := by
      simp only [Xk, Xj, XA, Xx, Xv, Xn, XU, XT, hs1, hn1, e]
    rw [Uu, nxR, if_pos (by lia)]
    simp only [XC, Zf, R.bind, YU, if_true, ee, Vo, hat]
    rw [UY (by simp; lia)]
    simp only
    rw [← h1]
    exact ec
end
theorem Xa9 {α : Type} {f : MV → Option PyData} {g : α → MV} {h : α → PyData} {l : List α} : (∀ x ∈ l, f (g x) = some (h x)) → Xcd f (l.map g) = some (l.map h) := by
  induction l with
  | nil =>
    intro _
    exact rfl
  | cons x l ih =>
    intro e
    have ih := ih fun y hy => e y (.tail _ hy)
    rw [List.map_cons, List.map_cons, Xb8, e x (.head _), ih]; rfl
noncomputable def oPy : Option Int → PyData
  | none => .none
  | some i => .int i
noncomputable def vPy (v : Vl) : PyData := .tuple [oPy v.1, .bool v.2]
theorem XnV {σ : Sg} {k : Nat} (v : Vl) : VK σ (k + 1) (vMV v) = some (vPy v) := by
  obtain ⟨o, b⟩ := v
  cases o <;> cases k <;> rfl
noncomputable def Xga (n : Nat) (s : Ps) : PyData := .tuple [.str (WI s).s, .list ((List.range n).map fun i => .list ((s.vals i).map vPy)), .list ((List.range n).map fun i => .int (s.dn i)), .list ((blocked n s).map fun i : Nat => .int i)]
theorem Xdu {α : Type} {h : α → PyData} {l : List α} : (∀ x ∈ l, (h x).canLay0 = true) → PyData.canLayAll0 (l.map h) = true := by
  induction l with
  | nil =>
    intro _
    exact rfl
  | cons x l ih =>
    intro e
    have ih := ih fun y hy => e y (.tail _ hy)
    rw [List.map_cons, PyData.canLayAll0, e x (.head _), ih]; rfl
theorem Xmv (v : Vl) : (vPy v).canLay0 = true := by
  obtain ⟨o, b⟩ := v
  cases o <;> rfl
theorem XhU (n : Nat) (s : Ps) : (Xga n s).canLay0 = true := by
  have h1 : PyData.canLayAll0 ((List.range n).map fun i => PyData.list ((s.vals i).map vPy)) = true := Xdu fun i _ => Xdu fun v _ => Xmv v
  have h2 : PyData.canLayAll0 ((List.range n).map fun i => PyData.int (s.dn i)) = true := Xdu fun i _ => rfl
  have h3 : PyData.canLayAll0 ((blocked n s).map fun i : Nat => PyData.int i) = true := Xdu fun i _ => rfl
  have h0 := Sy.strOk (WI s)
  simp only [PyData.canLay0] at h0
  simp only [Xga, PyData.canLay0, PyData.canLayAll0, h1, h2, h3, h0, Bool.and_true]
theorem XeC {σ : Sg} {n a b z : Nat} {s : Ps} {va : Nat → Nat} (h1 : σ[a]? = some (.list ((List.range n).map fun i => .ref (va i)))) (h2 : ∀ i, i < n → σ[va i]? = some (.list ((s.vals i).map vMV))) (h3 : σ[b]? = some (.list ((List.range n).map fun i => iMV (s.dn i)))) (h4 : σ[z]? = some (.list ((blocked n s).map iMV))) :
    VK σ 8 (.tup [.str (WI s), .ref a, .ref b, .ref z]) = some (Xga n s) := by
  have e1 : VK σ 7 (.ref a) = some (.list ((List.range n).map fun i => .list ((s.vals i).map vPy))) := by
    rw [Xa2 h1]
    rw [Xa9 (h := fun i => PyData.list ((s.vals i).map vPy)) fun i hi => ?_]
    · rfl
    · rw [Xa2 (h2 i (List.mem_range.mp hi))]
      rw [Xa9 (h := vPy) fun v _ => XnV v]
      rfl
  have e2 : VK σ 7 (.ref b) = some (.list ((List.range n).map fun i => .int (s.dn i))) := by
    rw [Xa2 h3]
    rw [Xa9 (h := fun i => PyData.int (s.dn i)) fun i hi => rfl]
    rfl
  have e3 : VK σ 7 (.ref z) = some (.list ((blocked n s).map fun i : Nat => .int i)) := by
    rw [Xa2 h4]
    rw [Xa9 (h := fun i : Nat => PyData.int i) fun i hi => rfl]
    rfl
  rw [XkE, Xb8, Xb8, Xb8, Xb8, Xl2, Xjm, e1, e2, e3]
  rfl
theorem Xd6 {n : Nat} {s : Ps} {rm : Bool → Int} {L : Nat → Nat} (w : s.W rm n L) : (Xa5 (wsI s)).map MV.int = (blocked n s).map iMV := by
  have p : (blocked n s).Perm (s.ws.map Prod.fst) := by
    refine (List.perm_ext_iff_of_nodup ?_ w.nd).mpr fun a => ?_
    · exact (List.nodup_range).filter _
    · simp only [blocked, List.mem_filter, List.mem_range, List.contains_eq_mem, decide_eq_true_eq]
      refine ⟨fun h => h.2, fun h => ⟨?_, h⟩⟩
      obtain ⟨r, hr, rfl⟩ := List.mem_map.mp h
      exact (w.lt r hr).1
  have so : ((blocked n s).map fun i : Nat => (i : Int)).Pairwise (· ≤ ·) := by
    rw [List.pairwise_map]
    refine List.Pairwise.imp (R := (· < ·)) (fun h => by omega) ?_
    exact (List.pairwise_lt_range).filter _
  have := Xcn (p.map fun i : Nat => (i : Int)) so
  unfold wsI
  rw [← this, List.map_map]
  rfl
theorem XgN {σ : Sg} {v w : MV} {d : PyData} (h1 : VK σ 8 v = some d) (h2 : VK σ 8 w = some d) (hl : d.canLay0 = true) (hv : ∃ l, v = .tup l) (hw : ∃ l, w = .tup l) : oNe v w σ = .ok (.bool false) σ ∧ oEq v w σ = .ok (.bool true) σ := by
  obtain ⟨l, rfl⟩ := hv
  obtain ⟨l', rfl⟩ := hw
  have e := PySem.SeqAt.eqv_refl d hl
  exact ⟨(XmU h1 h2 rfl).trans (by rw [e]; rfl), (Xew h1 h2 rfl).trans (by rw [e])⟩
structure Dg (S : Sg) (i acc k : Nat) (l : List Nat) (σ : Sg) : Prop where
  src : ∃ a m : Int, 0 ≤ a ∧ 0 ≤ m ∧ m < 2147483647 ∧ σ[i]? = some (WS a m)
  old : ∀ (x : Nat) (o : MO), x ≠ i → S[x]? = some o → σ[x]? = some o
  at_ : σ[acc]? = some (.list (l.map fun d : Nat => .int (d : Int)))
  len : l.length = k
theorem XkX {S : Sg} {i acc n : Nat} (hi : i < S.length) (hacc : S.length ≤ acc) (hn : n ≤ 8) (f : Nat) : ∀ (k : Nat) (fr : Fr) (l : List Nat) (σ : Sg), f + k = n → fr.lookup 71 = some (.ref i) → Dg S i acc k l σ →
    ∃ l' σ', Dg S i acc n l' σ' ∧ Uk (nxR n) (XC 75) YU (XB XW (Xe (Xc 71) (Xe (Xd (.int 6)) Xi))) acc (f + 1) k fr σ = .ok (.ref acc) σ' := by
  induction f with
  | zero =>
    intro k fr l σ hf hs h
    have : k = n := by lia
    subst this
    exact ⟨l, σ, h, by rw [Uu, nxR, if_neg (by lia)]⟩
  | succ f ih =>
    intro k fr l σ hf hs h
    refine @cps _ fun Γ γ => ?_
    obtain ⟨a, m, ha, hm, hm2, hsrc⟩ := h.src
    obtain ⟨d, a', m', hd, ha', hm', hm2', e⟩ := XhR hsrc ha hm hm2 (top := 6) (by lia) (by lia)
    refine γ ?_; clear γ Γ
    have e' : XW [.ref i, .int 6] σ = .ok (.int d) (σ.set i (WS a' m')) := e
    have hs1 : (fset fr 75 (.int k)).lookup 71 = some (.ref i) := by rw [Xh, if_neg (by decide)]; exact hs
    have ia : acc ≠ i := by lia
    have hat : (σ.set i (WS a' m'))[acc]? = some (.list (l.map fun d : Nat => .int (d : Int))) := by rw [List.getElem?_set_ne (Ne.symm ia)]; exact h.at_
    have hL := Uf h.at_
    have hiL := Uf hsrc
    obtain ⟨σ1, h1⟩ : ∃ σ1, σ1 = (σ.set i (WS a' m')).set acc (.list (l.map (fun d : Nat => MV.int (d : Int)) ++ [.int d])) := ⟨_, rfl⟩
    have dg : Dg S i acc (k + 1) (l ++ [d]) σ1 := by
      refine ⟨⟨a', m', ha', hm', hm2', ?_⟩, fun x o hx hS => ?_, ?_, by simp [h.len]⟩
      · rw [h1, List.getElem?_set_ne ia, List.getElem?_set_self hiL]
      · have := Uf hS
        rw [h1, List.getElem?_set_ne (by lia), List.getElem?_set_ne (Ne.symm hx)]; exact h.old x o hx hS
      · rw [h1, List.getElem?_set_self (by simpa using hL), List.map_append]; rfl
    refine @cps _ fun Γ γ => ?_
    obtain ⟨l', σ', hp, ec⟩ := ih (k + 1) (fset fr 75 (.int k)) (l ++ [d]) σ1 (by lia) hs1 dg
    refine γ ?_; clear γ Γ
    refine ⟨l', σ', hp, ?_⟩
    have ee : XB XW (Xe (Xc 71) (Xe (Xd (.int 6)) Xi)) (fset fr 75 (.int k)) σ = .ok (.int d) (σ.set i (WS a' m')) := by
      simp only [Xk, Xj, Xm, XA, Xx, Xv, Xn, XU, XT, hs1, e']
    rw [Uu, nxR, if_pos (by lia)]
    simp only [XC, Zf, R.bind, YU, if_true, ee, Vo, hat]
    rw [UY (by have := h.len; simp; lia)]
    simp only
    rw [← h1]
    exact ec
noncomputable def P1 : Nat → List Dd := fun _ => [.take false]
noncomputable def r1 : Bool → Int := fun _ => 0
noncomputable def Xiw : Ps := (s0 1).put r1 0 (.take false)
theorem Xpa : run r1 1 P1 [] 40 (s0 1) [] 0 = .fin Xiw := by rfl
theorem Xnl {S : Sg} : ∃ σ', ∀ fr : Fr, YI oEq (XB Vh (Xe (XO (Xe (XO (Xe (Yw (Xe (Xd (.str 22)) (Xe (Xd (.int 0)) Xi))) Xi)) Xi)) (Xe (XO (Xe (Xd (.int 0)) (Xe (Xd (.int 0)) Xi))) (Xe (Xd (.int 1)) (Xe (XO Xi) Xi))))) (Yw (Xe (Xd (.str 5)) (Xe (XO (Xe (XO Xi) Xi)) (Xe (XO (Xe (Xd (.int 0)) Xi)) (Xe (XO (Xe (Xd (.int 0)) Xi)) Xi))))) fr S = .ok (.bool true) σ' := by
  obtain ⟨T, hT⟩ : ∃ T, T = S ++ [.list [.tup [.str 22, .int 0]], .list [.ref S.length], .list [.int 0, .int 0], .list []] := ⟨_, rfl⟩
  have B : Bs T 1 P1 [] r1 (S.length + 1) (S.length + 2) (S.length + 3) (fun _ => S.length) := by
    refine ⟨?_, fun i hi => ?_, ?_, ?_, by simp, by lia, fun i => by simp [P1]⟩
    · rw [hT, Ux]; rfl
    · rw [hT]; exact Ux (k := 0)
    · rw [hT, Ux]; rfl
    · rw [hT, Ux]; rfl
  obtain ⟨v, σ', e, ht⟩ := XmH (c := 1) B (fun _ => by simp [r1]) (fun _ => by simp [r1]) (by lia) (by lia) (by rw [Xpa]; simp)
  rw [Xpa] at ht
  refine @cps _ fun Γ γ => ?_
  obtain ⟨a, b, z, va, rfl, h1, h2, h3, h4, h5⟩ := ht
  refine γ ?_; clear γ Γ
  obtain ⟨U, hU⟩ : ∃ U, U = σ' ++ [.list [], .list [.ref σ'.length], .list [.int 0], .list [.int 0]] := ⟨_, rfl⟩
  refine ⟨U, fun fr => ?_⟩
  have up : ∀ (x : Nat) (o : MO), σ'[x]? = some o → U[x]? = some o := fun x o h => by rw [hU, List.getElem?_append_left (Uf h)]; exact h
  have t1 := XeC (s := Xiw) (up _ _ h1) (fun i hi => up _ _ (h2 i hi)) (up _ _ h3) (up _ _ h4)
  have t2 : VK U 8 (.tup [.str (WI Xiw), .ref (σ'.length + 1), .ref (σ'.length + 2), .ref (σ'.length + 3)]) = some (Xga 1 Xiw) := by
    refine XeC (va := fun _ => σ'.length) ?_ (fun i hi => ?_) ?_ ?_
    · rw [hU, Ux]; rfl
    · have : i = 0 := by lia
      subst this
      rw [hU]; exact Ux (k := 0)
    · rw [hU, Ux]; rfl
    · rw [hU, Ux]; rfl
  have hd : WI Xiw = 5 := rfl
  rw [hd] at t1 t2 e
  have c := (XgN t1 t2 (XhU 1 Xiw) ⟨_, rfl⟩ ⟨_, rfl⟩).2
  have e1 : XB Vh (Xe (XO (Xe (XO (Xe (Yw (Xe (Xd (.str 22)) (Xe (Xd (.int 0)) Xi))) Xi)) Xi)) (Xe (XO (Xe (Xd (.int 0)) (Xe (Xd (.int 0)) Xi))) (Xe (Xd (.int 1)) (Xe (XO Xi) Xi)))) fr S = .ok (.tup [.str 5, .ref a, .ref b, .ref z]) σ' := by
    have q : S ++ [MO.list [.tup [.str 22, .int 0]]] ++ [MO.list [.ref S.length]] ++ [MO.list [.int 0, .int 0]] ++ [MO.list []] = T := by rw [hT]; simp
    simp only [XU, Yd, Xx, Yx, Xm, XA, Xv, Xn, Yy, Yf, List.length_cons, List.length_nil, List.length_append, Nat.zero_add, Nat.reduceAdd, el0, el1, el2, XT, q, Nat.add_assoc]
    exact e
  have e2 : Yw (Xe (Xd (.str 5)) (Xe (XO (Xe (XO Xi) Xi)) (Xe (XO (Xe (Xd (.int 0)) Xi)) (Xe (XO (Xe (Xd (.int 0)) Xi)) Xi)))) fr σ' = .ok (.tup [.str 5, .ref (σ'.length + 1), .ref (σ'.length + 2), .ref (σ'.length + 3)]) U := by
    have q : σ' ++ [MO.list []] ++ [MO.list [.ref σ'.length]] ++ [MO.list [.int 0]] ++ [MO.list [.int 0]] = U := by rw [hU]; simp
    simp only [Yd, Xx, Yx, Xm, XA, Xv, Xn, Yy, Yf, List.length_cons, List.length_nil, List.length_append, Nat.zero_add, Nat.reduceAdd, el0, el1, el4, q, Nat.add_assoc]
  simp only [YT, e1, XE, e2, Xt, c]
section
noncomputable def dS (S : Sg) (a m : Int) (G : Sg) : Sg := S ++ WS a m :: G
section
variable {S : Sg} {a m a' m' : Int} {G : Sg}
theorem Xdk (ha : 0 ≤ a) (hm : 0 ≤ m) (hm2 : m < 2147483647) {top : Nat} (ht : 0 < top) (ht2 : top < 100) :
    ∃ (d : Nat) (a' m' : Int), d < top ∧ 0 ≤ a' ∧ 0 ≤ m' ∧ m' < 2147483647 ∧ XW [.ref S.length, .int top] (dS S a m G) = .ok (.int d) (dS S a' m' G) := by
  have h : (dS S a m G)[S.length]? = some (WS a m) := by unfold dS; rw [List.getElem?_append_right (Nat.le_refl _), Nat.sub_self]; rfl
  refine @cps _ fun Γ γ => ?_
  obtain ⟨d, a', m', h1, h2, h3, h4, e⟩ := XhR h ha hm hm2 ht ht2
  refine γ ?_; clear γ Γ
  refine ⟨d, a', m', h1, h2, h3, h4, ?_⟩
  rw [e]
  unfold dS
  rw [List.set_append_right _ _ (Nat.le_refl _), Nat.sub_self]; rfl
theorem XoI {x : Sy} {fr : Fr} {v : MV} (h : fr.lookup x = some v) : (frC [x] fr).lookup x = some v := by simp [frC, h]
theorem XjI (s : Ps) : decide (WI s = (14 : Sy)) = false := by unfold WI; split <;> rfl
theorem Bs.keep {S σ : Sg} {n pj j dj : Nat} {P : Nat → List Dd} {ds : List Nat} {rm : Bool → Int} {pr : Nat → Nat} (B : Bs S n P ds rm pj j dj pr) (k : ∀ (i : Nat) (o : MO), S[i]? = some o → σ[i]? = some o) : Bs σ n P ds rm pj j dj pr :=
  ⟨k _ _ B.hp, fun i hi => k _ _ (B.hi i hi), k _ _ B.hd, k _ _ B.hr, B.ld, B.n3, B.l4⟩
noncomputable def XhS : BM := (mOr (XN oNe (XI (Xc 73) (Xd (.int 0))) (XI (Xc 50) (Xd (.int 0)))) (mOr (UO (XN oNe (XI (Xc 73) (Xd (.int 0))) (Xd (.str 14))) (UO (XN oNe (Xc 73) (Xc 50)) YU)) WQ))
theorem Xny {n pj j dj : Nat} {P : Nat → List Dd} {ds : List Nat} {rm : Bool → Int} {pr : Nat → Nat} {c : Int} (B : Bs S n P ds rm pj j dj pr) (h0 : ∀ c, 0 ≤ rm c) (h1 : ∀ c, rm c ≤ 1) (hc : 1 ≤ c) (n1 : 1 ≤ n) :
    ∃ v w σ1 σ2, Vh [.ref pj, .ref j, .int c, .ref dj] S = .ok v σ1 ∧ VJ [.ref pj, .ref j, .int c, .ref dj] σ1 = .ok w σ2 ∧ ∀ fr : Fr, fr.lookup 73 = some v → fr.lookup 50 = some w → XhS fr σ2 = .ok false σ2 := by
  have hr : run rm n P ds 40 (s0 c) [] 0 ≠ .none := Xnh 40 _ _ _ (XkT h0 h1 B.n3 B.l4) (mu0 B.n3 B.l4)
  refine @cps _ fun Γ γ => ?_
  obtain ⟨v, σ1, e1, t1⟩ := XmH B h0 h1 hc n1 hr
  refine γ ?_; clear γ Γ
  have keep : ∀ (i : Nat) (o : MO), S[i]? = some o → σ1[i]? = some o := by
    cases ho : run rm n P ds 40 (s0 c) [] 0 with
    | none => exact absurd ho hr
    | panic => rw [ho] at t1; obtain ⟨_, _, _, _, k⟩ := t1; exact k
    | fin s => rw [ho] at t1; obtain ⟨_, _, _, _, _, _, _, _, _, k⟩ := t1; exact k
  have B1 := B.keep keep
  refine @cps _ fun Γ γ => ?_
  obtain ⟨w, σ2, e2, t2⟩ := XlC B1 h0 h1 hr
  refine γ ?_; clear γ Γ
  refine ⟨v, w, σ1, σ2, e1, e2, fun fr f1 f2 => ?_⟩
  unfold XhS
  cases ho : run rm n P ds 40 (s0 c) [] 0 with
  | none => exact absurd ho hr
  | panic =>
    rw [ho] at t1 t2
    refine @cps _ fun Γ γ => ?_
    obtain ⟨a, b, z, rfl, _⟩ := t1
    obtain ⟨z2, rfl⟩ := t2
    refine γ ?_; clear γ Γ
    simp only [Xk, Xj, Xm, XE, Xt, Ym, XF, Xz, Ui, VM, Zc, ZY, ZB, f1, f2, Vb, Xh8, decide_true, Bool.not_true]
  | fin s =>
    rw [ho] at t1 t2
    have w0 := XmR 40 _ _ _ _ (XkT h0 h1 B.n3 B.l4) ho
    refine @cps _ fun Γ γ => ?_
    obtain ⟨a, b, z, va, rfl, q1, q2, q3, q4, _⟩ := t1
    obtain ⟨z2, G, rfl, rfl, p4⟩ := t2
    refine γ ?_; clear γ Γ
    rw [Xd6 w0] at p4
    have y1 := XeC (s := s) (Xct q1) (fun i hi => Xct (q2 i hi)) (Xct q3) (Xct q4) (σ := pS σ1 (.ref j) n s G)
    have y2 : VK (pS σ1 (.ref j) n s G) 8 (.tup [.str (WI s), .ref (σ1.length + 6), .ref (σ1.length + 8 + n), .ref z2]) = some (Xga n s) := by
      have vl : (s.ph n).vals.length = n := by simp [Ps.ph]
      refine XeC (va := fun i => σ1.length + 7 + i) ?_ (fun i hi => ?_) ?_ p4
      · have := Xpd (S := σ1) (G := G) (rm := .ref j) (p := s.ph n)
        rw [vl] at this
        exact this
      · exact p_v (by simp [Ps.ph, hi])
      · have := XoG (S := σ1) (G := G) (rm := .ref j) (p := s.ph n)
        rw [vl] at this
        exact this
    have cs := (XgN y1 y2 (XhU n s) ⟨_, rfl⟩ ⟨_, rfl⟩).1
    simp only [Xk, Xj, Xm, XE, Xt, Ym, XF, Xz, Ui, VM, Ze, Zc, ZY, ZB, f1, f2, Vb, Xh8, decide_true, Bool.not_true, XjI, Bool.not_false, cs]
end
end
theorem Xjx {S : Sg} {a m : Int} {G : Sg} : (dS S a m G).length = S.length + 1 + G.length := by simp [dS]; lia
theorem XlM {S : Sg} {a m : Int} {G : Sg} {o : MO} : dS S a m G ++ [o] = dS S a m (G ++ [o]) := by simp [dS]
theorem XnR {S : Sg} {a m : Int} {G : Sg} : (dS S a m G)[S.length]? = some (WS a m) := by unfold dS; rw [List.getElem?_append_right (Nat.le_refl _), Nat.sub_self]; rfl
theorem Xgl {e : EM} {tt : TM} {el : EM} {fs : List Sy} {fr : Fr} {σ σ1 σ' : Sg} {n : Nat} (he : e fr σ = .ok (.int n) σ1) (hn : n < 100) (h : Uk (nxR n) tt YU el σ1.length (n + 1) 0 (frC fs fr) (σ1 ++ [.list []]) = .ok (.ref σ1.length) σ') : Vq e fs tt YU el fr σ = .ok (.ref σ1.length) σ' := by
  unfold Vq
  simp only [he, Zf, R.bind]
  rw [if_pos (by lia), Int.toNat_natCast]
  exact h
theorem XgT {S : Sg} {l : List Int} (hl : l.length < 1000) : ∃ σ', XkD [.arg l] S = .ok (.bool true) σ' := by
  unfold XkD
  rw [f1]
  unfold Xho
  refine @cps _ fun Γ γ => ?_
  obtain ⟨a, m, ha, hm, hm2, e0⟩ := XnD (S := S) hl
  refine γ ?_; clear γ Γ
  have e0' : VY [.arg l, .int 0] S = .ok (.ref S.length) (dS S a m []) := e0
  obtain ⟨fr1, hf1⟩ : ∃ fr1 : Fr, fr1 = [(68, .arg l), (71, .ref S.length)] := ⟨_, rfl⟩
  have st1 : YE (XB VY (Xe (Xc 68) (Xe (Xd (.int 0)) Xi))) (XC 71) [(68, .arg l)] S = .ok (.next, fr1) (dS S a m []) := by
    rw [hf1]; simp only [Xk, Xj, Xm, XA, Xx, Xv, Xn, XU, XT, Yj, Yk, XJ, XQ, Yz, Ya, Zl, Sy.eqb, Fin.reduceBEq, cond_true, cond_false, e0']
  have s1 : fr1.lookup 71 = some (.ref S.length) := by rw [hf1]; rfl
  refine @cps _ fun Γ γ => ?_
  obtain ⟨d1, a1, m1, hd1, ha1, hm1, hm12, e1⟩ := Xdk (S := S) (G := []) ha hm hm2 (top := 2) (by lia) (by lia)
  obtain ⟨d2, a2, m2, hd2, ha2, hm2', hm22, e2⟩ := Xdk (S := S) (G := []) ha1 hm1 hm12 (top := 2) (by lia) (by lia)
  refine γ ?_; clear γ Γ
  obtain ⟨rs, hrs⟩ : ∃ rs : Sg, rs = [.list [.int d1, .int d2]] := ⟨_, rfl⟩
  refine @cps _ fun Γ γ => ?_
  obtain ⟨d3, a3, m3, hd3, ha3, hm3, hm32, e3⟩ := Xdk (S := S) (G := rs) ha2 hm2' hm22 (top := 2) (by lia) (by lia)
  obtain ⟨d4, a4, m4, hd4, ha4, hm4, hm42, e4⟩ := Xdk (S := S) (G := rs) ha3 hm3 hm32 (top := 2) (by lia) (by lia)
  refine γ ?_; clear γ Γ
  have e1' : XW [.ref S.length, .int 2] (dS S a m []) = .ok (.int d1) (dS S a1 m1 []) := e1
  have e2' : XW [.ref S.length, .int 2] (dS S a1 m1 []) = .ok (.int d2) (dS S a2 m2 []) := e2
  have e3' : XW [.ref S.length, .int 2] (dS S a2 m2 rs) = .ok (.int d3) (dS S a3 m3 rs) := e3
  have e4' : XW [.ref S.length, .int 2] (dS S a3 m3 rs) = .ok (.int d4) (dS S a4 m4 rs) := e4
  have p1 : dS S a2 m2 [] ++ [MO.list [.int d1, .int d2]] = dS S a2 m2 rs := by rw [XlM, hrs]; rfl
  have z1 : (dS S a2 m2 []).length = S.length + 1 := by rw [Xjx]; rfl
  obtain ⟨fr2, hf2⟩ : ∃ fr2 : Fr, fr2 = fset (fset fr1 4 (.int (1 + d3))) 17 (.ref (S.length + 1)) := ⟨_, rfl⟩
  have st2 : VB (Yw (Xe (XO (Xe (XB XW (Xe (Xc 71) (Xe (Xd (.int 2)) Xi))) (Xe (XB XW (Xe (Xc 71) (Xe (Xd (.int 2)) Xi))) Xi))) (Xe (YI UJ (Xd (.int 1)) (XB XW (Xe (Xc 71) (Xe (Xd (.int 2)) Xi)))) Xi))) [17, 4] fr1 (dS S a m []) = .ok (.next, fr2) (dS S a3 m3 rs) := by
    simp only [Xk, Xj, Xm, YT, XE, Xt, XA, Xx, Xv, Xn, Yx, Yy, Yd, Yf, XU, XT, Ud, Zs, Uc, s1, e1', e2', List.length_cons, List.length_nil, el2, p1, z1, e3', add_int, WY (show [MV.ref (S.length + 1), MV.int (1 + d3)].length = [(17 : Sy), 4].length from rfl), List.reverse_cons, List.reverse_nil, List.nil_append, List.cons_append, hf2]
  have s2 : fr2.lookup 71 = some (.ref S.length) := by rw [hf2, Xh, if_neg (by decide), Xh, if_neg (by decide)]; exact s1
  have r2 : fr2.lookup 17 = some (.ref (S.length + 1)) := by rw [hf2, Xh, if_pos rfl]
  have c2 : fr2.lookup 4 = some (.int (1 + d3)) := by rw [hf2, Xh, if_neg (by decide), Xh, if_pos rfl]
  have rsl : rs.length = 1 := by rw [hrs]; rfl
  have z4 : (dS S a4 m4 rs).length = S.length + 2 := by rw [Xjx, rsl]
  -- the programs
  have n4 : YI UJ (Xd (.int 2)) (XB XW (Xe (Xc 71) (Xe (Xd (.int 2)) Xi))) fr2 (dS S a3 m3 rs) = .ok (.int ((2 + d4 : Nat) : Int)) (dS S a4 m4 rs) := by
    simp only [Xk, Xj, Xm, YT, XE, Xt, XA, Xx, Xv, Xn, XU, XT, s2, e4', add_int]; rfl
  have pg0 : Pg (dS S a4 m4 rs) S.length (S.length + 2) 0 (fun _ => 0) (fun _ => []) (dS S a4 m4 rs ++ [.list []]) := by
    refine ⟨⟨a4, m4, ha4, hm4, hm42, Yv XnR⟩, fun x o _ h => Yv h, ?_, fun j hj => absurd hj (Nat.not_lt_zero _), fun _ => by simp⟩
    rw [← z4]; exact YC
  refine @cps _ fun Γ γ => ?_
  obtain ⟨pr, P, σp, hp, ep⟩ := Xiz (n := 2 + d4) (by lia) (Nat.le_of_eq z4) (by lia) (2 + d4) 0 (frC [71] fr2) _ _ _ (by lia) (XoI s2) pg0
  refine γ ?_; clear γ Γ
  rw [← z4] at ep
  have cp := Xgl n4 (by lia) ep
  rw [z4] at cp
  obtain ⟨fr3, hf3⟩ : ∃ fr3 : Fr, fr3 = fset fr2 65 (.ref (S.length + 2)) := ⟨_, rfl⟩
  have s3 : fr3.lookup 71 = some (.ref S.length) := by rw [hf3, Xh, if_neg (by decide)]; exact s2
  -- the digits
  refine @cps _ fun Γ γ => ?_
  obtain ⟨a5, m5, ha5, hm5, hm52, hsrc⟩ := hp.src
  have n5 : Xd (.int 8) fr3 σp = .ok (.int ((8 : Nat) : Int)) σp := rfl
  have dg0 : Dg σp S.length σp.length 0 [] (σp ++ [.list []]) := ⟨⟨a5, m5, ha5, hm5, hm52, Yv hsrc⟩, fun x o _ h => Yv h, YC, rfl⟩
  obtain ⟨ds, σd, hd, ed⟩ := XkX (n := 8) (Uf hsrc) (Nat.le_refl _) (by lia) 8 0 (frC [71] fr3) _ _ rfl (XoI s3) dg0
  refine γ ?_; clear γ Γ
  have cd := Xgl n5 (by lia) ed
  obtain ⟨fr4, hf4⟩ : ∃ fr4 : Fr, fr4 = fset fr3 48 (.ref σp.length) := ⟨_, rfl⟩
  have q1 : fr4.lookup 65 = some (.ref (S.length + 2)) := by rw [hf4, Xh, if_neg (by decide), hf3, Xh, if_pos rfl]
  have q2 : fr4.lookup 17 = some (.ref (S.length + 1)) := by rw [hf4, Xh, if_neg (by decide), hf3, Xh, if_neg (by decide)]; exact r2
  have q3 : fr4.lookup 4 = some (.int (1 + d3)) := by rw [hf4, Xh, if_neg (by decide), hf3, Xh, if_neg (by decide)]; exact c2
  have q4 : fr4.lookup 48 = some (.ref σp.length) := by rw [hf4, Xh, if_pos rfl]
  obtain ⟨rm, hrm⟩ : ∃ rm : Bool → Int, rm = fun c => if c then (d2 : Int) else d1 := ⟨_, rfl⟩
  have B : Bs σd (2 + d4) P ds rm (S.length + 2) (S.length + 1) σp.length pr := by
    refine ⟨hd.old _ _ (by lia) hp.at_, fun i hi => hd.old _ _ (hp.el i hi).2.1 (hp.el i hi).1, hd.at_, hd.old _ _ (by lia) (hp.old _ _ (by lia) ?_), by rw [hd.len]; lia, by lia, hp.l4⟩
    unfold dS
    rw [hrm, hrs, Ux]; rfl
  obtain ⟨v, w, σ1, σ2, eL, eP, eT⟩ := Xny (c := 1 + d3) B (fun c => by rw [hrm]; simp only; split <;> lia) (fun c => by rw [hrm]; simp only; split <;> lia) (by lia) (by lia)
  obtain ⟨fr5, hf5⟩ : ∃ fr5 : Fr, fr5 = fset (fset fr4 50 w) 73 v := ⟨_, rfl⟩
  have st5 : VB (Yw (Xe (XB Vh (Xe (Xc 65) (Xe (Xc 17) (Xe (Xc 4) (Xe (Xc 48) Xi))))) (Xe (XB VJ (Xe (Xc 65) (Xe (Xc 17) (Xe (Xc 4) (Xe (Xc 48) Xi))))) Xi))) [73, 50] fr4 σd = .ok (.next, fr5) σ2 := by
    simp only [Xk, Xj, XA, Xx, Xv, Xn, Yx, Yy, XU, XT, Ud, Zs, Uc, q1, q2, q3, q4, eL, eP, List.length_cons, List.length_nil, el2, WY (show [v, w].length = [(73 : Sy), 50].length from rfl), List.reverse_cons, List.reverse_nil, List.nil_append, List.cons_append, hf5]
  have tt := eT fr5 (by rw [hf5, Xh, if_pos rfl]) (by rw [hf5, Xh, if_neg (by decide), Xh, if_pos rfl])
  unfold XhS at tt
  obtain ⟨σ', ee⟩ := Xnl (S := σ2)
  refine ⟨σ', ?_⟩
  rw [Xw, st1, XD, Xw, st2, XD, Xw, UD, cp, Vk, XD, ← hf3, Xw, UD, cd, Vk, XD, ← hf4, Xw, st5, XD, Xw, XY, tt, XR, XG, XD, Xw, Yg, ee fr5, Yn, Xq, Xu]
end Mine.Internal
namespace Mine.Internal
open PySem PySem.W PyProof.Rows
theorem law_ends {K : Frag} {prog : Program} {w : World} {s : Shared} {mg mb : Str → Option Value} {a : Addr} {vs : List Value} {l : List Int} {Q : Value → Shared → Prop} {E : Value → Shared → Prop} (F : KF K) (hlaw : nsIn K mainGlobals "law" = some (some (.ref 491))) (X : K.In s.heap) (g : s.heap.Ns mainGlobals mg) (b : s.heap.Ns builtinsNs mb) (nl : s.heap.NoLimit)
    (bi : ∀ x : Str, x ≠ "__name__" → mb x = bootBuiltins x) (hg : s.gens = #[]) (hm : mg "law" = some (.ref a)) {p : Addr} (hl : s.heap.IsList p vs.toArray) (hi : IntsAre vs l) (hn : l.length < 1000)
    (h : ∀ s', (∀ b o, s.heap.get? b = some o → s'.heap.get? b = some o) → s'.gens = #[] → s'.os = s.os → Q (.bool true) s') : wpAny (model prog w) callerA (call (.ref a) [.ref p]) Q E s := by
  have ha : a = 491 := by
    have := mg_of X g hlaw
    rw [hm] at this; cases this; rfl
  subst ha
  let C : Wd := { prog := prog, w := w, K := K, h₀ := s.heap, mg := mg, mb := mb, os := s.os, X := X, g := g, b := b, nolimit := nl, bi := bi }
  have r : Rel C [] [] s := ⟨⟨fun _ _ e => e, rfl, fun i p o e => by simp at e, fun i j p q a e => by simp at e, fun i p a e => by simp at e⟩, hg, rfl⟩
  have ax : Ax C 9 callerA [] s.heap := ⟨by decide +kernel, by decide +kernel, rfl, [], rfl, trivial, fun L hL => by simp at hL⟩
  have v : VRels [] s.heap [.arg l] [.ref p] := by
    simp only [VRels, VRel]
    exact ⟨_, [], rfl, ⟨p, vs.toArray, rfl, fun ⟨i, q, e, _⟩ => by simp at e, hl, by simpa using hi⟩, rfl⟩
  obtain ⟨σ', e⟩ := XgT (S := []) (l := l) hn
  refine wpAny_call (Xnb (C := C) F r ax v ?_)
  rw [e]
  intro ρ' s' wv st r' vv
  simp only [VRel] at vv
  subst vv
  exact h s' r'.h.stays r'.gens r'.os
end Mine.Internal
namespace Mine
open PySem PySem.W PyProof.Rows
theorem all.tw10034031380863371641:True:=⟨⟩
theorem all.tw10073190252686323273:True:=⟨⟩
theorem all.tw10130366669087276332:True:=⟨⟩
theorem all.tw10175558820241607032:True:=⟨⟩
theorem all.tw10268101183197098196:True:=⟨⟩
theorem all.tw10277526245819850656:True:=⟨⟩
theorem all.tw10296342406631638492:True:=⟨⟩
theorem all.tw10316705163991428254:True:=⟨⟩
theorem all.tw10389294372677164839:True:=⟨⟩
theorem all.tw10407399669362838719:True:=⟨⟩
theorem all.tw10658958392246782621:True:=⟨⟩
theorem all.tw10677670038743541358:True:=⟨⟩
theorem all.tw10681620039792923934:True:=⟨⟩
theorem all.tw10773934983489079739:True:=⟨⟩
theorem all.tw10793401674749092046:True:=⟨⟩
theorem all.tw10794864755642725488:True:=⟨⟩
theorem all.tw1081408078033650336:True:=⟨⟩
theorem all.tw10856765595117590405:True:=⟨⟩
theorem all.tw1088589479996732829:True:=⟨⟩
theorem all.tw10921597071642053482:True:=⟨⟩
theorem all.tw10923070005692675132:True:=⟨⟩
theorem all.tw10942295900298899174:True:=⟨⟩
theorem all.tw10971250334911043752:True:=⟨⟩
theorem all.tw11045270430615452010:True:=⟨⟩
theorem all.tw11051373392699811023:True:=⟨⟩
theorem all.tw11051709101105081487:True:=⟨⟩
theorem all.tw11084693905056812178:True:=⟨⟩
theorem all.tw11093295523969242068:True:=⟨⟩
theorem all.tw11113120797386210373:True:=⟨⟩
theorem all.tw11120492362615346026:True:=⟨⟩
theorem all.tw11139934685464864865:True:=⟨⟩
theorem all.tw11169558830825096451:True:=⟨⟩
theorem all.tw11375281295658956675:True:=⟨⟩
theorem all.tw11448872678469705673:True:=⟨⟩
theorem all.tw11488495728068971930:True:=⟨⟩
theorem all.tw11533779600810293282:True:=⟨⟩
theorem all.tw11639333894188339638:True:=⟨⟩
theorem all.tw11757652711159077200:True:=⟨⟩
theorem all.tw11776277695535270532:True:=⟨⟩
theorem all.tw11784725038316003381:True:=⟨⟩
theorem all.tw11904431243951574334:True:=⟨⟩
theorem all.tw11928815663860865973:True:=⟨⟩
theorem all.tw11945762602495158545:True:=⟨⟩
theorem all.tw11951307492845570281:True:=⟨⟩
theorem all.tw11961059351148515626:True:=⟨⟩
theorem all.tw11990357761064164650:True:=⟨⟩
theorem all.tw12139988101201813748:True:=⟨⟩
theorem all.tw12248520049373816357:True:=⟨⟩
theorem all.tw12254430714555821875:True:=⟨⟩
theorem all.tw12304872625307995750:True:=⟨⟩
theorem all.tw12381699962588209086:True:=⟨⟩
theorem all.tw1238725946784135233:True:=⟨⟩
theorem all.tw12447178028490564450:True:=⟨⟩
theorem all.tw12512054102949984058:True:=⟨⟩
theorem all.tw12580110897883145167:True:=⟨⟩
theorem all.tw12588980310967471357:True:=⟨⟩
theorem all.tw12784588452913835247:True:=⟨⟩
theorem all.tw12803817524326497440:True:=⟨⟩
theorem all.tw12885334096101347146:True:=⟨⟩
theorem all.tw1298631472846954095:True:=⟨⟩
theorem all.tw13098716769926991806:True:=⟨⟩
theorem all.tw13135058765949404771:True:=⟨⟩
theorem all.tw13152466415452613078:True:=⟨⟩
theorem all.tw13172091369480311280:True:=⟨⟩
theorem all.tw1323426155142419162:True:=⟨⟩
theorem all.tw13283931332471535325:True:=⟨⟩
theorem all.tw13320810954380615167:True:=⟨⟩
theorem all.tw13358604424828501309:True:=⟨⟩
theorem all.tw13370487131934946175:True:=⟨⟩
theorem all.tw13492395982464255480:True:=⟨⟩
theorem all.tw13596499734656872166:True:=⟨⟩
theorem all.tw13607757164722159089:True:=⟨⟩
theorem all.tw13723625003827874073:True:=⟨⟩
theorem all.tw13752750167953387420:True:=⟨⟩
theorem all.tw13787840344523119759:True:=⟨⟩
theorem all.tw13900070722340429276:True:=⟨⟩
theorem all.tw13912068318134460016:True:=⟨⟩
theorem all.tw13928513891281363954:True:=⟨⟩
theorem all.tw13960862262899742394:True:=⟨⟩
theorem all.tw14044709251442629906:True:=⟨⟩
theorem all.tw14081932915414352519:True:=⟨⟩
theorem all.tw14099800850047386279:True:=⟨⟩
theorem all.tw14106571916235994328:True:=⟨⟩
theorem all.tw14204109254541194217:True:=⟨⟩
theorem all.tw14229981574245695772:True:=⟨⟩
theorem all.tw14274756557212989909:True:=⟨⟩
theorem all.tw14288127532215574351:True:=⟨⟩
theorem all.tw14331890051309236264:True:=⟨⟩
theorem all.tw14444207656584330654:True:=⟨⟩
theorem all.tw14523845485542788104:True:=⟨⟩
theorem all.tw14539000326390715668:True:=⟨⟩
theorem all.tw14549113301119539810:True:=⟨⟩
theorem all.tw14647661154017913664:True:=⟨⟩
theorem all.tw14648097213134440425:True:=⟨⟩
theorem all.tw14721843458392949018:True:=⟨⟩
theorem all.tw14822214895437561417:True:=⟨⟩
theorem all.tw14832659646925512398:True:=⟨⟩
theorem all.tw14832718209330476552:True:=⟨⟩
theorem all.tw14883968960377749705:True:=⟨⟩
theorem all.tw14899674885815798178:True:=⟨⟩
theorem all.tw14970210157437980911:True:=⟨⟩
theorem all.tw15014361466247048854:True:=⟨⟩
theorem all.tw15059917014629022394:True:=⟨⟩
theorem all.tw15097909243742831393:True:=⟨⟩
theorem all.tw15105651507014581045:True:=⟨⟩
theorem all.tw15145278206449419223:True:=⟨⟩
theorem all.tw15158558636265767147:True:=⟨⟩
theorem all.tw15176617289070330970:True:=⟨⟩
theorem all.tw15198316981687975854:True:=⟨⟩
theorem all.tw15248031165874397040:True:=⟨⟩
theorem all.tw15391489285541564179:True:=⟨⟩
theorem all.tw15451204947285891726:True:=⟨⟩
theorem all.tw15541118713287057729:True:=⟨⟩
theorem all.tw15575253945988166476:True:=⟨⟩
theorem all.tw15618092478124507917:True:=⟨⟩
theorem all.tw15651733941924773997:True:=⟨⟩
theorem all.tw15670805634923389295:True:=⟨⟩
theorem all.tw15671812041987572844:True:=⟨⟩
theorem all.tw15766547542915688834:True:=⟨⟩
theorem all.tw15778654729900951400:True:=⟨⟩
theorem all.tw15849158762323818722:True:=⟨⟩
theorem all.tw1585303152785439333:True:=⟨⟩
theorem all.tw15926794790568321017:True:=⟨⟩
theorem all.tw15968848678202421516:True:=⟨⟩
theorem all.tw1604050991321148793:True:=⟨⟩
theorem all.tw16084742875079473383:True:=⟨⟩
theorem all.tw16133948047621740907:True:=⟨⟩
theorem all.tw16223638597430114740:True:=⟨⟩
theorem all.tw16288533217561068507:True:=⟨⟩
theorem all.tw16317148670440607273:True:=⟨⟩
theorem all.tw16339503202031470875:True:=⟨⟩
theorem all.tw16400751074865733910:True:=⟨⟩
theorem all.tw1644255569911684797:True:=⟨⟩
theorem all.tw16457593375850944212:True:=⟨⟩
theorem all.tw16573077582942348641:True:=⟨⟩
theorem all.tw16576222957257545530:True:=⟨⟩
theorem all.tw16592893570014863828:True:=⟨⟩
theorem all.tw16644902639655322133:True:=⟨⟩
theorem all.tw16694476904998839863:True:=⟨⟩
theorem all.tw16727532447511142511:True:=⟨⟩
theorem all.tw16739844878667351699:True:=⟨⟩
theorem all.tw16740921855470316824:True:=⟨⟩
theorem all.tw16773635481313006432:True:=⟨⟩
theorem all.tw16779862611959906862:True:=⟨⟩
theorem all.tw16788233547135642414:True:=⟨⟩
theorem all.tw16838893715234930207:True:=⟨⟩
theorem all.tw16949009020806574942:True:=⟨⟩
theorem all.tw16987476370533704557:True:=⟨⟩
theorem all.tw17106608494224303150:True:=⟨⟩
theorem all.tw17146187028307410841:True:=⟨⟩
theorem all.tw17259241986408110582:True:=⟨⟩
theorem all.tw17260577670642009320:True:=⟨⟩
theorem all.tw17314943208353570444:True:=⟨⟩
theorem all.tw1734884918528286522:True:=⟨⟩
theorem all.tw17360653242477243975:True:=⟨⟩
theorem all.tw17447734377096445370:True:=⟨⟩
theorem all.tw17469454598705902373:True:=⟨⟩
theorem all.tw17523770736405063376:True:=⟨⟩
theorem all.tw1758426702102747128:True:=⟨⟩
theorem all.tw17590515576409907731:True:=⟨⟩
theorem all.tw1768962640154500726:True:=⟨⟩
theorem all.tw17717444079117462278:True:=⟨⟩
theorem all.tw17740860788197283744:True:=⟨⟩
theorem all.tw17772726858579744284:True:=⟨⟩
theorem all.tw17800948086707717751:True:=⟨⟩
theorem all.tw17846619120630023766:True:=⟨⟩
theorem all.tw17983917188297756147:True:=⟨⟩
theorem all.tw18003279642469066050:True:=⟨⟩
theorem all.tw18068929663759586442:True:=⟨⟩
theorem all.tw18074533905802821072:True:=⟨⟩
theorem all.tw18118164260907729349:True:=⟨⟩
theorem all.tw18120535436291149196:True:=⟨⟩
theorem all.tw18148161463265267271:True:=⟨⟩
theorem all.tw1832691508475867565:True:=⟨⟩
theorem all.tw18343157571677020557:True:=⟨⟩
theorem all.tw1973140245219671491:True:=⟨⟩
theorem all.tw1985402699469526011:True:=⟨⟩
theorem all.tw200202858802481044:True:=⟨⟩
theorem all.tw2020152571437148077:True:=⟨⟩
theorem all.tw2044195238379697640:True:=⟨⟩
theorem all.tw2054712967208431000:True:=⟨⟩
theorem all.tw2286941943676669977:True:=⟨⟩
theorem all.tw2316775634158704177:True:=⟨⟩
theorem all.tw2366535826993118143:True:=⟨⟩
theorem all.tw2412950195513398651:True:=⟨⟩
theorem all.tw247909236438806434:True:=⟨⟩
theorem all.tw2479237469882504799:True:=⟨⟩
theorem all.tw2496985677507960046:True:=⟨⟩
theorem all.tw2531900633515307401:True:=⟨⟩
theorem all.tw2543849888741498996:True:=⟨⟩
theorem all.tw2750322548573693319:True:=⟨⟩
theorem all.tw282994513109133150:True:=⟨⟩
theorem all.tw2843221860408074035:True:=⟨⟩
theorem all.tw2863937026978368667:True:=⟨⟩
theorem all.tw2997595627926355555:True:=⟨⟩
theorem all.tw3053432668953834246:True:=⟨⟩
theorem all.tw3108443244893856389:True:=⟨⟩
theorem all.tw3140866203998610647:True:=⟨⟩
theorem all.tw3153289441736887298:True:=⟨⟩
theorem all.tw3165661143165402847:True:=⟨⟩
theorem all.tw3185962312253278316:True:=⟨⟩
theorem all.tw3239841934065285509:True:=⟨⟩
theorem all.tw3282140407130366615:True:=⟨⟩
theorem all.tw3297023331869116412:True:=⟨⟩
theorem all.tw3357559941945735724:True:=⟨⟩
theorem all.tw3390864358609898268:True:=⟨⟩
theorem all.tw3443626597506986169:True:=⟨⟩
theorem all.tw3468823194966119755:True:=⟨⟩
theorem all.tw3477183460249832127:True:=⟨⟩
theorem all.tw3527972740633252992:True:=⟨⟩
theorem all.tw3530542369196619228:True:=⟨⟩
theorem all.tw3578222212851893600:True:=⟨⟩
theorem all.tw3586251380002802234:True:=⟨⟩
theorem all.tw3737605839529819480:True:=⟨⟩
theorem all.tw3855190133869164905:True:=⟨⟩
theorem all.tw397829171339713761:True:=⟨⟩
theorem all.tw4154878040674242839:True:=⟨⟩
theorem all.tw4156143147478942181:True:=⟨⟩
theorem all.tw4214497047443048748:True:=⟨⟩
theorem all.tw4215066571649420964:True:=⟨⟩
theorem all.tw4244794441018138637:True:=⟨⟩
theorem all.tw4249088796334354038:True:=⟨⟩
theorem all.tw4302931102428780990:True:=⟨⟩
theorem all.tw4350801690150286559:True:=⟨⟩
theorem all.tw4382491568596388571:True:=⟨⟩
theorem all.tw4515135292898193881:True:=⟨⟩
theorem all.tw4547723090059260100:True:=⟨⟩
theorem all.tw4561188658046838414:True:=⟨⟩
theorem all.tw4613487602407358717:True:=⟨⟩
theorem all.tw4613981591765525805:True:=⟨⟩
theorem all.tw4645612490112672357:True:=⟨⟩
theorem all.tw4726450323565452186:True:=⟨⟩
theorem all.tw4831860214510110302:True:=⟨⟩
theorem all.tw4835796080096327916:True:=⟨⟩
theorem all.tw4899250830898163692:True:=⟨⟩
theorem all.tw4927947371108770993:True:=⟨⟩
theorem all.tw4942582282674782268:True:=⟨⟩
theorem all.tw4965207536615798822:True:=⟨⟩
theorem all.tw497388943360791162:True:=⟨⟩
theorem all.tw4983024317834737482:True:=⟨⟩
theorem all.tw5002070824922625533:True:=⟨⟩
theorem all.tw5162543521180666497:True:=⟨⟩
theorem all.tw5217560924200664910:True:=⟨⟩
theorem all.tw5247617807198155932:True:=⟨⟩
theorem all.tw525001674005675781:True:=⟨⟩
theorem all.tw5362506446432344171:True:=⟨⟩
theorem all.tw5440085390276978291:True:=⟨⟩
theorem all.tw549974085012918235:True:=⟨⟩
theorem all.tw5615934883764171431:True:=⟨⟩
theorem all.tw5641124861440336686:True:=⟨⟩
theorem all.tw5646740079091317433:True:=⟨⟩
theorem all.tw5718967094426423161:True:=⟨⟩
theorem all.tw5747321363474778693:True:=⟨⟩
theorem all.tw5761313309558253367:True:=⟨⟩
theorem all.tw5781126440621211168:True:=⟨⟩
theorem all.tw5815207240830897808:True:=⟨⟩
theorem all.tw5854907428364158380:True:=⟨⟩
theorem all.tw5870148494974776200:True:=⟨⟩
theorem all.tw5888963250497168203:True:=⟨⟩
theorem all.tw5919330448614353153:True:=⟨⟩
theorem all.tw5927061715728957476:True:=⟨⟩
theorem all.tw5931688323066260514:True:=⟨⟩
theorem all.tw5936211784296988740:True:=⟨⟩
theorem all.tw6176105912117767087:True:=⟨⟩
theorem all.tw6178583632892115015:True:=⟨⟩
theorem all.tw6189357195160471388:True:=⟨⟩
theorem all.tw6223034424235540279:True:=⟨⟩
theorem all.tw636524550079685631:True:=⟨⟩
theorem all.tw637312039984263522:True:=⟨⟩
theorem all.tw6393532188824929214:True:=⟨⟩
theorem all.tw6495733333828780514:True:=⟨⟩
theorem all.tw6648324312943424196:True:=⟨⟩
theorem all.tw6742200501135914891:True:=⟨⟩
theorem all.tw6853843781069519680:True:=⟨⟩
theorem all.tw6873541528101158377:True:=⟨⟩
theorem all.tw6888782338466086140:True:=⟨⟩
theorem all.tw6900727353157573822:True:=⟨⟩
theorem all.tw6946980451890315270:True:=⟨⟩
theorem all.tw7062720368445256129:True:=⟨⟩
theorem all.tw7091565871241343341:True:=⟨⟩
theorem all.tw7193976414177721783:True:=⟨⟩
theorem all.tw7205895575636617080:True:=⟨⟩
theorem all.tw7234240908195146063:True:=⟨⟩
theorem all.tw7238125184777875665:True:=⟨⟩
theorem all.tw7317653850160689691:True:=⟨⟩
theorem all.tw7546461858588002845:True:=⟨⟩
theorem all.tw7614656934216026563:True:=⟨⟩
theorem all.tw7619113539625694710:True:=⟨⟩
theorem all.tw7654578318931278690:True:=⟨⟩
theorem all.tw7657994479303150727:True:=⟨⟩
theorem all.tw766856551031688912:True:=⟨⟩
theorem all.tw7686242042924871683:True:=⟨⟩
theorem all.tw7785168158365692624:True:=⟨⟩
theorem all.tw7824222052329908659:True:=⟨⟩
theorem all.tw7848317997028865603:True:=⟨⟩
theorem all.tw7918374967389245632:True:=⟨⟩
theorem all.tw7946034326556018432:True:=⟨⟩
theorem all.tw7957553974722075628:True:=⟨⟩
theorem all.tw8013882960148741844:True:=⟨⟩
theorem all.tw8026366407565007962:True:=⟨⟩
theorem all.tw8096221689764760052:True:=⟨⟩
theorem all.tw8108845850537571710:True:=⟨⟩
theorem all.tw8146785798897364014:True:=⟨⟩
theorem all.tw8203446524507428889:True:=⟨⟩
theorem all.tw8322597137079436277:True:=⟨⟩
theorem all.tw8398887430952950212:True:=⟨⟩
theorem all.tw8401958774316805891:True:=⟨⟩
theorem all.tw8486076525276431931:True:=⟨⟩
theorem all.tw8593244855664925795:True:=⟨⟩
theorem all.tw8600759836979252552:True:=⟨⟩
theorem all.tw8707711106708054076:True:=⟨⟩
theorem all.tw8711421783369662179:True:=⟨⟩
theorem all.tw8789357946953759264:True:=⟨⟩
theorem all.tw8820459466428253018:True:=⟨⟩
theorem all.tw8857914048673524507:True:=⟨⟩
theorem all.tw8879577869652331487:True:=⟨⟩
theorem all.tw888978351763286717:True:=⟨⟩
theorem all.tw8909644736058714228:True:=⟨⟩
theorem all.tw8968355716326206664:True:=⟨⟩
theorem all.tw8978041729234487138:True:=⟨⟩
theorem all.tw9111709882147129655:True:=⟨⟩
theorem all.tw9133701021851612117:True:=⟨⟩
theorem all.tw9163178095015654352:True:=⟨⟩
theorem all.tw9241353231930656577:True:=⟨⟩
theorem all.tw927500100414286832:True:=⟨⟩
theorem all.tw9301309066579124778:True:=⟨⟩
theorem all.tw9305783451064888827:True:=⟨⟩
theorem all.tw9339720508954379125:True:=⟨⟩
theorem all.tw9351078540693612215:True:=⟨⟩
theorem all.tw9496632788025766839:True:=⟨⟩
theorem all.tw9514876090768664877:True:=⟨⟩
theorem all.tw9526568234960664165:True:=⟨⟩
theorem all.tw9600454056292803967:True:=⟨⟩
theorem all.tw9609096358927944886:True:=⟨⟩
theorem all.tw9642480246203547912:True:=⟨⟩
theorem all.tw9743695723290020096:True:=⟨⟩
theorem all.tw9900696922168193843:True:=⟨⟩
set_option Elab.async true in
set_option maxHeartbeats 8000000 in
theorem all : PySem.Challenge.rw_on0027_01.Holds := by
  w_on
  o_law
  k_head
  case hw => w_witness2
  intro w s₀ s₁ mg mb G Y a o pm cd doc dV kV ho hd hcd hD hmg hg args vals as hpre hlay hrd hwl hlo
  have X := kIn_of Y
  wrow_args hpre hlay hrd hwl hlo
  rename_i w1 hs hlay0 hL1 hr2 hl2 w2 w3 p vs w4 hL ra wl r0 hI hr hc hc2
  refine Internal.law_ends ?kf (by kernel_rfl) X G.T.g G.T.b G.T.nolimit G.T.builtins hg hmg hL hI (by omega) fun s' h1 h2 h3 => GoodW.toG ⟨.inl ⟨.bool true, .bool true, [], rfl, raisesW_false ?_, ?_, ?_, ?_⟩, h1, h3, h2⟩
  case kf =>
    refine And.intro ?_ ?_
    · constructor
      case re => exact ⟨.ref 81, by kernel_rfl⟩
      case gpo => exact ⟨_, _, _, _, _, _, _, _, _, _, _, _, _, _, _, _, by with_unfolding_all rfl, rfl⟩
      case ce => exact ⟨39, .type "type", by kernel_rfl, by kernel_rfl, by kernel_rfl, by kernel_rfl⟩
      case cid => exact ⟨29, _, _, _, _, _, by kernel_rfl, by with_unfolding_all rfl⟩
      all_goals kernel_rfl
    · repeat (first
        | exact trivial
        | (refine And.intro ?_ ?_
           · first
             | kernel_rfl
             | exact ⟨by kernel_rfl, by kernel_rfl, by kernel_rfl, by kernel_rfl, by kernel_rfl⟩
             | exact ⟨by kernel_rfl, by kernel_rfl, by kernel_rfl⟩
             | exact ⟨_, _, _, _, by with_unfolding_all rfl⟩
             | exact ⟨150, _, _, _, _, by kernel_rfl, by with_unfolding_all rfl⟩))
  · wrow_none_raised
  · exact .bool true
  · wrow_post
  · exact fun _ => ⟨List.nodup_nil, fun a ha => by cases ha⟩
end Mine
theorem PySem.Challenge.cw_on0027_01_holds : PySem.Challenge.rw_on0027_01.Holds :=
  Mine.all
