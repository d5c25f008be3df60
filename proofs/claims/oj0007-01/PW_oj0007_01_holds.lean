import PyProof.Rows.All
import Wide.All
import OpenK.AllK
import Wide.FinOn
import PySem.Challenge.RW_oj0007_01
set_option Elab.async false
set_option maxRecDepth 100000
set_option linter.all false

namespace Mine
open PySem PySem.W PyProof.Rows
noncomputable def isDef : Stmt → Bool
  | .FunctionDef .. => true
  | _ => false
noncomputable def qv : Program := { PySem.Challenge.pw_oj0007_01 with main := { (PySem.Challenge.pw_oj0007_01).main with body := (PySem.Challenge.pw_oj0007_01).main.body.filter isDef } }
theorem left : LeftO PySem.Challenge.pw_oj0007_01 qv [] (fun s => xlAt qv [] s && recOk [] s) (fun _ => ()) (fun _ => ()) 3182 := fun w => by kernel_rfl
end Mine

namespace Mine
open PySem PySem.W PyProof.Rows PySem.Calls
theorem drop_lt {α : Type} {l : List α} {j : Nat} {g : α} {rest : List α} (hd : l.drop j = g :: rest) : j < l.length := by
  rcases Nat.lt_or_ge j l.length with h | h
  · exact h
  · rw [List.drop_of_length_le h] at hd; cases hd
theorem drop_at {α : Type} {l : List α} {j : Nat} {g : α} {rest : List α} (hd : l.drop j = g :: rest) : l[j]? = some g := by rw [← List.head?_drop, hd]; rfl
theorem drop_rest {α : Type} {l : List α} {j : Nat} {g : α} {rest : List α} (hd : l.drop j = g :: rest) : l.drop (j + 1) = rest := by rw [← List.tail_drop, hd]; rfl
theorem drop_nil_at {α : Type} {l : List α} {j m : Nat} (hd : l.drop j = []) (hm : m + j = l.length) : j = l.length := by have := congrArg List.length hd; simp at this; omega

/-- trees of values -/
inductive T where
  | none
  | bool (b : Bool)
  | int (i : Int)
  | list (xs : List T)
  | tup (xs : List T)

abbrev Zone := Addr → Obj → Prop

mutual
inductive Rd (Z : Zone) : T → Value → Prop
  | none : Rd Z .none .none
  | bool (b : Bool) : Rd Z (.bool b) (.bool b)
  | int (i : Int) (t : Tok) : Rd Z (.int i) (.int i t)
  | list {a : Addr} {ts : List T} {items : Array Value} {n : Nat} : Z a { cls := .type "list", data := .seq items n } → RdL Z ts items.toList → Rd Z (.list ts) (.ref a)
  | tup {a : Addr} {o : Obj} {ts : List T} {items : Array Value} {n : Nat} : Z a o → o.cls = .type "tuple" → o.data = .seq items n → RdL Z ts items.toList → Rd Z (.tup ts) (.ref a)
inductive RdL (Z : Zone) : List T → List Value → Prop
  | nil : RdL Z [] []
  | cons {t : T} {v : Value} {ts : List T} {vs : List Value} : Rd Z t v → RdL Z ts vs → RdL Z (t :: ts) (v :: vs)
end

noncomputable def Sub (Z Z' : Zone) : Prop := ∀ a o, Z a o → Z' a o
theorem Sub.refl (Z : Zone) : Sub Z Z := fun _ _ h => h
theorem Sub.trans {Z Z' Z'' : Zone} (h : Sub Z Z') (h' : Sub Z' Z'') : Sub Z Z'' := fun a o x => h' a o (h a o x)

mutual
theorem Rd.mono {Z Z' : Zone} (h : Sub Z Z') : ∀ {t : T} {v : Value}, Rd Z t v → Rd Z' t v
  | _, _, .none => .none
  | _, _, .bool b => .bool b
  | _, _, .int i t => .int i t
  | _, _, .list hz hl => .list (h _ _ hz) (RdL.mono h hl)
  | _, _, .tup hz hc hd hl => .tup (h _ _ hz) hc hd (RdL.mono h hl)
theorem RdL.mono {Z Z' : Zone} (h : Sub Z Z') : ∀ {ts : List T} {vs : List Value}, RdL Z ts vs → RdL Z' ts vs
  | _, _, .nil => .nil
  | _, _, .cons a b => .cons (Rd.mono h a) (RdL.mono h b)
end

theorem RdL.length {Z : Zone} : ∀ {ts : List T} {vs : List Value}, RdL Z ts vs → ts.length = vs.length
  | _, _, .nil => rfl
  | _, _, .cons _ b => by simp [RdL.length b]
theorem RdL.get {Z : Zone} : ∀ {ts : List T} {vs : List Value}, RdL Z ts vs → ∀ {i : Nat} {t : T}, ts[i]? = some t → ∃ v, vs[i]? = some v ∧ Rd Z t v
  | _, _, .nil, i, t, h => by simp at h
  | _, _, .cons a b, 0, t, h => by simp at h; subst h; exact ⟨_, rfl, a⟩
  | _, _, .cons a b, i + 1, t, h => by simp at h; simpa using RdL.get b h
theorem RdL.append {Z : Zone} : ∀ {ts : List T} {vs : List Value} {ts' : List T} {vs' : List Value}, RdL Z ts vs → RdL Z ts' vs' → RdL Z (ts ++ ts') (vs ++ vs')
  | _, _, _, _, .nil, h => h
  | _, _, _, _, .cons a b, h => .cons a (RdL.append b h)
theorem RdL.set {Z : Zone} : ∀ {ts : List T} {vs : List Value}, RdL Z ts vs → ∀ (i : Nat) {t : T} {v : Value}, Rd Z t v → RdL Z (ts.set i t) (vs.set i v)
  | _, _, .nil, i, _, _, _ => .nil
  | _, _, .cons _ b, 0, _, _, h => .cons h b
  | _, _, .cons a b, i + 1, _, _, h => .cons a (RdL.set b i h)
theorem RdL.take {Z : Zone} : ∀ {ts : List T} {vs : List Value}, RdL Z ts vs → ∀ (i : Nat), RdL Z (ts.take i) (vs.take i)
  | _, _, .nil, i => by simp; exact .nil
  | _, _, .cons _ _, 0 => .nil
  | _, _, .cons a b, i + 1 => .cons a (RdL.take b i)
theorem RdL.drop {Z : Zone} : ∀ {ts : List T} {vs : List Value}, RdL Z ts vs → ∀ (i : Nat), RdL Z (ts.drop i) (vs.drop i)
  | _, _, .nil, i => by simp; exact .nil
  | _, _, .cons a b, 0 => .cons a b
  | _, _, .cons _ b, i + 1 => RdL.drop b i
theorem RdL.reverse {Z : Zone} : ∀ {ts : List T} {vs : List Value}, RdL Z ts vs → RdL Z ts.reverse vs.reverse
  | _, _, .nil => .nil
  | _, _, .cons a b => by rw [List.reverse_cons, List.reverse_cons]; exact (RdL.reverse b).append (.cons a .nil)

/-- where a variable is kept -/
inductive Loc where
  | loc (L : Addr) (x : Str)
  | cell (c : Addr)
noncomputable def Loc.addr : Loc → Addr
  | .loc L _ => L
  | .cell c => c
noncomputable def LocIs (h : Heap) : Loc → Option Value → Prop
  | .loc L x, v => ∃ m, h.Ns L m ∧ m x = v
  | .cell c, v => h.IsCell c v

inductive Slot where
  | un
  | fro (t : T)
  | own (ts : List T)
  | box (xs : List Int) (k : Int)
  | ext (xs : List Int)

noncomputable def SlotOk (Z : Zone) (h : Heap) (ℓ? : Option Loc) : Slot → List Addr → Prop
  | .un, as => as = []
  | .fro t, as => as = [] ∧ ∃ ℓ v, ℓ? = some ℓ ∧ LocIs h ℓ (some v) ∧ Rd Z t v
  | .own ts, as => ∃ a items ℓ, as = [a] ∧ ℓ? = some ℓ ∧ LocIs h ℓ (some (.ref a)) ∧ h.PlainList a items ∧ RdL Z ts items.toList
  | .box xs k, as => ∃ a b t ℓ, ∃ items : List Value, as = [a, b] ∧ a ≠ b ∧ ℓ? = some ℓ ∧ LocIs h ℓ (some (.ref a)) ∧ h.PlainList a #[.ref b, .int k t] ∧ h.PlainList b items.toArray ∧ IntsAre items xs
  | .ext xs, as => as = [] ∧ ∃ a o ℓ, ∃ items : List Value, ∃ n, ℓ? = some ℓ ∧ LocIs h ℓ (some (.ref a)) ∧ Z a o ∧ o.cls = .type "list" ∧ o.data = .seq items.toArray n ∧ IntsAre items xs

/-- the world of the program: its globals -/
structure Glo where
  prog : Program
  w : World
  hT : Heap
  mg : Str → Option Value
  mb : Str → Option Value
structure GloOk (G : Glo) : Prop where
  g : G.hT.Ns mainGlobals G.mg
  b : G.hT.Ns builtinsNs G.mb
  nolimit : G.hT.NoLimit

abbrev Glo.M (G : Glo) : Model := model G.prog G.w
abbrev WP {α : Type} (G : Glo) (A : Around) (t : Sem α) (Q : α → Shared → Prop) (s : Shared) : Prop := wpAny (model G.prog G.w) A t Q (fun _ _ => False) s

structure AOk (k : Nat) (A : Around) : Prop where
  handled : A.handled = none
  depth : A.depth + k < recursionLimit
  units : A.units + 10 * k < 9000

theorem AOk.deeper {k : Nat} {A : Around} (h : AOk (k + 1) A) (env : Env) : AOk k (A.deeper env) :=
  ⟨h.handled, by have := h.depth; show A.depth + 1 + k < _; omega, by have := h.units; show A.units + 3 + 10 * k < _; omega⟩
theorem AOk.le {k j : Nat} {A : Around} (h : AOk k A) (hj : j ≤ k) : AOk j A :=
  ⟨h.handled, by have := h.depth; omega, by have := h.units; omega⟩
theorem AOk.room {k : Nat} {A : Around} (h : AOk k A) : A.units < cLine := by have := h.units; have := cLine_is; omega
theorem AOk.in1 {k : Nat} {A : Around} (h : AOk (k + 1) A) : AOk k A.in1 :=
  ⟨h.handled, by have := h.depth; show A.depth + k < _; omega, by have := h.units; show A.units + 1 + 10 * k < _; omega⟩

noncomputable def IsSeq (o : Obj) : Prop := ∃ items n, o.data = .seq items n

structure Act (G : Glo) (B Z0 Z : Zone) (locs : Nat → Option Loc) (σ : List Slot) (h : Heap) : Prop where
  top : ∀ a o, G.hT.get? a = some o → B a o
  base : ∀ a o, B a o → h.get? a = some o
  zone : ∀ a o, Z a o → h.get? a = some o ∧ IsSeq o
  z0 : ∀ a o, Z0 a o → B a o
  zold : ∀ a o, Z a o → Z0 a o ∨ ∀ o', ¬ B a o'
  inj : ∀ i j ℓ, locs i = some ℓ → locs j = some ℓ → i = j
  loc : ∀ i ℓ, locs i = some ℓ → (∃ v, LocIs h ℓ v) ∧ ∀ o, ¬ B ℓ.addr o
  sl : ∃ ow : Nat → List Addr, (∀ i s, σ[i]? = some s → SlotOk Z h (locs i) s (ow i)) ∧ (∀ i a, a ∈ ow i → (h.get? a).isSome ∧ (∀ o, ¬ Z a o) ∧ (∀ o, ¬ B a o)) ∧ (∀ i j a, a ∈ ow i → a ∈ ow j → i = j)

noncomputable def Grows (h h' : Heap) : Prop := ∀ a o, h.get? a = some o → h'.get? a = some o
theorem Grows.refl (h : Heap) : Grows h h := fun _ _ e => e
theorem Grows.trans {a b c : Heap} (x : Grows a b) (y : Grows b c) : Grows a c := fun d o e => y d o (x d o e)
theorem Grows.push (h : Heap) (o : Obj) : Grows h (h.push o) := fun _ _ e => Heap.get?_push_of_some o e

theorem LocIs.keep {h h' : Heap} {ℓ : Loc} {v : Option Value} (x : LocIs h ℓ v) (k : ∀ o, h.get? ℓ.addr = some o → h'.get? ℓ.addr = some o) : LocIs h' ℓ v := by
  cases ℓ with
  | loc L y => obtain ⟨m, hn, e⟩ := x; exact ⟨m, hn.at k, e⟩
  | cell c => obtain ⟨o, ho, hd⟩ := x; exact ⟨o, k o ho, hd⟩
theorem LocIs.there {h : Heap} {ℓ : Loc} {v : Option Value} (x : LocIs h ℓ v) : ∃ o, h.get? ℓ.addr = some o ∧ ¬ IsSeq o := by
  cases ℓ with
  | loc L y => obtain ⟨m, ⟨o, es, ep, ho, hd, _⟩, e⟩ := x; exact ⟨o, ho, fun ⟨i, n, q⟩ => by rw [hd] at q; cases q⟩
  | cell c => obtain ⟨o, ho, hd⟩ := x; exact ⟨o, ho, fun ⟨i, n, q⟩ => by rw [hd] at q; cases q⟩
theorem isList_seq {h : Heap} {a : Addr} {items : Array Value} (x : h.PlainList a items) : ∃ o, h.get? a = some o ∧ IsSeq o := let ⟨n, ho⟩ := x; ⟨_, ho, items, n, rfl⟩

theorem SlotOk.zmono {Z Z' : Zone} {h : Heap} {l : Option Loc} {s : Slot} {as : List Addr} (hz : Sub Z Z') (x : SlotOk Z h l s as) : SlotOk Z' h l s as := by
  cases s with
  | un => exact x
  | fro t => obtain ⟨e, ℓ, v, a, b, c⟩ := x; exact ⟨e, ℓ, v, a, b, c.mono hz⟩
  | own ts => obtain ⟨a, items, ℓ, e, b, c, d, f⟩ := x; exact ⟨a, items, ℓ, e, b, c, d, f.mono hz⟩
  | box xs k => exact x
  | ext xs => obtain ⟨e, a, o, ℓ, items, n, p, q, z, r⟩ := x; exact ⟨e, a, o, ℓ, items, n, p, q, hz _ _ z, r⟩

/-- a slot's fact over a heap that keeps what it stands on -/
theorem SlotOk.keep {Z : Zone} {h h' : Heap} {l : Option Loc} {s : Slot} {as : List Addr} (x : SlotOk Z h l s as)
    (kl : ∀ ℓ, l = some ℓ → ∀ v, LocIs h ℓ v → LocIs h' ℓ v) (ka : ∀ a ∈ as, ∀ o, h.get? a = some o → h'.get? a = some o) : SlotOk Z h' l s as := by
  cases s with
  | un => exact x
  | fro t => obtain ⟨e, ℓ, v, a, b, c⟩ := x; exact ⟨e, ℓ, v, a, kl _ a _ b, c⟩
  | own ts =>
    obtain ⟨a, items, ℓ, e, b, c, d, f⟩ := x
    exact ⟨a, items, ℓ, e, b, kl _ b _ c, d.at (ka a (by simp [e])), f⟩
  | box xs k =>
    obtain ⟨a, b, t, ℓ, items, e, hne, hl, c, d, f, g⟩ := x
    exact ⟨a, b, t, ℓ, items, e, hne, hl, kl _ hl _ c, d.at (ka a (by simp [e])), f.at (ka b (by simp [e])), g⟩
  | ext xs => obtain ⟨e, a, o, ℓ, items, n, p, q, r⟩ := x; exact ⟨e, a, o, ℓ, items, n, p, kl _ p _ q, r⟩

section
variable {G : Glo} {B Z0 Z : Zone} {locs : Nat → Option Loc} {σ : List Slot} {h h' : Heap}

theorem Act.grow (x : Act G B Z0 Z locs σ h) (g : Grows h h') : Act G B Z0 Z locs σ h' where
  top := x.top
  base := fun a o hb => g a o (x.base a o hb)
  zone := fun a o hz => ⟨g a o (x.zone a o hz).1, (x.zone a o hz).2⟩
  z0 := x.z0
  zold := x.zold
  inj := x.inj
  loc := fun i ℓ e => ⟨let ⟨v, hv⟩ := (x.loc i ℓ e).1; ⟨v, hv.keep fun o q => g _ o q⟩, (x.loc i ℓ e).2⟩
  sl := by
    obtain ⟨ow, h1, h2, h3⟩ := x.sl
    refine ⟨ow, fun i s e => (h1 i s e).keep (fun ℓ _ v hv => hv.keep fun o q => g _ o q) fun a _ o q => g a o q, fun i a ha => ⟨?_, (h2 i a ha).2⟩, h3⟩
    obtain ⟨o, ho⟩ := Option.isSome_iff_exists.mp (h2 i a ha).1
    rw [g a o ho]; rfl

/-- what is added to the base: objects of h at some addresses -/
noncomputable def Plus (B : Zone) (h : Heap) (ex : List Addr) : Zone := fun a o => B a o ∨ (a ∈ ex ∧ h.get? a = some o)

theorem Act.protect (x : Act G B Z0 Z locs σ h) (g : Grows h h') (ex : List Addr) (hx : ∀ a ∈ ex, h.get? a = none) : Act G (Plus B h' ex) Z0 Z locs σ h' := by
  have y := x.grow g
  have off : ∀ {a : Addr} {o : Obj}, h.get? a = some o → (∀ o', ¬ B a o') → ∀ o', ¬ Plus B h' ex a o' := fun e hb o' hp => by
    rcases hp with hp | ⟨hp, _⟩
    · exact hb o' hp
    · rw [hx _ hp] at e; cases e
  exact {
    top := fun a o e => .inl (y.top a o e)
    base := fun a o hb => hb.elim (y.base a o) fun p => p.2
    zone := y.zone
    z0 := fun a o hz => .inl (y.z0 a o hz)
    zold := fun a o hz => (y.zold a o hz).imp id fun hb => off (x.zone a o hz).1 hb
    inj := y.inj
    loc := fun i ℓ e => ⟨(y.loc i ℓ e).1, let ⟨v, hv⟩ := (x.loc i ℓ e).1; let ⟨o, ho, _⟩ := hv.there; off ho (y.loc i ℓ e).2⟩
    sl := by
      obtain ⟨ow, h1, h2, h3⟩ := x.sl
      refine ⟨ow, fun i s e => (h1 i s e).keep (fun ℓ _ v hv => hv.keep fun o q => g _ o q) fun a _ o q => g a o q, fun i a ha => ?_, h3⟩
      obtain ⟨o, ho⟩ := Option.isSome_iff_exists.mp (h2 i a ha).1
      exact ⟨by rw [g a o ho]; rfl, (h2 i a ha).2.1, off ho (h2 i a ha).2.2⟩ }

theorem Act.drop {h₁ : Heap} {ex : List Addr} (x : Act G (Plus B h₁ ex) Z0 Z locs σ h) (ht : ∀ a o, G.hT.get? a = some o → B a o) (hz : ∀ a o, Z0 a o → B a o) : Act G B Z0 Z locs σ h where
  top := ht
  base := fun a o hb => x.base a o (.inl hb)
  zone := x.zone
  z0 := hz
  zold := fun a o hz => (x.zold a o hz).imp id fun hb o' hb' => hb o' (.inl hb')
  inj := x.inj
  loc := fun i ℓ e => ⟨(x.loc i ℓ e).1, fun o hb => (x.loc i ℓ e).2 o (.inl hb)⟩
  sl := by
    obtain ⟨ow, h1, h2, h3⟩ := x.sl
    exact ⟨ow, h1, fun i a ha => ⟨(h2 i a ha).1, (h2 i a ha).2.1, fun o hb => (h2 i a ha).2.2 o (.inl hb)⟩, h3⟩

/-- the protected objects change, and nothing else -/
theorem Act.step {h₁ h₂ : Heap} {ex : List Addr} (x : Act G (Plus B h₁ ex) Z0 Z locs σ h) (ht : ∀ a o, G.hT.get? a = some o → B a o) (hz0 : ∀ a o, Z0 a o → B a o)
    (he : ∀ a ∈ ex, (h₁.get? a).isSome ∧ ∀ o, ¬ B a o)
    (k : ∀ b o, b ∉ ex → h.get? b = some o → h₂.get? b = some o) : Act G (Plus B h₂ ex) Z0 Z locs σ h₂ := by
  have off : ∀ {a : Addr}, (∀ o, ¬ Plus B h₁ ex a o) → a ∉ ex := fun hb ha => by
    obtain ⟨o, ho⟩ := Option.isSome_iff_exists.mp (he _ ha).1
    exact hb o (.inr ⟨ha, ho⟩)
  have up : ∀ {a : Addr}, (∀ o, ¬ Plus B h₁ ex a o) → ∀ o, ¬ Plus B h₂ ex a o := fun hb o hp => hp.elim (fun q => hb o (.inl q)) fun q => off hb q.1
  exact {
    top := fun a o e => .inl (ht a o e)
    base := fun a o hb => hb.elim (fun q => k a o (fun ha => (he a ha).2 o q) (x.base a o (.inl q))) fun q => q.2
    zone := fun a o hz => ⟨k a o ((x.zold a o hz).elim (fun q ha => (he a ha).2 o (hz0 a o q)) off) (x.zone a o hz).1, (x.zone a o hz).2⟩
    z0 := fun a o hz => .inl (hz0 a o hz)
    zold := fun a o hz => (x.zold a o hz).imp id up
    inj := x.inj
    loc := fun i ℓ e => ⟨let ⟨v, hv⟩ := (x.loc i ℓ e).1; ⟨v, hv.keep fun o q => k _ o (off (x.loc i ℓ e).2) q⟩, up (x.loc i ℓ e).2⟩
    sl := by
      obtain ⟨ow, h1, h2, h3⟩ := x.sl
      refine ⟨ow, fun i s e => (h1 i s e).keep (fun ℓ q v hv => hv.keep fun o q' => k _ o (off (x.loc i ℓ q).2) q') fun a ha o q => k a o (off (h2 i a ha).2.2) q, fun i a ha => ?_, h3⟩
      obtain ⟨o, ho⟩ := Option.isSome_iff_exists.mp (h2 i a ha).1
      exact ⟨by rw [k a o (off (h2 i a ha).2.2) ho]; rfl, (h2 i a ha).2.1, up (h2 i a ha).2.2⟩ }

/-- protected lists and tuples become part of the zone -/
theorem Act.freeze {h₁ : Heap} {a : Addr} {o : Obj} (x : Act G (Plus B h₁ [a]) Z0 Z locs σ h) (ht : ∀ a o, G.hT.get? a = some o → B a o) (hz0 : ∀ a o, Z0 a o → B a o)
    (ho : h₁.get? a = some o) (hs : IsSeq o) (hb : ∀ o, ¬ B a o) : Act G B Z0 (fun b p => Z b p ∨ (b = a ∧ p = o)) locs σ h := by
  have y := x.drop ht hz0
  have hp : Plus B h₁ [a] a o := .inr ⟨by simp, ho⟩
  exact {
    top := ht
    base := y.base
    zone := fun b p hz => hz.elim (y.zone b p) fun q => by obtain ⟨rfl, rfl⟩ := q; exact ⟨x.base _ _ hp, hs⟩
    z0 := hz0
    zold := fun b p hz => hz.elim (y.zold b p) fun q => .inr (q.1 ▸ hb)
    inj := y.inj
    loc := y.loc
    sl := by
      obtain ⟨ow, h1, h2, h3⟩ := x.sl
      refine ⟨ow, fun i s e => (h1 i s e).zmono fun _ _ q => .inl q, fun i b hb' => ⟨(h2 i b hb').1, fun p hp' => ?_, fun p q => (h2 i b hb').2.2 p (.inl q)⟩, h3⟩
      rcases hp' with q | ⟨rfl, rfl⟩
      · exact (h2 i b hb').2.1 p q
      · exact (h2 i _ hb').2.2 _ hp }

/-- a store into a variable -/
noncomputable def LocSet (h h' : Heap) (v : Value) : Loc → Prop
  | .loc L x => ∃ m, h.Ns L m ∧ h'.Ns L (fun y => if y = x then some v else m y) ∧ Heap.SameBut L h h'
  | .cell c => (∃ v₀, h.IsCell c v₀) ∧ h'.IsCell c (some v) ∧ Heap.SameBut c h h'
theorem LocSet.here {v : Value} {ℓ : Loc} (x : LocSet h h' v ℓ) : LocIs h' ℓ (some v) := by
  cases ℓ with
  | loc L y => obtain ⟨m, _, hn, _⟩ := x; exact ⟨_, hn, by simp⟩
  | cell c => exact x.2.1
theorem LocSet.same {v : Value} {ℓ : Loc} (x : LocSet h h' v ℓ) : Heap.SameBut ℓ.addr h h' := by
  cases ℓ with
  | loc L y => obtain ⟨m, _, _, hs⟩ := x; exact hs
  | cell c => exact x.2.2
theorem LocSet.was {v : Value} {ℓ : Loc} (x : LocSet h h' v ℓ) : ∃ v₀, LocIs h ℓ v₀ := by
  cases ℓ with
  | loc L y => obtain ⟨m, hn, _⟩ := x; exact ⟨_, m, hn, rfl⟩
  | cell c => exact x.1
theorem LocSet.other {v : Value} {ℓ ℓ' : Loc} {u : Option Value} (x : LocSet h h' v ℓ) (hne : ℓ' ≠ ℓ) (hu : LocIs h ℓ' u) : LocIs h' ℓ' u := by
  cases ℓ with
  | loc L y =>
    obtain ⟨m, hn, hn', hs⟩ := x
    cases ℓ' with
    | loc L' y' =>
      obtain ⟨m', hm', e⟩ := hu
      by_cases hL : L' = L
      · subst hL
        have hy : y' ≠ y := fun q => hne (by rw [q])
        exact ⟨_, hn', by simp only [if_neg hy]; rw [hn.agree hm' y', e]⟩
      · exact ⟨m', hm'.sameBut hs hL, e⟩
    | cell c =>
      have hc : c ≠ L := fun q => by
        obtain ⟨o, ho, hd⟩ := hu
        obtain ⟨o', es, ep, ho', hd', _⟩ := hn
        rw [q, ho'] at ho; cases ho; rw [hd'] at hd; cases hd
      exact Heap.IsCell.sameBut hu hs hc
  | cell c =>
    obtain ⟨⟨v₀, o₀, ho₀, hd₀⟩, hc', hs⟩ := x
    cases ℓ' with
    | loc L' y' =>
      obtain ⟨m', hm', e⟩ := hu
      have hL : L' ≠ c := fun q => by
        obtain ⟨o', es, ep, ho', hd', _⟩ := hm'
        rw [q, ho₀] at ho'; cases ho'; rw [hd₀] at hd'; cases hd'
      exact ⟨m', hm'.sameBut hs hL, e⟩
    | cell c' => exact Heap.IsCell.sameBut hu hs fun q => hne (by rw [q])

theorem seq_ne_loc {a : Addr} {o : Obj} {ℓ : Loc} {v : Option Value} (ho : h.get? a = some o) (hs : IsSeq o) (hl : LocIs h ℓ v) : a ≠ ℓ.addr := fun q => by
  obtain ⟨o', ho', hn⟩ := hl.there
  rw [q, ho'] at ho; cases ho; exact hn hs

theorem SlotOk.seqs {s : Slot} {l : Option Loc} {as : List Addr} (x : SlotOk Z h l s as) : ∀ a ∈ as, ∃ o, h.get? a = some o ∧ IsSeq o := fun a ha => by
  cases s with
  | un => rw [show as = [] from x] at ha; cases ha
  | fro t => rw [x.1] at ha; cases ha
  | own ts =>
    obtain ⟨b, items, ℓ, e, _, _, d, _⟩ := x
    rw [e] at ha; rw [List.mem_singleton.mp ha]; exact isList_seq d
  | box xs k =>
    obtain ⟨b, c, t, ℓ, items, e, _, _, _, d, f, _⟩ := x
    rw [e] at ha
    rcases List.mem_cons.mp ha with rfl | ha
    · exact isList_seq d
    · rw [List.mem_singleton.mp ha]; exact isList_seq f
  | ext xs => rw [x.1] at ha; cases ha

/-- after a store of a value into variable i; as: what the new slot owns, held by the base till now -/
theorem Act.store {h₁ : Heap} {i : Nat} {ℓ : Loc} {v : Value} {s : Slot} {as : List Addr} (x : Act G (Plus B h₁ as) Z0 Z locs σ h) (ht : ∀ a o, G.hT.get? a = some o → B a o) (hz0 : ∀ a o, Z0 a o → B a o)
    (h1 : ∀ a ∈ as, ∃ o, h₁.get? a = some o ∧ IsSeq o ∧ ∀ o, ¬ B a o) (hl : locs i = some ℓ) (st : LocSet h h' v ℓ) (hs : SlotOk Z h' (some ℓ) s as) : Act G B Z0 Z locs (σ.set i s) h' := by
  obtain ⟨v₀, hv₀⟩ := (x.loc i ℓ hl).1
  have hb : ∀ o, ¬ B ℓ.addr o := fun o q => (x.loc i ℓ hl).2 o (.inl q)
  have ko : ∀ a o, a ≠ ℓ.addr → h.get? a = some o → h'.get? a = some o := fun a o hne e => (st.same.2 a hne).trans e
  have kl : ∀ j ℓ', j ≠ i → locs j = some ℓ' → ∀ u, LocIs h ℓ' u → LocIs h' ℓ' u := fun j ℓ' hj e u hu => st.other (fun q => hj (x.inj j i ℓ (q ▸ e) hl)) hu
  have held : ∀ a ∈ as, ∃ o, Plus B h₁ as a o ∧ IsSeq o := fun a ha => let ⟨o, ho, hq, _⟩ := h1 a ha; ⟨o, .inr ⟨ha, ho⟩, hq⟩
  exact {
    top := ht
    base := fun a o hB => ko a o (fun q => hb o (q ▸ hB)) (x.base a o (.inl hB))
    zone := fun a o hz => ⟨ko a o (seq_ne_loc (x.zone a o hz).1 (x.zone a o hz).2 hv₀) (x.zone a o hz).1, (x.zone a o hz).2⟩
    z0 := hz0
    zold := fun a o hz => (x.zold a o hz).imp id fun q p hp => q p (.inl hp)
    inj := x.inj
    loc := fun j ℓ' e => ⟨by
      by_cases hj : j = i
      · subst hj; rw [hl] at e; cases e; exact ⟨_, st.here⟩
      · obtain ⟨u, hu⟩ := (x.loc j ℓ' e).1; exact ⟨u, kl j ℓ' hj e u hu⟩, fun o q => (x.loc j ℓ' e).2 o (.inl q)⟩
    sl := by
      obtain ⟨ow, k1, k2, k3⟩ := x.sl
      have sep : ∀ j, ∀ a ∈ as, a ∉ ow j := fun j a ha hm => let ⟨o, ho, _⟩ := held a ha; (k2 j a hm).2.2 o ho
      refine ⟨fun j => if j = i then as else if j < σ.length then ow j else [], fun j s' e => ?_, fun j a ha' => ?_, fun j k a hj hk => ?_⟩
      · by_cases hj : j = i
        · subst hj
          dsimp only
          rw [if_pos rfl]
          have hlt : j < σ.length := by
            have := (List.getElem?_eq_some_iff.mp e).1; rwa [List.length_set] at this
          rw [List.getElem?_set_self hlt] at e; cases e
          rw [hl]; exact hs
        · have hlt : j < σ.length := by
            have := (List.getElem?_eq_some_iff.mp e).1; rwa [List.length_set] at this
          simp only [if_neg hj, if_pos hlt]
          rw [List.getElem?_set_ne (Ne.symm hj)] at e
          have sk := k1 j s' e
          exact sk.keep (fun ℓ' q u hu => kl j ℓ' hj q u hu) fun a ha' o q => by
            obtain ⟨o', ho', hs'⟩ := sk.seqs a ha'
            exact ko a o (seq_ne_loc ho' hs' hv₀) q
      · by_cases hj : j = i
        · simp only [if_pos hj] at ha'
          obtain ⟨o, hp, hq⟩ := held a ha'
          obtain ⟨_, _, _, hB⟩ := h1 a ha'
          have e := x.base a o hp
          refine ⟨by rw [ko a o (seq_ne_loc e hq hv₀) e]; rfl, fun p hz => ?_, hB⟩
          rcases x.zold a p hz with q | q
          · exact hB p (hz0 a p q)
          · exact q o hp
        · by_cases hlt : j < σ.length
          · simp only [if_neg hj, if_pos hlt] at ha'
            have e : σ[j]? = some σ[j] := List.getElem?_eq_getElem hlt
            obtain ⟨o', ho', hs'⟩ := (k1 j _ e).seqs a ha'
            exact ⟨by rw [ko a o' (seq_ne_loc ho' hs' hv₀) ho']; rfl, (k2 j a ha').2.1, fun o q => (k2 j a ha').2.2 o (.inl q)⟩
          · simp only [if_neg hj, if_neg hlt] at ha'; cases ha'
      · by_cases hj' : j = i <;> by_cases hk' : k = i
        · rw [hj', hk']
        · simp only [if_pos hj'] at hj
          simp only [if_neg hk'] at hk
          by_cases hlt : k < σ.length
          · simp only [if_pos hlt] at hk; exact absurd hk (sep k a hj)
          · simp only [if_neg hlt] at hk; cases hk
        · simp only [if_pos hk'] at hk
          simp only [if_neg hj'] at hj
          by_cases hlt : j < σ.length
          · simp only [if_pos hlt] at hj; exact absurd hj (sep j a hk)
          · simp only [if_neg hlt] at hj; cases hj
        · simp only [if_neg hj'] at hj
          simp only [if_neg hk'] at hk
          by_cases hlt : j < σ.length
          · by_cases hlt' : k < σ.length
            · simp only [if_pos hlt] at hj; simp only [if_pos hlt'] at hk; exact k3 j k a hj hk
            · simp only [if_neg hlt'] at hk; cases hk
          · simp only [if_neg hlt] at hj; cases hj }

theorem Act.plusNil (x : Act G B Z0 Z locs σ h) : Act G (Plus B h []) Z0 Z locs σ h := x.protect (Grows.refl h) [] fun _ ha => nomatch ha

theorem Act.storeFro {i : Nat} {ℓ : Loc} {v : Value} {t : T} (x : Act G B Z0 Z locs σ h) (hl : locs i = some ℓ) (st : LocSet h h' v ℓ) (hv : Rd Z t v) : Act G B Z0 Z locs (σ.set i (.fro t)) h' :=
  x.plusNil.store x.top x.z0 (fun _ ha => nomatch ha) hl st ⟨rfl, ℓ, v, rfl, st.here, hv⟩


/-- an owned list changes in place -/
inductive InPlaceR (G : Glo) (B Z0 Z : Zone) (locs : Nat → Option Loc) (σ : List Slot) (h : Heap) (i : Nat) (ts ts' : List T) : Prop
  | mk (a : Addr) (items : Array Value) (ℓ : Loc) (hl : locs i = some ℓ) (hv : LocIs h ℓ (some (.ref a))) (hL : h.PlainList a items) (hr : RdL Z ts items.toList)
      (fin : ∀ (h' : Heap) (Z' : Zone) (items' : Array Value), Act G B Z0 Z' locs σ h → Heap.SameBut a h h' → h'.PlainList a items' → RdL Z' ts' items'.toList → Act G B Z0 Z' locs (σ.set i (.own ts')) h')
theorem Act.inPlace {i : Nat} {ts ts' : List T} (x : Act G B Z0 Z locs σ h) (hi : σ[i]? = some (.own ts)) : InPlaceR G B Z0 Z locs σ h i ts ts' := by
  obtain ⟨ow, k1, k2, k3⟩ := x.sl
  obtain ⟨a, items, ℓ, e, hl, hv, hL, hr⟩ := k1 i _ hi
  refine ⟨a, items, ℓ, hl, hv, hL, hr, fun h' Z' items' y hs hL' hr' => ?_⟩
  obtain ⟨ow', j1, j2, j3⟩ := y.sl
  obtain ⟨a', items₂, ℓ', e', hl', hv', hL₂, hr₂⟩ := j1 i _ hi
  have same : a' = a := by
    rw [hl] at hl'; cases hl'
    cases ℓ with
    | loc L y =>
      obtain ⟨m, hn, q⟩ := hv
      obtain ⟨m', hn', q'⟩ := hv'
      rw [hn.agree hn' y, q'] at q; injection q with q; injection q
    | cell c =>
      obtain ⟨o, ho, q⟩ := hv
      obtain ⟨o', ho', q'⟩ := hv'
      rw [ho] at ho'; cases ho'; rw [q] at q'; injection q' with q'; injection q' with q'; injection q' with q'; exact q'.symm
  subst same
  have hm : a' ∈ ow' i := by rw [e']; simp
  obtain ⟨oa, hoa, hsa⟩ := isList_seq hL
  have ko : ∀ b o, b ≠ a' → h.get? b = some o → h'.get? b = some o := fun b o hne q => (hs.2 b hne).trans q
  have kl : ∀ {ℓ : Loc} {v : Option Value}, LocIs h ℓ v → LocIs h' ℓ v := fun hv => hv.keep fun o q => ko _ o (fun z => seq_ne_loc hoa hsa hv z.symm) q
  exact {
    top := y.top
    base := fun b o hb => ko b o (fun q => (j2 i _ hm).2.2 o (q ▸ hb)) (y.base b o hb)
    zone := fun b o hz => ⟨ko b o (fun q => (j2 i _ hm).2.1 o (q ▸ hz)) (y.zone b o hz).1, (y.zone b o hz).2⟩
    z0 := y.z0
    zold := y.zold
    inj := y.inj
    loc := fun j ℓ₂ q => ⟨let ⟨v, hv⟩ := (y.loc j ℓ₂ q).1; ⟨v, kl hv⟩, (y.loc j ℓ₂ q).2⟩
    sl := by
      have hlt : i < σ.length := (List.getElem?_eq_some_iff.mp hi).1
      refine ⟨ow', fun j s q => ?_, fun j b hb => ?_, j3⟩
      · by_cases hj : j = i
        · subst hj
          rw [List.getElem?_set_self hlt] at q; cases q
          exact ⟨a', items', ℓ, e', hl, kl hv, hL', hr'⟩
        · rw [List.getElem?_set_ne (Ne.symm hj)] at q
          exact (j1 j s q).keep (fun ℓ _ v hv => kl hv) fun b hb o q' => ko b o (fun z => hj (j3 j i b hb (z ▸ hm))) q'
      · refine ⟨?_, (j2 j b hb).2⟩
        by_cases hba : b = a'
        · subst hba; obtain ⟨o', ho', _⟩ := isList_seq hL'; rw [ho']; rfl
        · obtain ⟨o', ho'⟩ := Option.isSome_iff_exists.mp (j2 j b hb).1
          rw [ko b o' hba ho']; rfl }

/-- an owned list becomes part of the zone -/
theorem Act.freezeSlot {i : Nat} {ts : List T} (x : Act G B Z0 Z locs σ h) (hi : σ[i]? = some (.own ts)) :
    ∃ Z' v ℓ, Sub Z Z' ∧ Act G B Z0 Z' locs (σ.set i (.fro (.list ts))) h ∧ locs i = some ℓ ∧ LocIs h ℓ (some v) ∧ Rd Z' (.list ts) v := by
  obtain ⟨ow, k1, k2, k3⟩ := x.sl
  obtain ⟨a, items, ℓ, e, hl, hv, ⟨n, ho⟩, hr⟩ := k1 i _ hi
  have hm : a ∈ ow i := by rw [e]; simp
  have hlt : i < σ.length := (List.getElem?_eq_some_iff.mp hi).1
  have hsub : Sub Z (fun b p => Z b p ∨ (b = a ∧ p = ({ cls := .type "list", data := .seq items n } : Obj))) := fun _ _ q => .inl q
  have hrd : Rd (fun b p => Z b p ∨ (b = a ∧ p = ({ cls := .type "list", data := .seq items n } : Obj))) (.list ts) (.ref a) := .list (.inr ⟨rfl, rfl⟩) (hr.mono hsub)
  refine ⟨fun b p => Z b p ∨ (b = a ∧ p = ({ cls := .type "list", data := .seq items n } : Obj)), .ref a, ℓ, hsub, ?_, hl, hv, hrd⟩
  exact {
    top := x.top
    base := x.base
    zone := fun b p hz => hz.elim (x.zone b p) fun q => by obtain ⟨rfl, rfl⟩ := q; exact ⟨ho, items, n, rfl⟩
    z0 := x.z0
    zold := fun b p hz => hz.elim (x.zold b p) fun q => .inr (q.1 ▸ (k2 i a hm).2.2)
    inj := x.inj
    loc := x.loc
    sl := by
      refine ⟨fun j => if j = i then [] else ow j, fun j s q => ?_, fun j b hb => ?_, fun j k b hj hk => ?_⟩ <;> (try dsimp only at hb) <;> (try dsimp only at hj hk) <;> (try dsimp only)
      · by_cases hj : j = i
        · subst hj
          rw [List.getElem?_set_self hlt] at q; cases q
          rw [if_pos rfl]
          exact ⟨rfl, ℓ, .ref a, hl, hv, hrd⟩
        · rw [List.getElem?_set_ne (Ne.symm hj)] at q
          rw [if_neg hj]
          exact (k1 j s q).zmono hsub
      · by_cases hj : j = i
        · rw [if_pos hj] at hb; cases hb
        · rw [if_neg hj] at hb
          refine ⟨(k2 j b hb).1, fun p hz => ?_, (k2 j b hb).2.2⟩
          rcases hz with q | ⟨q, _⟩
          · exact (k2 j b hb).2.1 p q
          · exact hj (k3 j i b hb (q ▸ hm))
      · by_cases hj' : j = i
        · rw [if_pos hj'] at hj; cases hj
        · by_cases hk' : k = i
          · rw [if_pos hk'] at hk; cases hk
          · rw [if_neg hj'] at hj; rw [if_neg hk'] at hk; exact k3 j k b hj hk }

/-- what is known of a slot may be forgotten -/
theorem Act.forget {i : Nat} (x : Act G B Z0 Z locs σ h) : Act G B Z0 Z locs (σ.set i .un) h where
  top := x.top
  base := x.base
  zone := x.zone
  z0 := x.z0
  zold := x.zold
  inj := x.inj
  loc := x.loc
  sl := by
    obtain ⟨ow, k1, k2, k3⟩ := x.sl
    refine ⟨fun j => if j = i then [] else ow j, fun j s q => ?_, fun j b hb => ?_, fun j k b hj hk => ?_⟩ <;> (try dsimp only at hb) <;> (try dsimp only at hj hk) <;> (try dsimp only)
    · by_cases hj : j = i
      · subst hj
        have hlt : j < σ.length := by
          have := (List.getElem?_eq_some_iff.mp q).1; rwa [List.length_set] at this
        rw [List.getElem?_set_self hlt] at q; cases q
        rw [if_pos rfl]; rfl
      · rw [List.getElem?_set_ne (Ne.symm hj)] at q
        rw [if_neg hj]; exact k1 j s q
    · by_cases hj : j = i
      · rw [if_pos hj] at hb; cases hb
      · rw [if_neg hj] at hb; exact k2 j b hb
    · by_cases hj' : j = i
      · rw [if_pos hj'] at hj; cases hj
      · by_cases hk' : k = i
        · rw [if_pos hk'] at hk; cases hk
        · rw [if_neg hj'] at hj; rw [if_neg hk'] at hk; exact k3 j k b hj hk
end
end Mine

namespace Mine
open PySem PySem.W PyProof.Rows PySem.Calls
noncomputable def Res (env : Env) (locs : Nat → Option Loc) (x : Str) (i : Nat) : Prop :=
  (env.kindOf x = some .local ∧ locs i = some (.loc env.locals x)) ∨
  (∃ c, (env.kindOf x = some .cell ∨ env.kindOf x = some .free) ∧ env.cells.lookup x = some c ∧ locs i = some (.cell c))

structure Cx where
  sc : Scope
  sl : List (Str × Nat)
  k : Nat
  n : Nat

structure EnvOk (cx : Cx) (env : Env) (locs : Nat → Option Loc) : Prop where
  sc : env.scope = cx.sc
  fn : env.scope.kind = .function
  glo : env.globals = mainGlobals
  bui : env.builtins = builtinsNs
  res : ∀ x i, cx.sl.lookup x = some i → Res env locs x i
  off : ∀ i, cx.n ≤ i → locs i = none

noncomputable def plainName (x : Str) : Bool := !(x == ("__debug__" : Str)) && !(x == ("__classdict__" : Str))

section
variable {G : Glo} {cx : Cx} {env : Env} {locs : Nat → Option Loc} {B Z0 Z : Zone} {σ : List Slot} {A : Around} {s : Shared}

theorem load_ok {x : Str} {i : Nat} {ℓ : Loc} {v : Value} {Q : Value → Shared → Prop} (e : EnvOk cx env locs) (hx : cx.sl.lookup x = some i) (hp : plainName x = true) (hl : locs i = some ℓ) (hv : LocIs s.heap ℓ (some v)) (h : Q v s) :
    WP G A (loadName env x) Q s := by
  have hc : (x == ("__classdict__" : Str)) = false := by simp [plainName] at hp; simpa using hp.2
  rcases e.res x i hx with ⟨hk, q⟩ | ⟨c, hk, hcl, q⟩
  · rw [hl] at q; cases q
    obtain ⟨m, hn, hm⟩ := hv
    exact wpAny_loadName_local e.fn hk hn hm h
  · rw [hl] at q; cases q
    rcases hk with hk | hk
    · exact wpAny_loadName_cell e.fn hk hcl hv h
    · exact wpAny_loadName_free e.fn hk hcl hv h hc

theorem name_ok {x : Str} {i : Nat} {pos : Pos} {ℓ : Loc} {v : Value} {Q : Value → Shared → Prop} (e : EnvOk cx env locs) (hx : cx.sl.lookup x = some i) (hp : plainName x = true) (hl : locs i = some ℓ) (hv : LocIs s.heap ℓ (some v)) (h : Q v s) :
    WP G A (eval (.Name x pos) env) Q s := wpAny_Name (load_ok e hx hp hl hv h) (by simp [plainName] at hp; simpa using hp.1)

theorem store_ok {x : Str} {i : Nat} {v : Value} {Q : Unit → Shared → Prop} (e : EnvOk cx env locs) (a : Act G B Z0 Z locs σ s.heap) (hx : cx.sl.lookup x = some i)
    (h : ∀ h' tk ℓ, locs i = some ℓ → LocSet s.heap h' v ℓ → Q () { s with heap := h', toks := tk }) : WP G A (storeName env x v) Q s := by
  rcases e.res x i hx with ⟨hk, q⟩ | ⟨c, hk, hcl, q⟩
  · obtain ⟨⟨u, m, hn, hm⟩, _⟩ := a.loc i _ q
    exact wpAny_storeName_local hk hn (fun h' hn' hs' => h h' _ _ q ⟨m, hn, hn', hs'⟩) (by rw [e.fn]; rfl)
  · obtain ⟨⟨u, hu⟩, _⟩ := a.loc i _ q
    rcases hk with hk | hk
    · exact wpAny_storeName_cell e.fn hk hcl hu fun h' hc' hs' => h h' _ _ q ⟨⟨u, hu⟩, hc', hs'⟩
    · unfold storeName
      simp only [hk, e.fn]
      exact wpAny_bind (wpAny_cellOf hcl (wpAny_cellSet hu fun h' hc' hs' => h h' _ _ q ⟨⟨u, hu⟩, hc', hs'⟩))

theorem Act.topGrows (a : Act G B Z0 Z locs σ s.heap) : Grows G.hT s.heap := fun b o e => a.base b o (a.top b o e)

theorem global_ok {x : Str} {pos : Pos} {v : Value} {Q : Value → Shared → Prop} (ok : GloOk G) (e : EnvOk cx env locs) (a : Act G B Z0 Z locs σ s.heap) (hx : cx.sc.names.lookup x = some .globalImplicit) (hp : plainName x = true)
    (hv : G.mg x = some v) (h : Q v s) : WP G A (eval (.Name x pos) env) Q s :=
  Calls.Name_function_global e.fn (by show env.scope.names.lookup x = _; rw [e.sc]; exact hx)
    (Calls.loadGlobal_global (by rw [e.glo]; exact ok.g.keeps a.topGrows) hv h) (by simp [plainName] at hp; simpa using hp.1)

theorem builtin_ok {x : Str} {pos : Pos} {v : Value} {Q : Value → Shared → Prop} (ok : GloOk G) (e : EnvOk cx env locs) (a : Act G B Z0 Z locs σ s.heap) (hx : cx.sc.names.lookup x = some .globalImplicit) (hp : plainName x = true)
    (hm : G.mg x = none) (hv : G.mb x = some v) (h : Q v s) : WP G A (eval (.Name x pos) env) Q s :=
  Calls.Name_function_global e.fn (by show env.scope.names.lookup x = _; rw [e.sc]; exact hx)
    (Calls.loadGlobal_builtin (by rw [e.glo]; exact ok.g.keeps a.topGrows) hm (by rw [e.bui]; exact ok.b.keeps a.topGrows) hv h) (by simp [plainName] at hp; simpa using hp.1)
end

/-- what an expression's evaluation leaves as it was -/
structure Ev (locs : Nat → Option Loc) (Z Z' : Zone) (h h' : Heap) : Prop where
  sub : Sub Z Z'
  stay : ∀ i ℓ v, locs i = some ℓ → LocIs h ℓ v → LocIs h' ℓ v
theorem Ev.refl (locs : Nat → Option Loc) (Z : Zone) (h : Heap) : Ev locs Z Z h h := ⟨Sub.refl _, fun _ _ _ _ x => x⟩
theorem Ev.trans {locs : Nat → Option Loc} {Z Z' Z'' : Zone} {h h' h'' : Heap} (x : Ev locs Z Z' h h') (y : Ev locs Z' Z'' h' h'') : Ev locs Z Z'' h h'' := ⟨x.sub.trans y.sub, fun i ℓ v e q => y.stay i ℓ v e (x.stay i ℓ v e q)⟩
theorem Ev.grow {locs : Nat → Option Loc} {Z Z' : Zone} {h h' : Heap} (x : Sub Z Z') (g : Grows h h') : Ev locs Z Z' h h' := ⟨x, fun _ _ _ _ q => q.keep fun o e => g _ o e⟩
theorem Ev.same {locs : Nat → Option Loc} {Z Z' : Zone} {h : Heap} (x : Sub Z Z') : Ev locs Z Z' h h := ⟨x, fun _ _ _ _ q => q⟩

abbrev Sem1 := List Slot → Option (T × List Slot)
abbrev SemX := List Slot → Option (Slot × List Slot)
abbrev SemB := List Slot → Option (Bool × List Slot)
abbrev SemL := List Slot → Option (List T × List Slot)

noncomputable def SE (G : Glo) (cx : Cx) (e : Expr) (f : Sem1) : Prop :=
  ∀ σ t σ', f σ = some (t, σ') → ∀ A env B Z0 Z locs s, AOk cx.k A → EnvOk cx env locs → Act G B Z0 Z locs σ s.heap →
  ∀ Q : Value → Shared → Prop, (∀ h' tk Z' v, Ev locs Z Z' s.heap h' → Act G B Z0 Z' locs σ' h' → Rd Z' t v → Q v { s with heap := h', toks := tk }) → WP G A (eval e env) Q s

noncomputable def SlotVal (Z : Zone) (h : Heap) : Slot → Value → List Addr → Prop
  | .fro t, v, as => as = [] ∧ Rd Z t v
  | .own ts, v, as => ∃ a items, as = [a] ∧ v = .ref a ∧ h.PlainList a items ∧ RdL Z ts items.toList
  | _, _, _ => False

noncomputable def SX (G : Glo) (cx : Cx) (e : Expr) (f : SemX) : Prop :=
  ∀ σ sl σ', f σ = some (sl, σ') → ∀ A env B Z0 Z locs s, AOk cx.k A → EnvOk cx env locs → Act G B Z0 Z locs σ s.heap →
  ∀ Q : Value → Shared → Prop, (∀ h' tk Z' v as, Ev locs Z Z' s.heap h' → Act G (Plus B h' as) Z0 Z' locs σ' h' → (∀ a ∈ as, ∀ o, ¬ B a o) → SlotVal Z' h' sl v as → Q v { s with heap := h', toks := tk }) → WP G A (eval e env) Q s

noncomputable def ST (G : Glo) (cx : Cx) (e : Expr) (f : SemB) : Prop :=
  ∀ σ b σ', f σ = some (b, σ') → ∀ A env B Z0 Z locs s, AOk cx.k A → EnvOk cx env locs → Act G B Z0 Z locs σ s.heap →
  ∀ Q : Bool → Shared → Prop, (∀ h' tk Z', Ev locs Z Z' s.heap h' → Act G B Z0 Z' locs σ' h' → Q b { s with heap := h', toks := tk }) → WP G A (isTrue e env (eval e env)) Q s

noncomputable def SL (G : Glo) (cx : Cx) (es : List Expr) (f : SemL) : Prop :=
  ∀ pos σ ts σ', f σ = some (ts, σ') → ∀ A env B Z0 Z locs s, AOk cx.k A → EnvOk cx env locs → Act G B Z0 Z locs σ s.heap →
  ∀ Q : List Value → Shared → Prop, (∀ h' tk Z' vs, Ev locs Z Z' s.heap h' → Act G B Z0 Z' locs σ' h' → RdL Z' ts vs → Q vs { s with heap := h', toks := tk }) → WP G A (spliced (backTo pos (starEach es env))) Q s

/-- freezing the protected list of a value -/
theorem Act.freezeVal {G : Glo} {B Z0 Z : Zone} {locs : Nat → Option Loc} {σ : List Slot} {h : Heap} {as : List Addr} {sl : Slot} {v : Value} (x : Act G (Plus B h as) Z0 Z locs σ h) (ht : ∀ a o, G.hT.get? a = some o → B a o) (hz : ∀ a o, Z0 a o → B a o)
    (hb : ∀ a ∈ as, ∀ o, ¬ B a o) (hv : SlotVal Z h sl v as) : ∃ Z' t, Sub Z Z' ∧ Act G B Z0 Z' locs σ h ∧ Rd Z' t v ∧ (match sl with | .fro u => t = u | .own ts => t = .list ts | _ => True) := by
  cases sl with
  | fro t => obtain ⟨rfl, hr⟩ := hv; exact ⟨Z, t, Sub.refl _, x.drop ht hz, hr, rfl⟩
  | own ts =>
    obtain ⟨a, items, rfl, rfl, ⟨n, hl⟩, hr⟩ := hv
    have hsub : Sub Z (fun b p => Z b p ∨ (b = a ∧ p = ({ cls := .type "list", data := .seq items n } : Obj))) := fun _ _ q => .inl q
    exact ⟨_, .list ts, hsub, x.freeze ht hz hl ⟨items, n, rfl⟩ (hb a (by simp)), .list (.inr ⟨rfl, rfl⟩) (hr.mono hsub), rfl⟩
  | un => exact hv.elim
  | box xs k => exact hv.elim
  | ext xs => exact hv.elim

noncomputable def froC (f : Sem1) : SemX := fun σ => match f σ with
  | some (t, σ') => some (.fro t, σ')
  | none => none
noncomputable def iceC (f : SemX) : Sem1 := fun σ => match f σ with
  | some (.fro t, σ') => some (t, σ')
  | some (.own ts, σ') => some (.list ts, σ')
  | _ => none

section
variable {G : Glo} {cx : Cx}

theorem SX.ofE {e : Expr} {f : Sem1} (h : SE G cx e f) : SX G cx e (froC f) := by
  intro σ sl σ' hf A env B Z0 Z locs s hA hE hAct Q hQ
  unfold froC at hf
  split at hf
  · rename_i t σ₁ e₁
    cases hf
    refine h σ t _ e₁ A env B Z0 Z locs s hA hE hAct Q fun h' tk Z' v hz act rd => ?_
    exact hQ h' tk Z' v [] hz act.plusNil (fun _ ha => nomatch ha) ⟨rfl, rd⟩
  · cases hf

theorem SE.ofX {e : Expr} {f : SemX} (h : SX G cx e f) : SE G cx e (iceC f) := by
  intro σ t σ' hf A env B Z0 Z locs s hA hE hAct Q hQ
  unfold iceC at hf
  split at hf
  · rename_i t₁ σ₁ e₁
    cases hf
    refine h σ _ _ e₁ A env B Z0 Z locs s hA hE hAct Q fun h' tk Z' v as hz act hb hv => ?_
    obtain ⟨Z₁, t', hz₁, act₁, rd, q⟩ := act.freezeVal hAct.top hAct.z0 hb hv
    dsimp only at q; subst q
    exact hQ h' tk Z₁ v (hz.trans (.same hz₁)) act₁ rd
  · rename_i ts σ₁ e₁
    cases hf
    refine h σ _ _ e₁ A env B Z0 Z locs s hA hE hAct Q fun h' tk Z' v as hz act hb hv => ?_
    obtain ⟨Z₁, t', hz₁, act₁, rd, q⟩ := act.freezeVal hAct.top hAct.z0 hb hv
    dsimp only at q; subst q
    exact hQ h' tk Z₁ v (hz.trans (.same hz₁)) act₁ rd
  · cases hf

/-! names and constants -/
noncomputable def nameC (i : Nat) : Sem1 := fun σ => match σ[i]? with
  | some (.fro t) => some (t, σ)
  | some (.own ts) => some (.list ts, σ.set i (.fro (.list ts)))
  | _ => none

theorem SE.name {x : Str} {pos : Pos} {i : Nat} (hx : cx.sl.lookup x = some i) (hp : plainName x = true) : SE G cx (.Name x pos) (nameC i) := by
  intro σ t σ' hf A env B Z0 Z locs s hA hE hAct Q hQ
  unfold nameC at hf
  split at hf
  · rename_i u e
    cases hf
    obtain ⟨ow, k1, k2, k3⟩ := id hAct.sl
    obtain ⟨_, ℓ, v, hl, hv, hr⟩ := k1 i _ e
    exact name_ok hE hx hp hl hv (hQ s.heap s.toks Z v (Ev.refl _ _ _) hAct hr)
  · rename_i ts e
    cases hf
    obtain ⟨Z', v, ℓ, hz, act, hl, hv, hr⟩ := hAct.freezeSlot e
    exact name_ok hE hx hp hl hv (hQ s.heap s.toks Z' v (.same hz) act hr)
  · cases hf

noncomputable def constC (t : T) : Sem1 := fun σ => some (t, σ)
theorem SE.int {i : Int} {k : Nat} {pos : Pos} : SE G cx (.Constant (.int i) k pos) (constC (.int i)) := by
  intro σ t σ' hf A env B Z0 Z locs s hA hE hAct Q hQ
  cases hf
  exact wpAny_Constant_int (hQ s.heap (s.toks + 1) Z _ (Ev.refl _ _ _) hAct (.int _ _))
theorem SE.none {k : Nat} {pos : Pos} : SE G cx (.Constant .none k pos) (constC .none) := by
  intro σ t σ' hf A env B Z0 Z locs s hA hE hAct Q hQ
  cases hf
  exact wpAny_pure (hQ s.heap s.toks Z _ (Ev.refl _ _ _) hAct .none)
theorem SE.bool {b : Bool} {k : Nat} {pos : Pos} : SE G cx (.Constant (.bool b) k pos) (constC (.bool b)) := by
  intro σ t σ' hf A env B Z0 Z locs s hA hE hAct Q hQ
  cases hf
  exact wpAny_pure (hQ s.heap s.toks Z _ (Ev.refl _ _ _) hAct (.bool _))

/-! lists of expressions -/
noncomputable def nilC : SemL := fun σ => some ([], σ)
noncomputable def consC (f : Sem1) (g : SemL) : SemL := fun σ => match f σ with
  | some (t, σ₁) => (match g σ₁ with
    | some (ts, σ₂) => some (t :: ts, σ₂)
    | none => none)
  | none => none
theorem SL.nil : SL G cx [] nilC := by
  intro pos σ t σ' hf A env B Z0 Z locs s hA hE hAct Q hQ
  cases hf
  exact Calls.spliced_nil (hQ s.heap s.toks Z _ (Ev.refl _ _ _) hAct .nil)
theorem SL.cons {e : Expr} {es : List Expr} {f : Sem1} {g : SemL} (he : SE G cx e f) (hes : SL G cx es g) (hs : ∀ env, starEach (e :: es) env = (false, eval e env) :: starEach es env := by intro _; rfl) : SL G cx (e :: es) (consC f g) := by
  intro pos σ t σ' hf A env B Z0 Z locs s hA hE hAct Q hQ
  unfold consC at hf
  split at hf
  · rename_i t₁ σ₁ e₁
    split at hf
    · rename_i ts σ₂ e₂
      cases hf
      rw [hs]
      show WP G A (spliced ((false, eval e env) :: backTo pos (starEach es env))) Q s
      refine Calls.spliced_cons (he σ _ _ e₁ A env B Z0 Z locs s hA hE hAct _ fun h₁ tk₁ Z₁ v hz₁ act₁ rd₁ => ?_)
      exact hes pos _ _ _ e₂ A env B Z0 Z₁ locs _ hA hE act₁ _ fun h₂ tk₂ Z₂ vs hz₂ act₂ rd₂ => hQ h₂ tk₂ Z₂ (v :: vs) (hz₁.trans hz₂) act₂ (.cons (rd₁.mono hz₂.sub) rd₂)
    · cases hf
  · cases hf

theorem alloc_ok {B Z0 Z : Zone} {locs : Nat → Option Loc} {σ : List Slot} {h : Heap} {o : Obj} (a : Act G B Z0 Z locs σ h) (ho : o.isFreed = false) :
    Act G (Plus B (h.push o) [h.objs.size]) Z0 Z locs σ (h.push o) ∧ (h.push o).get? h.objs.size = some o ∧ ∀ p, ¬ B h.objs.size p := by
  have none : h.get? h.objs.size = none := by
    cases q : h.get? h.objs.size with
    | none => rfl
    | some o' => exact absurd (Heap.lt_size q) (Nat.lt_irrefl _)
  refine ⟨a.protect (Grows.push h o) _ fun b hb => ?_, Heap.get?_push_size h ho, fun p hp => ?_⟩
  · rw [List.mem_singleton.mp hb]; exact none
  · have := a.base _ _ hp; rw [none] at this; cases this

noncomputable def tupC (f : SemL) : Sem1 := fun σ => match f σ with
  | some (ts, σ') => if ts.length ≤ 64 then some (.tup ts, σ') else none
  | none => none
noncomputable def listC (f : SemL) : SemX := fun σ => match f σ with
  | some (ts, σ') => if ts.length ≤ 64 then some (.own ts, σ') else none
  | none => none
theorem SE.tuple {es : List Expr} {k : Nat} {pos : Pos} {f : SemL} (h : SL G cx es f) : SE G cx (.Tuple es k pos) (tupC f) := by
  intro σ t σ' hf A env B Z0 Z locs s hA hE hAct Q hQ
  unfold tupC at hf
  split at hf
  · rename_i ts σ₁ e₁
    split at hf
    · rename_i hlen
      cases hf
      refine Tuple_ (h pos σ _ _ e₁ A env B Z0 Z locs s hA hE hAct _ fun h₁ tk₁ Z₁ vs hz act rd => ?_)
      have hl := rd.length
      refine wpAny_newObj_type ?_ (by show vs.toArray.size ≤ sizeLine; rw [List.size_toArray, sizeLine_eq]; omega)
      obtain ⟨act₂, ho, hb⟩ := alloc_ok (o := { cls := .type "tuple", data := .seq vs.toArray }) act rfl
      have hsub : Sub Z₁ (fun b p => Z₁ b p ∨ (b = h₁.objs.size ∧ p = ({ cls := .type "tuple", data := .seq vs.toArray } : Obj))) := fun _ _ q => .inl q
      exact hQ _ tk₁ _ _ (hz.trans (.grow hsub (Grows.push _ _))) (act₂.freeze hAct.top hAct.z0 ho ⟨_, _, rfl⟩ hb) (.tup (.inr ⟨rfl, rfl⟩) rfl rfl (by simpa using rd.mono hsub))
    · cases hf
  · cases hf
theorem SX.list {es : List Expr} {pos : Pos} {f : SemL} (h : SL G cx es f) : SX G cx (.List es pos) (listC f) := by
  intro σ t σ' hf A env B Z0 Z locs s hA hE hAct Q hQ
  unfold listC at hf
  split at hf
  · rename_i ts σ₁ e₁
    split at hf
    · rename_i hlen
      cases hf
      refine List_ (h pos σ _ _ e₁ A env B Z0 Z locs s hA hE hAct _ fun h₁ tk₁ Z₁ vs hz act rd => ?_)
      have hl := rd.length
      refine wpAny_newObj_type ?_ (by show vs.toArray.size ≤ sizeLine; rw [List.size_toArray, sizeLine_eq]; omega)
      obtain ⟨act₂, ho, hb⟩ := alloc_ok (o := { cls := .type "list", data := .seq vs.toArray }) act rfl
      exact hQ _ tk₁ Z₁ _ [h₁.objs.size] (hz.trans (.grow (Sub.refl _) (Grows.push _ _))) act₂ (fun a ha o => by rw [List.mem_singleton.mp ha]; exact hb o) ⟨_, vs.toArray, rfl, rfl, ⟨_, ho⟩, by simpa using rd⟩
    · cases hf
  · cases hf

/-! operators upon values -/
noncomputable def BinOk (G : Glo) (k : Nat) (op : Operator) (g : T → T → Option T) : Prop := ∀ ta tb t, g ta tb = some t → ∀ A Z s va vb, AOk k A → Rd Z ta va → Rd Z tb vb →
  (∀ a o, Z a o → s.heap.get? a = some o) → ∀ Q : Value → Shared → Prop, (∀ tk v, (∀ Z', Rd Z' t v) → Q v { s with toks := tk }) → WP G A (binaryOp op va vb) Q s

noncomputable def binC (g : T → T → Option T) (fa fb : Sem1) : Sem1 := fun σ => match fa σ with
  | some (ta, σ₁) => (match fb σ₁ with
    | some (tb, σ₂) => (match g ta tb with
      | some t => some (t, σ₂)
      | none => none)
    | none => none)
  | none => none

theorem SE.bin {a b : Expr} {op : Operator} {pos : Pos} {g : T → T → Option T} {fa fb : Sem1} (ho : BinOk G cx.k op g) (ha : SE G cx a fa) (hb : SE G cx b fb) : SE G cx (.BinOp a op b pos) (binC g fa fb) := by
  intro σ t σ' hf A env B Z0 Z locs s hA hE hAct Q hQ
  unfold binC at hf
  split at hf
  · rename_i ta σ₁ e₁
    split at hf
    · rename_i tb σ₂ e₂
      split at hf
      · rename_i t' e₃
        cases hf
        refine wpAny_BinOp (ha σ _ _ e₁ A env B Z0 Z locs s hA hE hAct _ fun h₁ tk₁ Z₁ va hz₁ act₁ rd₁ => ?_)
        refine hb _ _ _ e₂ A env B Z0 Z₁ locs _ hA hE act₁ _ fun h₂ tk₂ Z₂ vb hz₂ act₂ rd₂ => ?_
        exact ho _ _ _ e₃ A Z₂ _ va vb hA (rd₁.mono hz₂.sub) rd₂ (fun a o q => (act₂.zone a o q).1) Q fun tk v rd => hQ h₂ tk Z₂ v (hz₁.trans hz₂) act₂ (rd _)
      · cases hf
    · cases hf
  · cases hf

noncomputable def addI : T → T → Option T
  | .int a, .int b => some (.int (a + b))
  | _, _ => none
noncomputable def subI : T → T → Option T
  | .int a, .int b => some (.int (a - b))
  | _, _ => none
noncomputable def mulI : T → T → Option T
  | .int a, .int b => if a.natAbs < 1000000000000000000 then some (.int (a * b)) else none
  | _, _ => none
noncomputable def modI : T → T → Option T
  | .int a, .int b => if b == 0 then none else some (.int (a.fmod b))
  | _, _ => none
noncomputable def divI : T → T → Option T
  | .int a, .int b => if b == 0 then none else if b.natAbs < 1073741824 then some (.int (a.fdiv b)) else none
  | _, _ => none
noncomputable def powI : T → T → Option T
  | .int a, .int b => match b with
    | .ofNat n => if a.natAbs < 1000000000000000000 then (if n ≤ 1000 then some (.int (a ^ n)) else none) else none
    | _ => none
  | _, _ => none

theorem addI_ok {k : Nat} : BinOk G k .Add addI := by
  intro ta tb t hg A Z s va vb hA ra rb hz Q hQ
  unfold addI at hg
  split at hg
  · cases hg
    cases ra; cases rb
    exact PySem.P.add_int (hQ _ _ fun _ => .int _ _)
  · cases hg
theorem subI_ok {k : Nat} : BinOk G k .Sub subI := by
  intro ta tb t hg A Z s va vb hA ra rb hz Q hQ
  unfold subI at hg
  split at hg
  · cases hg
    cases ra; cases rb
    exact PySem.P.sub_int (hQ _ _ fun _ => .int _ _)
  · cases hg
theorem mulI_ok {k : Nat} : BinOk G k .Mult mulI := by
  intro ta tb t hg A Z s va vb hA ra rb hz Q hQ
  unfold mulI at hg
  split at hg
  · split at hg
    · rename_i hb
      cases hg
      cases ra; cases rb
      exact PySem.P.mul_int (hQ _ _ fun _ => .int _ _) (IntMulOk.of_left (intBits_le_64 (by omega) (by omega)))
    · cases hg
  · cases hg
theorem modI_ok {k : Nat} : BinOk G k .Mod modI := by
  intro ta tb t hg A Z s va vb hA ra rb hz Q hQ
  unfold modI at hg
  split at hg
  · split at hg
    · cases hg
    · rename_i hb
      cases hg
      cases ra; cases rb
      exact PyProof.Rows.mod_int' (by simpa using hb) (hQ _ _ fun _ => .int _ _)
  · cases hg
theorem divI_ok {k : Nat} : BinOk G k .FloorDiv divI := by
  intro ta tb t hg A Z s va vb hA ra rb hz Q hQ
  unfold divI at hg
  split at hg
  · split at hg
    · cases hg
    · rename_i hb
      split at hg
      · rename_i hs
        cases hg
        cases ra; cases rb
        exact PyProof.Rows.floordiv_int (by simpa using hb) (hQ _ _ fun _ => .int _ _) (.inl (PyProof.noPylong_small hs))
      · cases hg
  · cases hg
theorem powI_ok {k : Nat} : BinOk G k .Pow powI := by
  intro ta tb t hg A Z s va vb hA ra rb hz Q hQ
  unfold powI at hg
  split at hg
  · split at hg
    · split at hg
      · split at hg
        · rename_i h1 h2
          cases hg
          cases ra; cases rb
          exact PyProof.Rows.pow_int_small (by simp) (by show ((_ : Nat) : Int) ≤ _; omega) (by omega) (hQ _ _ fun _ => .int _ _)
        · cases hg
      · cases hg
    · cases hg
  · cases hg

noncomputable def negC (f : Sem1) : Sem1 := fun σ => match f σ with
  | some (.int a, σ') => some (.int (-a), σ')
  | _ => none
theorem SE.neg {a : Expr} {pos : Pos} {f : Sem1} (ha : SE G cx a f) : SE G cx (.UnaryOp .USub a pos) (negC f) := by
  intro σ t σ' hf A env B Z0 Z locs s hA hE hAct Q hQ
  unfold negC at hf
  split at hf
  · rename_i i σ₁ e₁
    cases hf
    refine wpAny_UnaryOp (ha σ _ _ e₁ A env B Z0 Z locs s hA hE hAct _ fun h₁ tk₁ Z₁ va hz₁ act₁ rd₁ => ?_)
    cases rd₁
    exact PySem.P.neg_int (hQ h₁ _ Z₁ _ hz₁ act₁ (.int _ _))
  · cases hf

/-! comparisons -/
noncomputable def CmpOk (G : Glo) (k : Nat) (op : CmpOp) (g : T → T → Option Bool) : Prop := ∀ ta tb b, g ta tb = some b → ∀ A Z s va vb, AOk k A → Rd Z ta va → Rd Z tb vb →
  (∀ a o, Z a o → s.heap.get? a = some o) → ∀ Q : Value → Shared → Prop, Q (.bool b) s → WP G A (compareOp op va vb) Q s

noncomputable def cmpC (g : T → T → Option Bool) (fa fb : Sem1) : SemB := fun σ => match fa σ with
  | some (ta, σ₁) => (match fb σ₁ with
    | some (tb, σ₂) => (match g ta tb with
      | some t => some (t, σ₂)
      | none => none)
    | none => none)
  | none => none

theorem ST.cmp {a b : Expr} {op : CmpOp} {pos : Pos} {g : T → T → Option Bool} {fa fb : Sem1} (ho : CmpOk G cx.k op g) (ha : SE G cx a fa) (hb : SE G cx b fb) (hm : behindInMarks op b = false := by with_unfolding_all rfl) :
    ST G cx (.Compare a [op] [b] pos) (cmpC g fa fb) := by
  intro σ t σ' hf A env B Z0 Z locs s hA hE hAct Q hQ
  unfold cmpC at hf
  split at hf
  · rename_i ta σ₁ e₁
    split at hf
    · rename_i tb σ₂ e₂
      split at hf
      · rename_i t' e₃
        cases hf
        refine wpAny_isTrue_Compare1 (ha σ _ _ e₁ A env B Z0 Z locs s hA hE hAct _ fun h₁ tk₁ Z₁ va hz₁ act₁ rd₁ => ?_) hm
        refine hb _ _ _ e₂ A env B Z0 Z₁ locs _ hA hE act₁ _ fun h₂ tk₂ Z₂ vb hz₂ act₂ rd₂ => ?_
        exact ho _ _ _ e₃ A Z₂ _ va vb hA (rd₁.mono hz₂.sub) rd₂ (fun a o q => (act₂.zone a o q).1) _ (wpAny_truthy_bool (hQ h₂ tk₂ Z₂ (hz₁.trans hz₂) act₂))
      · cases hf
    · cases hf
  · cases hf

noncomputable def boolC (f : SemB) : Sem1 := fun σ => match f σ with
  | some (b, σ') => some (.bool b, σ')
  | none => none
theorem SE.cmp {a b : Expr} {op : CmpOp} {pos : Pos} {g : T → T → Option Bool} {fa fb : Sem1} (ho : CmpOk G cx.k op g) (ha : SE G cx a fa) (hb : SE G cx b fb) (hm : behindInMarks op b = false := by with_unfolding_all rfl) :
    SE G cx (.Compare a [op] [b] pos) (boolC (cmpC g fa fb)) := by
  intro σ t σ' hf A env B Z0 Z locs s hA hE hAct Q hQ
  unfold boolC at hf
  split at hf
  · rename_i bb σ₀ hf'
    cases hf
    unfold cmpC at hf'
    split at hf'
    · rename_i ta σ₁ e₁
      split at hf'
      · rename_i tb σ₂ e₂
        split at hf'
        · rename_i t' e₃
          cases hf'
          refine wpAny_Compare1 (ha σ _ _ e₁ A env B Z0 Z locs s hA hE hAct _ fun h₁ tk₁ Z₁ va hz₁ act₁ rd₁ => ?_) hm
          refine hb _ _ _ e₂ A env B Z0 Z₁ locs _ hA hE act₁ _ fun h₂ tk₂ Z₂ vb hz₂ act₂ rd₂ => ?_
          exact ho _ _ _ e₃ A Z₂ _ va vb hA (rd₁.mono hz₂.sub) rd₂ (fun a o q => (act₂.zone a o q).1) _ (hQ h₂ tk₂ Z₂ _ (hz₁.trans hz₂) act₂ (.bool _))
        · cases hf'
      · cases hf'
    · cases hf'
  · cases hf

noncomputable def eqI : T → T → Option Bool
  | .int a, .int b => some (a == b)
  | _, _ => none
noncomputable def neI : T → T → Option Bool
  | .int a, .int b => some (a != b)
  | _, _ => none
noncomputable def ltI : T → T → Option Bool
  | .int a, .int b => some (decide (a < b))
  | _, _ => none
noncomputable def gtI : T → T → Option Bool
  | .int a, .int b => some (decide (b < a))
  | _, _ => none
noncomputable def geI : T → T → Option Bool
  | .int a, .int b => some (decide (b ≤ a))
  | _, _ => none
noncomputable def isN : T → T → Option Bool
  | .none, .none => some true
  | .list _, .none => some false
  | .int _, .none => some false
  | .tup _, .none => some false
  | _, _ => none
noncomputable def isNotN : T → T → Option Bool
  | .none, .none => some false
  | .list _, .none => some true
  | .int _, .none => some true
  | .tup _, .none => some true
  | _, _ => none

theorem eqI_ok {k : Nat} : CmpOk G k .Eq eqI := by
  intro ta tb t hg A Z s va vb hA ra rb hz Q hQ
  unfold eqI at hg
  split at hg
  · cases hg; cases ra; cases rb; exact PySem.P.eq_int hQ
  · cases hg
theorem neI_ok {k : Nat} : CmpOk G k .NotEq neI := by
  intro ta tb t hg A Z s va vb hA ra rb hz Q hQ
  unfold neI at hg
  split at hg
  · cases hg; cases ra; cases rb; exact PySem.P.ne_int hQ
  · cases hg
theorem ltI_ok {k : Nat} : CmpOk G k .Lt ltI := by
  intro ta tb t hg A Z s va vb hA ra rb hz Q hQ
  unfold ltI at hg
  split at hg
  · cases hg; cases ra; cases rb; exact PySem.P.lt_int hQ
  · cases hg
theorem gtI_ok {k : Nat} : CmpOk G k .Gt gtI := by
  intro ta tb t hg A Z s va vb hA ra rb hz Q hQ
  unfold gtI at hg
  split at hg
  · cases hg; cases ra; cases rb; exact PySem.P.gt_int hQ
  · cases hg
theorem geI_ok {k : Nat} : CmpOk G k .GtE geI := by
  intro ta tb t hg A Z s va vb hA ra rb hz Q hQ
  unfold geI at hg
  split at hg
  · cases hg; cases ra; cases rb; exact PySem.P.ge_int hQ
  · cases hg
theorem isN_ok {k : Nat} : CmpOk G k .Is isN := by
  intro ta tb t hg A Z s va vb hA ra rb hz Q hQ
  unfold isN at hg
  split at hg <;> cases hg <;> cases ra <;> cases rb <;> exact is_none_gen hQ
theorem isNotN_ok {k : Nat} : CmpOk G k .IsNot isNotN := by
  intro ta tb t hg A Z s va vb hA ra rb hz Q hQ
  unfold isNotN at hg
  split at hg <;> cases hg <;> cases ra <;> cases rb <;> exact isnot_none_gen hQ

/-! tests joined -/
noncomputable def chainC (g₁ g₂ : T → T → Option Bool) (fa fb fc : Sem1) : SemB := fun σ => match fa σ with
  | some (ta, σ₁) => (match fb σ₁ with
    | some (tb, σ₂) => (match g₁ ta tb with
      | some true => (match fc σ₂ with
        | some (tc, σ₃) => (match g₂ tb tc with
          | some t => some (t, σ₃)
          | none => none)
        | none => none)
      | some false => some (false, σ₂)
      | none => none)
    | none => none)
  | none => none
end
end Mine

namespace Mine
open PySem PySem.W PyProof.Rows PySem.Calls
section
variable {G : Glo} {cx : Cx}

/-! tests -/
theorem ST.chain {a b c : Expr} {op₁ op₂ : CmpOp} {pos : Pos} {g₁ g₂ : T → T → Option Bool} {fa fb fc : Sem1} (o₁ : CmpOk G cx.k op₁ g₁) (o₂ : CmpOk G cx.k op₂ g₂) (ha : SE G cx a fa) (hb : SE G cx b fb) (hc : SE G cx c fc)
    (hm : lastMarks [op₁, op₂] [b, c] = false := by with_unfolding_all rfl) : ST G cx (.Compare a [op₁, op₂] [b, c] pos) (chainC g₁ g₂ fa fb fc) := by
  intro σ t σ' hf A env B Z0 Z locs s hA hE hAct Q hQ
  unfold chainC at hf
  split at hf
  · rename_i ta σ₁ e₁
    split at hf
    · rename_i tb σ₂ e₂
      refine isTrue_chain (ha σ _ _ e₁ A env B Z0 Z locs s hA hE hAct _ fun h₁ tk₁ Z₁ va hz₁ act₁ rd₁ => ?_) hm
      refine test_link (hb _ _ _ e₂ A env B Z0 Z₁ locs _ hA hE act₁ _ fun h₂ tk₂ Z₂ vb hz₂ act₂ rd₂ => ?_)
      split at hf
      · rename_i e₃
        refine o₁ _ _ _ e₃ A Z₂ _ va vb hA (rd₁.mono hz₂.sub) rd₂ (fun a o q => (act₂.zone a o q).1) _ (wpAny_truthy_bool ?_)
        show WP G A (testChain _ _ _ _) _ _
        split at hf
        · rename_i tc σ₃ e₄
          split at hf
          · rename_i t' e₅
            cases hf
            refine test_last (hc _ _ _ e₄ A env B Z0 Z₂ locs _ hA hE act₂ _ fun h₃ tk₃ Z₃ vc hz₃ act₃ rd₃ => ?_)
            exact o₂ _ _ _ e₅ A Z₃ _ vb vc hA (rd₂.mono hz₃.sub) rd₃ (fun a o q => (act₃.zone a o q).1) _ (wpAny_truthy_bool (hQ h₃ tk₃ Z₃ ((hz₁.trans hz₂).trans hz₃) act₃))
          · cases hf
        · cases hf
      · rename_i e₃
        cases hf
        refine o₁ _ _ _ e₃ A Z₂ _ va vb hA (rd₁.mono hz₂.sub) rd₂ (fun a o q => (act₂.zone a o q).1) _ (wpAny_truthy_bool ?_)
        exact hQ h₂ tk₂ Z₂ (hz₁.trans hz₂) act₂
      · cases hf
    · cases hf
  · cases hf

noncomputable def andC (f g : SemB) : SemB := fun σ => match f σ with
  | some (true, σ₁) => g σ₁
  | some (false, σ₁) => some (false, σ₁)
  | none => none
noncomputable def orC (f g : SemB) : SemB := fun σ => match f σ with
  | some (true, σ₁) => some (true, σ₁)
  | some (false, σ₁) => g σ₁
  | none => none
theorem ST.and {a b : Expr} {pos : Pos} {f g : SemB} (ha : ST G cx a f) (hb : ST G cx b g) : ST G cx (.BoolOp .And [a, b] pos) (andC f g) := by
  intro σ t σ' hf A env B Z0 Z locs s hA hE hAct Q hQ
  unfold andC at hf
  split at hf
  · rename_i σ₁ e₁
    refine isTrue_and (ha σ _ _ e₁ A env B Z0 Z locs s hA hE hAct _ fun h₁ tk₁ Z₁ hz₁ act₁ => ?_)
    show WP G A _ _ _
    refine isTrue_and (hb _ _ _ hf A env B Z0 Z₁ locs _ hA hE act₁ _ fun h₂ tk₂ Z₂ hz₂ act₂ => ?_)
    have := hQ h₂ tk₂ Z₂ (hz₁.trans hz₂) act₂
    cases t with
    | true => exact isTrue_and_nil this
    | false => exact this
  · rename_i σ₁ e₁
    cases hf
    exact isTrue_and (ha σ _ _ e₁ A env B Z0 Z locs s hA hE hAct _ fun h₁ tk₁ Z₁ hz₁ act₁ => hQ h₁ tk₁ Z₁ hz₁ act₁)
  · cases hf
theorem ST.or {a b : Expr} {pos : Pos} {f g : SemB} (ha : ST G cx a f) (hb : ST G cx b g) : ST G cx (.BoolOp .Or [a, b] pos) (orC f g) := by
  intro σ t σ' hf A env B Z0 Z locs s hA hE hAct Q hQ
  unfold orC at hf
  split at hf
  · rename_i σ₁ e₁
    cases hf
    exact isTrue_or (ha σ _ _ e₁ A env B Z0 Z locs s hA hE hAct _ fun h₁ tk₁ Z₁ hz₁ act₁ => hQ h₁ tk₁ Z₁ hz₁ act₁)
  · rename_i σ₁ e₁
    refine isTrue_or (ha σ _ _ e₁ A env B Z0 Z locs s hA hE hAct _ fun h₁ tk₁ Z₁ hz₁ act₁ => ?_)
    show WP G A _ _ _
    refine isTrue_or (hb _ _ _ hf A env B Z0 Z₁ locs _ hA hE act₁ _ fun h₂ tk₂ Z₂ hz₂ act₂ => ?_)
    have := hQ h₂ tk₂ Z₂ (hz₁.trans hz₂) act₂
    cases t with
    | true => exact this
    | false => exact isTrue_or_nil this
  · cases hf

/-- the or of two comparisons, as a value -/
noncomputable def orV (f g : Sem1) : Sem1 := fun σ => match f σ with
  | some (.bool true, σ₁) => some (.bool true, σ₁)
  | some (.bool false, σ₁) => g σ₁
  | _ => none
theorem SE.or {a b : Expr} {pos : Pos} {f g : Sem1} (ha : SE G cx a f) (hb : SE G cx b g) : SE G cx (.BoolOp .Or [a, b] pos) (orV f g) := by
  intro σ t σ' hf A env B Z0 Z locs s hA hE hAct Q hQ
  unfold orV at hf
  split at hf
  · rename_i σ₁ e₁
    cases hf
    refine BoolOp_or (ha σ _ _ e₁ A env B Z0 Z locs s hA hE hAct _ fun h₁ tk₁ Z₁ v hz₁ act₁ rd₁ => ?_)
    cases rd₁
    exact wpAny_truthy_bool (hQ h₁ tk₁ Z₁ _ hz₁ act₁ (.bool _))
  · rename_i σ₁ e₁
    refine BoolOp_or (ha σ _ _ e₁ A env B Z0 Z locs s hA hE hAct _ fun h₁ tk₁ Z₁ v hz₁ act₁ rd₁ => ?_)
    cases rd₁
    refine wpAny_truthy_bool ?_
    show WP G A _ _ _
    exact BoolOp_one (hb _ _ _ hf A env B Z0 Z₁ locs _ hA hE act₁ _ fun h₂ tk₂ Z₂ v₂ hz₂ act₂ rd₂ => hQ h₂ tk₂ Z₂ v₂ (hz₁.trans hz₂) act₂ rd₂)
  · cases hf

noncomputable def ifC (c : SemB) (f g : Sem1) : Sem1 := fun σ => match c σ with
  | some (true, σ₁) => f σ₁
  | some (false, σ₁) => g σ₁
  | none => none
theorem SE.ifExp {c a b : Expr} {pos : Pos} {fc : SemB} {f g : Sem1} (hc : ST G cx c fc) (ha : SE G cx a f) (hb : SE G cx b g) : SE G cx (.IfExp c a b pos) (ifC fc f g) := by
  intro σ t σ' hf A env B Z0 Z locs s hA hE hAct Q hQ
  unfold ifC at hf
  split at hf
  · rename_i σ₁ e₁
    refine IfExp_ (hc σ _ _ e₁ A env B Z0 Z locs s hA hE hAct _ fun h₁ tk₁ Z₁ hz₁ act₁ => ?_)
    exact ha _ _ _ hf A env B Z0 Z₁ locs _ hA hE act₁ _ fun h₂ tk₂ Z₂ v₂ hz₂ act₂ rd₂ => hQ h₂ tk₂ Z₂ v₂ (hz₁.trans hz₂) act₂ rd₂
  · rename_i σ₁ e₁
    refine IfExp_ (hc σ _ _ e₁ A env B Z0 Z locs s hA hE hAct _ fun h₁ tk₁ Z₁ hz₁ act₁ => ?_)
    exact hb _ _ _ hf A env B Z0 Z₁ locs _ hA hE act₁ _ fun h₂ tk₂ Z₂ v₂ hz₂ act₂ rd₂ => hQ h₂ tk₂ Z₂ v₂ (hz₁.trans hz₂) act₂ rd₂
  · cases hf

/-! pure expressions: ints, the heap as it is -/
abbrev SemP := List Slot → Option Int
noncomputable def SP (G : Glo) (cx : Cx) (e : Expr) (f : SemP) : Prop :=
  ∀ σ i, f σ = some i → ∀ A env B Z0 Z locs s, AOk cx.k A → EnvOk cx env locs → Act G B Z0 Z locs σ s.heap →
  ∀ Q : Value → Shared → Prop, (∀ tk t, Q (.int i t) { s with toks := tk }) → WP G A (eval e env) Q s

noncomputable def pureC (f : SemP) : Sem1 := fun σ => match f σ with
  | some i => some (.int i, σ)
  | none => none
theorem SE.ofP {e : Expr} {f : SemP} (h : SP G cx e f) : SE G cx e (pureC f) := by
  intro σ t σ' hf A env B Z0 Z locs s hA hE hAct Q hQ
  unfold pureC at hf
  split at hf
  · rename_i i e₁
    cases hf
    exact h _ _ e₁ A env B Z0 Z locs s hA hE hAct Q fun tk t => hQ s.heap tk Z _ (Ev.refl _ _ _) hAct (.int _ _)
  · cases hf

noncomputable def nameP (i : Nat) : SemP := fun σ => match σ[i]? with
  | some (.fro (.int n)) => some n
  | _ => none
theorem SP.name {x : Str} {pos : Pos} {i : Nat} (hx : cx.sl.lookup x = some i) (hp : plainName x = true) : SP G cx (.Name x pos) (nameP i) := by
  intro σ n hf A env B Z0 Z locs s hA hE hAct Q hQ
  unfold nameP at hf
  split at hf
  · rename_i u e
    cases hf
    obtain ⟨ow, k1, k2, k3⟩ := id hAct.sl
    obtain ⟨_, ℓ, v, hl, hv, hr⟩ := k1 i _ e
    cases hr
    exact name_ok hE hx hp hl hv (hQ s.toks _)
  · cases hf
noncomputable def constP (i : Int) : SemP := fun _ => some i
theorem SP.int {i : Int} {k : Nat} {pos : Pos} : SP G cx (.Constant (.int i) k pos) (constP i) := by
  intro σ n hf A env B Z0 Z locs s hA hE hAct Q hQ
  cases hf
  exact wpAny_Constant_int (hQ (s.toks + 1) _)
noncomputable def binP (g : Int → Int → Int) (f h : SemP) : SemP := fun σ => match f σ with
  | some a => (match h σ with
    | some b => some (g a b)
    | none => none)
  | none => none
theorem SP.add {a b : Expr} {pos : Pos} {f g : SemP} (ha : SP G cx a f) (hb : SP G cx b g) : SP G cx (.BinOp a .Add b pos) (binP (· + ·) f g) := by
  intro σ n hf A env B Z0 Z locs s hA hE hAct Q hQ
  unfold binP at hf
  split at hf
  · rename_i x e₁
    split at hf
    · rename_i y e₂
      cases hf
      exact wpAny_BinOp (ha _ _ e₁ A env B Z0 Z locs s hA hE hAct _ fun tk t => hb _ _ e₂ A env B Z0 Z locs { s with toks := tk } hA hE hAct _ fun tk₂ t₂ => PySem.P.add_int (hQ _ _))
    · cases hf
  · cases hf
theorem SP.sub {a b : Expr} {pos : Pos} {f g : SemP} (ha : SP G cx a f) (hb : SP G cx b g) : SP G cx (.BinOp a .Sub b pos) (binP (· - ·) f g) := by
  intro σ n hf A env B Z0 Z locs s hA hE hAct Q hQ
  unfold binP at hf
  split at hf
  · rename_i x e₁
    split at hf
    · rename_i y e₂
      cases hf
      exact wpAny_BinOp (ha _ _ e₁ A env B Z0 Z locs s hA hE hAct _ fun tk t => hb _ _ e₂ A env B Z0 Z locs { s with toks := tk } hA hE hAct _ fun tk₂ t₂ => PySem.P.sub_int (hQ _ _))
    · cases hf
  · cases hf
noncomputable def negP (f : SemP) : SemP := fun σ => match f σ with
  | some a => some (-a)
  | none => none
theorem SP.neg {a : Expr} {pos : Pos} {f : SemP} (ha : SP G cx a f) : SP G cx (.UnaryOp .USub a pos) (negP f) := by
  intro σ n hf A env B Z0 Z locs s hA hE hAct Q hQ
  unfold negP at hf
  split at hf
  · rename_i x e₁
    cases hf
    exact wpAny_UnaryOp (ha _ _ e₁ A env B Z0 Z locs s hA hE hAct _ fun tk t => PySem.P.neg_int (hQ _ _))
  · cases hf

/-- a list in a variable -/
theorem listVar {B Z0 Z : Zone} {locs : Nat → Option Loc} {σ : List Slot} {h : Heap} {i : Nat} {ts : List T} (a : Act G B Z0 Z locs σ h) (e : σ[i]? = some (.fro (.list ts)) ∨ σ[i]? = some (.own ts)) :
    ∃ ℓ l items, locs i = some ℓ ∧ LocIs h ℓ (some (.ref l)) ∧ h.PlainList l items ∧ RdL Z ts items.toList := by
  obtain ⟨ow, k1, k2, k3⟩ := id a.sl
  rcases e with e | e
  · obtain ⟨_, ℓ, v, hl, hv, hr⟩ := k1 i _ e
    cases hr with
    | list hz hr => exact ⟨ℓ, _, _, hl, hv, ⟨_, (a.zone _ _ hz).1⟩, hr⟩
  · obtain ⟨l, items, ℓ, _, hl, hv, hp, hr⟩ := k1 i _ e
    exact ⟨ℓ, l, items, hl, hv, hp, hr⟩

/-- the items of a list variable -/
noncomputable def itemsP (i : Nat) (σ : List Slot) : Option (List T) := match σ[i]? with
  | some (.fro (.list ts)) => some ts
  | some (.own ts) => some ts
  | _ => none
theorem itemsP_or {i : Nat} {σ : List Slot} {ts : List T} (h : itemsP i σ = some ts) : σ[i]? = some (.fro (.list ts)) ∨ σ[i]? = some (.own ts) := by
  unfold itemsP at h
  split at h
  · rename_i q; cases h; exact .inl q
  · rename_i q; cases h; exact .inr q
  · cases h

structure Bi (G : Glo) (x : Str) (v : Value) : Prop where
  miss : G.mg x = none
  has : G.mb x = some v

theorem size_of {Z : Zone} {ts : List T} {items : Array Value} (h : RdL Z ts items.toList) : items.size = ts.length := by rw [h.length, Array.length_toList]

noncomputable def lenP (i : Nat) : SemP := fun σ => match itemsP i σ with
  | some ts => if ts.length ≤ 1000000 then some ts.length else none
  | none => none
theorem SP.len {x f : Str} {p pos pf : Pos} {i : Nat} (ok : GloOk G) (bi : Bi G f (.builtin "len")) (hg : cx.sc.names.lookup f = some .globalImplicit) (hpf : plainName f = true) (hx : cx.sl.lookup x = some i) (hp : plainName x = true) :
    SP G cx (.Call (.Name f pf) [.Name x p] [] pos) (lenP i) := by
  intro σ n hf A env B Z0 Z locs s hA hE hAct Q hQ
  unfold lenP at hf
  split at hf
  · rename_i ts e
    split at hf
    · rename_i hsz
      cases hf
      obtain ⟨ℓ, l, items, hl, hv, hpl, hr⟩ := listVar hAct (itemsP_or e)
      have hz := size_of hr
      refine wpAny_Call_Name_kw (builtin_ok ok hE hAct hg hpf bi.miss bi.has ?_)
      show WP G A (callWith pos (.builtin "len") [] ((false, eval (.Name x p) env) :: []) []) Q s
      refine Calls.callWith_builtin rfl (Calls.evalArgs_plain (Calls.spliced_cons (name_ok hE hx hp hl hv (Calls.spliced_nil ?_))))
      refine Calls.call_len_list hpl.isList (by rw [hz]; omega) ?_
      rw [hz]; exact hQ _ _
    · cases hf
  · cases hf

/-! items -/
noncomputable def atT (ts : List T) : Int → Option T
  | .ofNat n => if n ≤ 1000000 then ts[n]? else none
  | .negSucc n => if n + 1 ≤ ts.length then (if ts.length ≤ 1000000 then ts[ts.length - (n + 1)]? else none) else none

theorem getItem_ok {Z : Zone} {A : Around} {s : Shared} {l : Addr} {items : Array Value} {ts : List T} {k : Int} {t : Tok} {u : T} {value slice : Expr} (hl : s.heap.IsList l items) (hr : RdL Z ts items.toList) (hk : atT ts k = some u)
    {Q : Value → Shared → Prop} (h : ∀ v, Rd Z u v → Q v s) (hs : subscripted slice false (.ref l) (.int k t) = operate [.ref l, .int k t] (getItem (.ref l) (.int k t))) : WP G A (subscriptTail value slice (.ref l) (.int k t)) Q s := by
  have hz := size_of hr
  refine tail_any hl.typeIs slot_list_getitem.lookup ?_ hs
  unfold atT at hk
  split at hk
  · rename_i n
    split at hk
    · obtain ⟨v, hv, hd⟩ := hr.get hk
      exact wpAny_getItem_list hl (by simp) (by show ((n : Nat) : Int) < _; omega) (by simpa using hv) (h v hd)
    · cases hk
  · rename_i n
    split at hk
    · split at hk
      · obtain ⟨v, hv, hd⟩ := hr.get hk
        have e : (Int.negSucc n + items.size).toNat = ts.length - (n + 1) := by rw [hz]; omega
        exact wpAny_getItem_list_neg hl (by omega) (by rw [hz]; omega) (by omega) (by rw [e]; simpa using hv) (h v hd)
      · cases hk
    · cases hk

theorem getItem_tup_ok {Z : Zone} {A : Around} {s : Shared} {l : Addr} {items : Array Value} {ts : List T} {n : Nat} {t : Tok} {u : T} {value slice : Expr} (hl : IsTup s.heap l items) (hr : RdL Z ts items.toList) (hn : n ≤ 1000000) (hk : ts[n]? = some u)
    {Q : Value → Shared → Prop} (h : ∀ v, Rd Z u v → Q v s) (hs : subscripted slice false (.ref l) (.int n t) = operate [.ref l, .int n t] (getItem (.ref l) (.int n t))) : WP G A (subscriptTail value slice (.ref l) (.int n t)) Q s := by
  obtain ⟨v, hv, hd⟩ := hr.get hk
  have hlt : n < items.toList.length := (List.getElem?_eq_some_iff.mp hv).1
  refine item_tupleT (l := items.toList) (j := n) (by simpa using hl) (by omega) (by omega) ?_ hv (h v hd) hs
  unfold seqIndex?
  first
  | (simp; omega)
  | (simp at hlt ⊢; omega)

noncomputable def atK (ts : List T) (k : Option Int) (σ : List Slot) : Option (T × List Slot) := match k with
  | some k => (match atT ts k with | some t => some (t, σ) | none => none)
  | none => none
/-- N[e], of a list or tuple in a variable, the place a pure expression -/
noncomputable def atP (i : Nat) (f : SemP) : Sem1 := fun σ => match σ[i]? with
  | some (.fro (.list ts)) => atK ts (f σ) σ
  | some (.own ts) => atK ts (f σ) σ
  | some (.fro (.tup ts)) => (match f σ with
    | some (.ofNat n) => (match ts[n]? with | some t => if n ≤ 1000000 then some (t, σ) else none | none => none)
    | _ => none)
  | _ => none

theorem SE.at {x : Str} {p pos : Pos} {e : Expr} {i : Nat} {f : SemP} (hx : cx.sl.lookup x = some i) (hp : plainName x = true) (he : SP G cx e f)
    (hs : ∀ o j, subscripted e false o j = operate [o, j] (getItem o j) := by intro _ _; rfl) : SE G cx (.Subscript (.Name x p) e pos) (atP i f) := by
  intro σ t σ' hf A env B Z0 Z locs s hA hE hAct Q hQ
  unfold atP at hf
  have lists : ∀ ts, (σ[i]? = some (.fro (.list ts)) ∨ σ[i]? = some (.own ts)) → atK ts (f σ) σ = some (t, σ') → WP G A (eval (.Subscript (.Name x p) e pos) env) Q s := by
    intro ts hσ hf
    unfold atK at hf
    split at hf
    · rename_i k e₁
      split at hf
      · rename_i u e₂
        cases hf
        obtain ⟨ℓ, l, items, hl, hv, hpl, hr⟩ := listVar hAct hσ
        refine Subscript_ (name_ok hE hx hp hl hv (he _ _ e₁ A env B Z0 Z locs s hA hE hAct _ fun tk u => ?_))
        exact getItem_ok (Z := Z) (s := { s with toks := tk }) hpl.isList hr e₂ (fun v hd => hQ s.heap tk Z v (Ev.refl _ _ _) hAct hd) (hs _ _)
      · cases hf
    · cases hf
  split at hf
  · rename_i ts e; exact lists ts (.inl e) hf
  · rename_i ts e; exact lists ts (.inr e) hf
  · rename_i ts e
    split at hf
    · rename_i n e₁
      split at hf
      · rename_i u e₂
        split at hf
        · rename_i hn
          cases hf
          obtain ⟨ow, k1, k2, k3⟩ := id hAct.sl
          obtain ⟨_, ℓ, v, hl, hv, hr⟩ := k1 i _ e
          cases hr with
          | tup hz hc hd hr =>
            rename_i a o items m
            have hT : IsTup s.heap a items := ⟨o, (hAct.zone _ _ hz).1, hc, m, hd⟩
            refine Subscript_ (name_ok hE hx hp hl hv (he _ _ e₁ A env B Z0 Z locs s hA hE hAct _ fun tk u => ?_))
            exact getItem_tup_ok (Z := Z) (s := { s with toks := tk }) hT hr hn e₂ (fun v hd => hQ s.heap tk Z v (Ev.refl _ _ _) hAct hd) (hs _ _)
        · cases hf
      · cases hf
    · cases hf
  · cases hf

/-- e₁[e₂], of any list or tuple value -/
noncomputable def atC (f : Sem1) (g : SemP) : Sem1 := fun σ => match f σ with
  | some (.list ts, σ₁) => atK ts (g σ₁) σ₁
  | some (.tup ts, σ₁) => (match g σ₁ with
    | some (.ofNat n) => (match ts[n]? with | some t => if n ≤ 1000000 then some (t, σ₁) else none | none => none)
    | _ => none)
  | _ => none
theorem SE.atV {a : Expr} {pos : Pos} {e : Expr} {f : Sem1} {g : SemP} (ha : SE G cx a f) (he : SP G cx e g)
    (hs : ∀ o j, subscripted e false o j = operate [o, j] (getItem o j) := by intro _ _; rfl) : SE G cx (.Subscript a e pos) (atC f g) := by
  intro σ t σ' hf A env B Z0 Z locs s hA hE hAct Q hQ
  unfold atC at hf
  split at hf
  · rename_i ts σ₁ e₀
    unfold atK at hf
    split at hf
    · rename_i k e₁
      split at hf
      · rename_i u e₂
        cases hf
        refine Subscript_ (ha _ _ _ e₀ A env B Z0 Z locs s hA hE hAct _ fun h₁ tk₁ Z₁ va hz₁ act₁ rd₁ => ?_)
        cases rd₁ with
        | list hz hr =>
          rename_i l items n
          refine he _ _ e₁ A env B Z0 Z₁ locs _ hA hE act₁ _ fun tk u => ?_
          have hpl : h₁.PlainList l items := ⟨_, (act₁.zone _ _ hz).1⟩
          exact getItem_ok (Z := Z₁) (s := { s with heap := h₁, toks := tk }) hpl.isList hr e₂ (fun v hd => hQ h₁ tk Z₁ v hz₁ act₁ hd) (hs _ _)
      · cases hf
    · cases hf
  · rename_i ts σ₁ e₀
    split at hf
    · rename_i n e₁
      split at hf
      · rename_i u e₂
        split at hf
        · rename_i hn
          cases hf
          refine Subscript_ (ha _ _ _ e₀ A env B Z0 Z locs s hA hE hAct _ fun h₁ tk₁ Z₁ va hz₁ act₁ rd₁ => ?_)
          cases rd₁ with
          | tup hz hc hd hr =>
            rename_i l o items m
            refine he _ _ e₁ A env B Z0 Z₁ locs _ hA hE act₁ _ fun tk u => ?_
            have hT : IsTup h₁ l items := ⟨o, (act₁.zone _ _ hz).1, hc, m, hd⟩
            exact getItem_tup_ok (Z := Z₁) (s := { s with heap := h₁, toks := tk }) hT hr hn e₂ (fun v hd => hQ h₁ tk Z₁ v hz₁ act₁ hd) (hs _ _)
        · cases hf
      · cases hf
    · cases hf
  · cases hf

/-! slices -/
noncomputable def SPo (G : Glo) (cx : Cx) : Option Expr → Option SemP → Prop
  | none, none => True
  | some e, some f => SP G cx e f
  | _, _ => False
noncomputable def partC (f : Option SemP) (σ : List Slot) : Option (Option Int) := match f with
  | none => some none
  | some f => (match f σ with | some i => some (some i) | none => none)
noncomputable def sliceT (ts : List T) (lo hi : Option Int) : List T := match lo, hi with
  | none, none => ts
  | none, some h => ts.take (clipAt ts.length h)
  | some l, none => ts.drop (clipAt ts.length l)
  | some l, some h => (ts.drop (clipAt ts.length l)).take (clipAt ts.length h - clipAt ts.length l)
theorem RdL.slice {Z : Zone} {ts : List T} {items : Array Value} (h : RdL Z ts items.toList) (lo hi : Option Int) : RdL Z (sliceT ts lo hi) (slicePick items lo hi none).toList := by
  rw [slicePick_plain]
  have hz := size_of h
  unfold sliceT
  rw [hz]
  cases lo <;> cases hi <;> simp only [Option.elim, List.drop_zero, Nat.sub_zero]
  · rw [List.take_of_length_le (by rw [Array.length_toList, hz]; exact Nat.le_refl _)]; exact h
  · exact h.take _
  · rw [List.take_of_length_le (by rw [List.length_drop, Array.length_toList, hz]; exact Nat.le_refl _)]; exact h.drop _
  · exact (h.drop _).take _

theorem evalPart_ok {eo : Option Expr} {fo : Option SemP} (h : SPo G cx eo fo) {σ : List Slot} {io : Option Int} (hf : partC fo σ = some io) {A env} {B Z0 Z : Zone} {locs s} (hA : AOk cx.k A) (hE : EnvOk cx env locs) (hAct : Act G B Z0 Z locs σ s.heap)
    {Q : Value → Shared → Prop} (hQ : ∀ tk v, IsPart v io → Q v { s with toks := tk }) : WP G A (evalPart eo env) Q s := by
  cases eo with
  | none => cases fo with
    | none => cases hf; exact wpAny_pure (hQ s.toks _ .none)
    | some f => exact h.elim
  | some e => cases fo with
    | none => exact h.elim
    | some f =>
      unfold partC at hf
      dsimp only at hf
      split at hf
      · rename_i i e₁
        cases hf
        exact h _ _ e₁ A env B Z0 Z locs s hA hE hAct _ fun tk t => hQ tk _ (.int _ _)
      · cases hf

noncomputable def sliceC (f : Sem1) (lo hi : Option SemP) : SemX := fun σ => match f σ with
  | some (.list ts, σ₁) => (match partC lo σ₁ with
    | some l => (match partC hi σ₁ with
      | some h => if ts.length ≤ 1000000 then some (.own (sliceT ts l h), σ₁) else none
      | none => none)
    | none => none)
  | _ => none
theorem SX.slice {a : Expr} {lo hi : Option Expr} {p pos : Pos} {f : Sem1} {fl fh : Option SemP} (ha : SE G cx a f) (hl : SPo G cx lo fl) (hh : SPo G cx hi fh) : SX G cx (.Subscript a (.Slice lo hi none p) pos) (sliceC f fl fh) := by
  intro σ t σ' hf A env B Z0 Z locs s hA hE hAct Q hQ
  unfold sliceC at hf
  split at hf
  · rename_i ts σ₁ e₁
    split at hf
    · rename_i l e₂
      split at hf
      · rename_i h e₃
        split at hf
        · rename_i hsz
          cases hf
          refine Subscript_ (ha _ _ _ e₁ A env B Z0 Z locs s hA hE hAct _ fun h₁ tk₁ Z₁ va hz₁ act₁ rd₁ => ?_)
          cases rd₁ with
          | list hz hr =>
            rename_i a items n
            have hz' := size_of hr
            refine wpAny_Slice (evalPart_ok hl e₂ hA hE act₁ fun tk₂ v₂ p₂ => evalPart_ok hh e₃ hA hE act₁ fun tk₃ v₃ p₃ => wpAny_pure ?_)
            have hpl : h₁.PlainList a items := ⟨_, (act₁.zone _ _ hz).1⟩
            have act₂ := act₁.grow (Grows.push h₁ { cls := .type "slice", data := .fields #[v₂, v₃, .none] })
            have hpl₂ : (h₁.push { cls := .type "slice", data := .fields #[v₂, v₃, .none] }).PlainList a items := hpl.at fun o q => Heap.get?_push_of_some _ q
            refine tail_any (s := { s with heap := h₁.push { cls := .type "slice", data := .fields #[v₂, v₃, .none] }, toks := tk₃ }) (ops := [.ref h₁.objs.size, .ref a]) hpl₂.isList.typeIs slot_list_getitem.lookup ?_ rfl
            refine wpAny_getItem_list_slice hpl₂.isList (Heap.IsSliceOf.new ..) p₂ p₃ .none (by simp) ?_ (by rw [hz', sizeLine_eq]; omega)
            obtain ⟨act₃, ho, hb⟩ := alloc_ok (o := { cls := .type "list", data := .seq (slicePick items l h none) }) act₂ rfl
            exact hQ _ tk₃ Z₁ _ [_] (hz₁.trans (.grow (Sub.refl _) ((Grows.push _ _).trans (Grows.push _ _)))) act₃ (fun b hb' o => by rw [List.mem_singleton.mp hb']; exact hb o) ⟨_, _, rfl, rfl, ⟨_, ho⟩, hr.slice l h⟩
        · cases hf
      · cases hf
    · cases hf
  · cases hf

noncomputable def revC (f : Sem1) : SemX := fun σ => match f σ with
  | some (.list ts, σ₁) => if ts.length ≤ 1000000 then some (.own ts.reverse, σ₁) else none
  | _ => none
theorem SX.rev {a : Expr} {i : Int} {k : Nat} {p p₁ p₂ pos : Pos} {f : Sem1} (ha : SE G cx a f) (hi : i = 1) : SX G cx (.Subscript a (.Slice none none (some (.UnaryOp .USub (.Constant (.int i) k p₁) p₂)) p) pos) (revC f) := by
  subst hi
  intro σ t σ' hf A env B Z0 Z locs s hA hE hAct Q hQ
  unfold revC at hf
  split at hf
  · rename_i ts σ₁ e₁
    split at hf
    · rename_i hsz
      cases hf
      refine Subscript_ (ha _ _ _ e₁ A env B Z0 Z locs s hA hE hAct _ fun h₁ tk₁ Z₁ va hz₁ act₁ rd₁ => ?_)
      cases rd₁ with
      | list hz hr =>
        rename_i a items n
        have hz' := size_of hr
        refine wpAny_Slice (wpAny_pure (wpAny_pure ?_))
        have hP : SP G cx (.UnaryOp .USub (.Constant (.int 1) k p₁) p₂) (negP (constP 1)) := SP.neg SP.int
        refine hP _ (-1) rfl A env B Z0 Z₁ locs _ hA hE act₁ _ fun tk₃ t₃ => ?_
        have hpl : h₁.PlainList a items := ⟨_, (act₁.zone _ _ hz).1⟩
        have act₂ := act₁.grow (Grows.push h₁ { cls := .type "slice", data := .fields #[.none, .none, .int (-1) t₃] })
        have hpl₂ : (h₁.push { cls := .type "slice", data := .fields #[.none, .none, .int (-1) t₃] }).PlainList a items := hpl.at fun o q => Heap.get?_push_of_some _ q
        refine tail_any (s := { s with heap := h₁.push { cls := .type "slice", data := .fields #[.none, .none, .int (-1) t₃] }, toks := tk₃ }) (ops := [.ref a, .ref h₁.objs.size]) hpl₂.isList.typeIs slot_list_getitem.lookup ?_ rfl
        refine wpAny_getItem_list_slice hpl₂.isList (Heap.IsSliceOf.new ..) .none .none (.int _ _) (by simp) ?_ (by rw [hz', sizeLine_eq]; omega)
        obtain ⟨act₃, ho, hb⟩ := alloc_ok (o := { cls := .type "list", data := .seq (slicePick items none none (some (-1))) }) act₂ rfl
        exact hQ _ tk₃ Z₁ _ [_] (hz₁.trans (.grow (Sub.refl _) ((Grows.push _ _).trans (Grows.push _ _)))) act₃ (fun b hb' o => by rw [List.mem_singleton.mp hb']; exact hb o) ⟨_, _, rfl, rfl, ⟨_, ho⟩, by rw [krv_pick]; simpa using hr.reverse⟩
    · cases hf
  · cases hf
end
end Mine

namespace Mine
open PySem PySem.W PyProof.Rows PySem.Calls
section
variable {G : Glo} {cx : Cx}

/-! list operators -/
noncomputable def addX (fa fb : Sem1) : SemX := fun σ => match fa σ with
  | some (.list xs, σ₁) => (match fb σ₁ with
    | some (.list ys, σ₂) => if xs.length + ys.length ≤ 1000000 then some (.own (xs ++ ys), σ₂) else none
    | _ => none)
  | _ => none
theorem SX.add {a b : Expr} {pos : Pos} {fa fb : Sem1} (ha : SE G cx a fa) (hb : SE G cx b fb) : SX G cx (.BinOp a .Add b pos) (addX fa fb) := by
  intro σ t σ' hf A env B Z0 Z locs s hA hE hAct Q hQ
  unfold addX at hf
  split at hf
  · rename_i xs σ₁ e₁
    split at hf
    · rename_i ys σ₂ e₂
      split at hf
      · rename_i hsz
        cases hf
        refine wpAny_BinOp (ha _ _ _ e₁ A env B Z0 Z locs s hA hE hAct _ fun h₁ tk₁ Z₁ va hz₁ act₁ rd₁ => ?_)
        refine hb _ _ _ e₂ A env B Z0 Z₁ locs _ hA hE act₁ _ fun h₂ tk₂ Z₂ vb hz₂ act₂ rd₂ => ?_
        cases rd₁ with
        | list z₁ r₁ => cases rd₂ with
          | list z₂ r₂ =>
            have s₁ := size_of r₁
            have s₂ := size_of r₂
            refine PySem.P.add_list (s := { s with heap := h₂, toks := tk₂ }) (act₂.zone _ _ (hz₂.sub _ _ z₁)).1 (act₂.zone _ _ z₂).1 ?_ (by rw [s₁, s₂, sizeLine_eq]; omega)
            obtain ⟨act₃, ho, hb⟩ := alloc_ok (o := { cls := .type "list", data := .seq _ }) act₂ rfl
            exact hQ _ tk₂ Z₂ _ [_] ((hz₁.trans hz₂).trans (.grow (Sub.refl _) (Grows.push _ _))) act₃ (fun b hb' o => by rw [List.mem_singleton.mp hb']; exact hb o) ⟨_, _, rfl, rfl, ⟨_, ho⟩, by simpa using (r₁.mono hz₂.sub).append r₂⟩
      · cases hf
    · cases hf
  · cases hf

theorem RdL.replicate {Z : Zone} {t : T} {v : Value} (h : Rd Z t v) : ∀ n, RdL Z (List.replicate n t) (List.replicate n v)
  | 0 => .nil
  | n + 1 => .cons h (RdL.replicate h n)
theorem foldl_one (v : Value) : ∀ (n : Nat) (acc : Array Value), (List.foldl (fun x1 x2 => x1 ++ x2) acc (List.replicate n #[v])).toList = acc.toList ++ List.replicate n v
  | 0, acc => by simp
  | n + 1, acc => by rw [List.replicate_succ, List.foldl_cons, foldl_one v n]; simp [List.replicate_succ]

/-- [e] * n -/
noncomputable def repX (fa fb : Sem1) : SemX := fun σ => match fa σ with
  | some (t, σ₁) => (match fb σ₁ with
    | some (.int (.ofNat n), σ₂) => if n ≤ 1000000 then some (.own (List.replicate n t), σ₂) else none
    | some (.int (.negSucc n), σ₂) => if n ≤ 1000000 then some (.own [], σ₂) else none
    | _ => none)
  | _ => none
theorem SX.rep {a b : Expr} {p pos : Pos} {fa fb : Sem1} (ha : SE G cx a fa) (hb : SE G cx b fb) (hs : ∀ env, starEach [a] env = [(false, eval a env)] := by intro _; rfl) : SX G cx (.BinOp (.List [a] p) .Mult b pos) (repX fa fb) := by
  intro σ t σ' hf A env B Z0 Z locs s hA hE hAct Q hQ
  unfold repX at hf
  split at hf
  · rename_i u σ₁ e₁
    have main : ∀ (n : Int) σ₂ m, fb σ₁ = some (.int n, σ₂) → n.toNat = m → m ≤ 1000000 → -(2 ^ 63 : Int) ≤ n → n < 2 ^ 63 → t = .own (List.replicate m u) → σ' = σ₂ → WP G A (eval (.BinOp (.List [a] p) .Mult b pos) env) Q s := by
      rintro n σ₂ m e₂ hm hle h1 h2 rfl rfl
      refine wpAny_BinOp (List_ ?_)
      rw [hs]
      refine Calls.spliced_cons (ha _ _ _ e₁ A env B Z0 Z locs s hA hE hAct _ fun h₁ tk₁ Z₁ va hz₁ act₁ rd₁ => Calls.spliced_nil ?_)
      refine wpAny_newObj_type ?_ (by show (1 : Nat) ≤ sizeLine; rw [sizeLine_eq]; omega)
      obtain ⟨act₂, ho, hb₂⟩ := alloc_ok (o := { cls := .type "list", data := .seq [va].toArray }) act₁ rfl
      refine hb _ _ _ e₂ A env _ Z0 Z₁ locs { s with heap := _, toks := tk₁ } hA hE act₂ _ fun h₃ tk₃ Z₃ vb hz₃ act₃ rd₃ => ?_
      cases rd₃
      have ho₃ := act₃.base _ _ (.inr ⟨by simp, ho⟩)
      have act₄ := act₃.drop hAct.top hAct.z0
      refine wpAny_binaryOp_repeat_ref (s := { s with heap := h₃, toks := tk₃ }) (T := "list") (U := "int") (by decide) ⟨_, ho₃, rfl⟩ (fun s' => typeIs_int s' n _) noFill_list_mul PySem.F.fills_int_mul PySem.F.slot_int_rmul repeat_list PySem.F.slot_int_index.lookup
        (call_meets PySem.F.slot_int_rmul (typeIs_int _ n _) PySem.F.entry_int_rmul (PySem.F.args_int_rmul_2 _ _) (int___rmul___int_list n _ _ [va].toArray 0)
          ⟨ho₃, rfl, ⟨_, ho₃, rfl⟩, call_meets PySem.F.slot_list_mul ⟨_, ho₃, rfl⟩ PySem.F.entry_list_mul (PySem.F.args_list_mul_2 _ _)
            (AutoListH.list___mul___list_int_3 _ [va].toArray 0 n _ (by simp [Builtin.List.listFitsIndex]; omega) (by simp [hm]; omega) (by simp [Builtin.List.listTooLong, sizeLine, hm]; omega))
            ⟨ho₃, ?_⟩⟩)
      obtain ⟨act₅, ho₅, hb₅⟩ := alloc_ok (o := { cls := .type "list", data := .seq (List.foldl (fun x1 x2 => x1 ++ x2) #[] (List.replicate (if ([va].toArray).isEmpty = true then 0 else n.toNat) [va].toArray)) }) act₄ rfl
      refine hQ _ tk₃ Z₃ _ [_] (((hz₁.trans (.grow (Sub.refl _) (Grows.push _ _))).trans hz₃).trans (.grow (Sub.refl _) (Grows.push _ _))) act₅ (fun b hb' o => by rw [List.mem_singleton.mp hb']; exact hb₅ o) ⟨_, _, rfl, rfl, ⟨_, ho₅⟩, ?_⟩
      have e : ([va].toArray).isEmpty = false := rfl
      rw [e]
      simp only [Bool.false_eq_true, if_false]
      rw [foldl_one]
      rw [hm]
      simpa using RdL.replicate (rd₁.mono hz₃.sub) m
    split at hf
    · rename_i n σ₂ e₂
      split at hf
      · rename_i hle
        cases hf
        exact main _ _ n e₂ rfl hle (by show -(2 ^ 63 : Int) ≤ ((n : Nat) : Int); omega) (by show ((n : Nat) : Int) < _; omega) rfl rfl
      · cases hf
    · rename_i n σ₂ e₂
      split at hf
      · rename_i hle
        cases hf
        exact main _ _ 0 e₂ rfl (by omega) (by omega) (by omega) rfl rfl
      · cases hf
    · cases hf
  · cases hf

/-! equality of lists and tuples of ints -/
noncomputable def intsOf : List T → Option (List Int)
  | [] => some []
  | .int i :: ts => (match intsOf ts with | some is => some (i :: is) | none => none)
  | _ => none
noncomputable def eqInts : List Int → List Int → Bool
  | [], [] => true
  | a :: as, b :: bs => (a == b) && eqInts as bs
  | _, _ => false
theorem intsOf_get {Z : Zone} : ∀ {ts : List T} {vs : List Value} {is : List Int}, intsOf ts = some is → RdL Z ts vs → vs.length = is.length ∧ ∀ j (h : j < vs.length) (h' : j < is.length), ∃ t, vs[j] = .int is[j] t
  | [], _, _, h, .nil => by cases h; exact ⟨rfl, fun j h => absurd h (Nat.not_lt_zero _)⟩
  | .int i :: ts, _, _, h, .cons a b => by
    unfold intsOf at h
    split at h
    · rename_i is' e
      cases h
      cases a with
      | int _ t =>
        obtain ⟨h1, h2⟩ := intsOf_get e b
        refine ⟨by simp [h1], fun j h h' => ?_⟩
        cases j with
        | zero => exact ⟨t, rfl⟩
        | succ j => simpa using h2 j (by simpa using h) (by simpa using h')
    · cases h
  | .none :: _, _, _, h, _ => by unfold intsOf at h; cases h
  | .bool _ :: _, _, _, h, _ => by unfold intsOf at h; cases h
  | .list _ :: _, _, _, h, _ => by unfold intsOf at h; cases h
  | .tup _ :: _, _, _, h, _ => by unfold intsOf at h; cases h
theorem eqInts_iff : ∀ {as bs : List Int}, eqInts as bs = true ↔ as = bs
  | [], [] => by simp [eqInts]
  | a :: as, b :: bs => by simp [eqInts, eqInts_iff]
  | [], _ :: _ => by simp [eqInts]
  | _ :: _, [] => by simp [eqInts]
theorem eqInts_len {as bs : List Int} (h : as.length ≠ bs.length) : eqInts as bs = false := by
  cases q : eqInts as bs with
  | false => rfl
  | true => exact absurd (congrArg List.length (eqInts_iff.mp q)) h
theorem eqInts_all : ∀ {as bs : List Int}, as.length = bs.length → eqInts as bs = (List.range as.length).all fun j => as.getD j 0 == bs.getD j 0
  | [], [], _ => rfl
  | a :: as, b :: bs, h => by
    rw [eqInts, eqInts_all (by simpa using h), List.length_cons, List.range_succ_eq_map]
    simp [List.all_map, Function.comp_def]

noncomputable def eqL : T → T → Option Bool
  | .list xs, .list ys => (match intsOf xs, intsOf ys with
    | some a, some b => some (eqInts a b)
    | _, _ => none)
  | _, _ => none
theorem eqAt_ints {Z : Zone} {xs ys : List T} {a b : List Int} {ia ib : Array Value} (ha : intsOf xs = some a) (hb : intsOf ys = some b) (ra : RdL Z xs ia.toList) (rb : RdL Z ys ib.toList) {A : Around} {s : Shared} :
    ia.size = a.length ∧ ib.size = b.length ∧ ∀ j (h1 : j < ia.size) (h2 : j < ib.size), PySem.SeqAt.EqAt A s ia[j] ib[j] (a.getD j 0 == b.getD j 0) := by
  obtain ⟨l1, g1⟩ := intsOf_get ha ra
  obtain ⟨l2, g2⟩ := intsOf_get hb rb
  rw [Array.length_toList] at l1 l2
  refine ⟨l1, l2, fun j h1 h2 => ?_⟩
  obtain ⟨t, e1⟩ := g1 j (by rwa [Array.length_toList]) (by omega)
  obtain ⟨u, e2⟩ := g2 j (by rwa [Array.length_toList]) (by omega)
  rw [Array.getElem_toList] at e1 e2
  rw [e1, e2]
  have d1 : a.getD j 0 = a[j]'(by omega) := by rw [List.getD_eq_getElem?_getD, List.getElem?_eq_getElem (by omega)]; rfl
  have d2 : b.getD j 0 = b[j]'(by omega) := by rw [List.getD_eq_getElem?_getD, List.getElem?_eq_getElem (by omega)]; rfl
  rw [d1, d2]
  exact PySem.SeqAt.EqAt.int_int _ _ _ _
theorem eqL_ok {k : Nat} : CmpOk G k .Eq eqL := by
  intro ta tb t hg A Z s va vb hA ra rb hz Q hQ
  unfold eqL at hg
  split at hg
  · split at hg
    · rename_i a b ea eb
      cases hg
      cases ra with
      | list za la => cases rb with
        | list zb lb =>
          rename_i l₁ ia n₁ l₂ ib n₂
          have h1 : s.heap.IsList l₁ ia := ⟨_, hz _ _ za, rfl, _, rfl⟩
          have h2 : s.heap.IsList l₂ ib := ⟨_, hz _ _ zb, rfl, _, rfl⟩
          obtain ⟨sa, sb, he⟩ := eqAt_ints ea eb la lb (A := A.in1) (s := s)
          by_cases hne : ia.size = ib.size
          · refine PySem.SeqAt.eq_listAt h1 h2 hne hA.room he ?_
            rw [sa, ← eqInts_all (by omega)]; exact hQ
          · refine PySem.SeqAt.eq_list_lengthsAt h1 h2 (by simpa using hne) hA.room ?_
            rw [eqInts_len (by omega)] at hQ; exact hQ
    · cases hg
  · cases hg

noncomputable def neL : T → T → Option Bool
  | .list xs, .list ys => (match intsOf xs, intsOf ys with
    | some a, some b => some (!eqInts a b)
    | _, _ => none)
  | .tup xs, .tup ys => (match intsOf xs, intsOf ys with
    | some a, some b => if a.length == b.length then some (!eqInts a b) else none
    | _, _ => none)
  | _, _ => none
theorem neL_ok {k : Nat} : CmpOk G k .NotEq neL := by
  intro ta tb t hg A Z s va vb hA ra rb hz Q hQ
  show wpAny _ A (richCompare .NotEq va vb) Q _ s
  unfold neL at hg
  split at hg
  · split at hg
    · rename_i a b ea eb
      cases hg
      cases ra with
      | list za la => cases rb with
        | list zb lb =>
          rename_i l₁ ia n₁ l₂ ib n₂
          have h1 : s.heap.IsList l₁ ia := ⟨_, hz _ _ za, rfl, _, rfl⟩
          have h2 : s.heap.IsList l₂ ib := ⟨_, hz _ _ zb, rfl, _, rfl⟩
          obtain ⟨sa, sb, he⟩ := eqAt_ints ea eb la lb (A := A.in1) (s := s)
          by_cases hne : ia.size = ib.size
          · refine PySem.SeqAt.RcNeAt.lists h1 h2 hne hA.room he G.prog G.w _ Q ?_
            rw [sa, ← eqInts_all (by omega)]; exact hQ
          · refine PySem.SeqAt.RcNeAt.lists_lengths h1 h2 (by simpa using hne) hA.room G.prog G.w _ Q ?_
            rw [eqInts_len (by omega)] at hQ; exact hQ
    · cases hg
  · split at hg
    · rename_i a b ea eb
      split at hg
      · rename_i hlen
        cases hg
        have hlen' : a.length = b.length := by simpa using hlen
        cases ra with
        | tup za ca da la => cases rb with
          | tup zb cb db lb =>
            rename_i l₁ o₁ ia n₁ l₂ o₂ ib n₂
            have h1 : s.heap.IsTuple l₁ ia := ⟨_, hz _ _ za, ca, _, da⟩
            have h2 : s.heap.IsTuple l₂ ib := ⟨_, hz _ _ zb, cb, _, db⟩
            obtain ⟨sa, sb, he⟩ := eqAt_ints ea eb la lb (A := A.in1) (s := s)
            refine PySem.SeqAt.RcNeAt.tuples h1 h2 hA.room he G.prog G.w _ Q ?_
            have e1 : (ia.size == ib.size) = true := by rw [sa, sb]; simpa using hlen'
            have e2 : min ia.size ib.size = a.length := by omega
            rw [e1, e2, Bool.and_true, ← eqInts_all hlen']; exact hQ
      · cases hg
    · cases hg
  · cases hg

/-! functions upon values -/
/-- a function whose answer is a scalar -/
noncomputable def FnI (G : Glo) (k : Nat) (f : Value) (g : List T → Option T) : Prop := ∀ ts t, g ts = some t → ∀ A Z s vs, AOk k A → RdL Z ts vs → (∀ a o, Z a o → s.heap.get? a = some o) →
  ∀ Q : Value → Shared → Prop, (∀ h' tk v, Grows s.heap h' → (∀ Z', Rd Z' t v) → Q v { s with heap := h', toks := tk }) → WP G A (call f vs) Q s

noncomputable def callC (g : List T → Option T) (fs : SemL) : Sem1 := fun σ => match fs σ with
  | some (ts, σ₁) => (match g ts with
    | some t => some (t, σ₁)
    | none => none)
  | none => none

inductive IsBi : Value → Prop
  | builtin (id : String) : IsBi (.builtin id)
  | type (n : String) : IsBi (.type n)

theorem callWith_bi {v : Value} (hv : IsBi v) {A : Around} {s : Shared} {pos : Pos} {x : Sem Value} {args : List (Bool × Sem Value)} {Q : Value → Shared → Prop} (hplain : args.any (·.1) = false)
    (h : WP G A (spliced ((false, x) :: args)) (fun vs s₁ => WP G A (call v vs) Q s₁) s) : WP G A (callWith pos v [] ((false, x) :: args) []) Q s := by
  cases hv with
  | builtin id => exact Calls.callWith_builtin (by simpa using hplain) (Calls.evalArgs_plain h)
  | type n => exact PyProof.Rows.callWith_type (by simpa using hplain) (Calls.evalArgs_plain h)

theorem starEach_plain {es : List Expr} {env : Env} {pos : Pos} (h : (starEach es env).any (·.1) = false) : (backTo pos (starEach es env)).any (·.1) = false := by
  unfold backTo
  rw [List.any_map]
  exact h

theorem callBi_ok {x : Str} {pf pos : Pos} {e : Expr} {es : List Expr} {v : Value} {fs : SemL} {σ : List Slot} {ts : List T} {σ' : List Slot} (ok : GloOk G) (bi : Bi G x v) (hv : IsBi v) (hg : cx.sc.names.lookup x = some .globalImplicit) (hpf : plainName x = true)
    (hs : SL G cx (e :: es) fs) (h1 : ∀ env, starEach (e :: es) env = (false, eval e env) :: starEach es env) (h2 : ∀ env, (starEach es env).any (·.1) = false) (hf : fs σ = some (ts, σ'))
    {A : Around} {env : Env} {B Z0 Z : Zone} {locs : Nat → Option Loc} {s : Shared} (hA : AOk cx.k A) (hE : EnvOk cx env locs) (hAct : Act G B Z0 Z locs σ s.heap) {Q : Value → Shared → Prop}
    (hQ : ∀ h' tk Z' vs, Ev locs Z Z' s.heap h' → Act G B Z0 Z' locs σ' h' → RdL Z' ts vs → WP G A (call v vs) Q { s with heap := h', toks := tk }) : WP G A (eval (.Call (.Name x pf) (e :: es) [] pos) env) Q s := by
  refine wpAny_Call_Name_kw (builtin_ok ok hE hAct hg hpf bi.miss bi.has ?_)
  have hh := hs pos σ ts σ' hf A env B Z0 Z locs s hA hE hAct (fun vs s₁ => WP G A (call v vs) Q s₁) hQ
  rw [h1] at hh ⊢
  exact callWith_bi hv (starEach_plain (h2 env)) hh

theorem SE.callI {x : Str} {pf pos : Pos} {e : Expr} {es : List Expr} {v : Value} {fs : SemL} {g : List T → Option T} (ok : GloOk G) (bi : Bi G x v) (hv : IsBi v) (hfn : FnI G cx.k v g) (hg : cx.sc.names.lookup x = some .globalImplicit) (hpf : plainName x = true)
    (hs : SL G cx (e :: es) fs) (h1 : ∀ env, starEach (e :: es) env = (false, eval e env) :: starEach es env := by intro _; rfl) (h2 : ∀ env, (starEach es env).any (·.1) = false := by intro _; rfl) :
    SE G cx (.Call (.Name x pf) (e :: es) [] pos) (callC g fs) := by
  intro σ t σ' hf A env B Z0 Z locs s hA hE hAct Q hQ
  unfold callC at hf
  split at hf
  · rename_i ts σ₁ e₁
    split at hf
    · rename_i u e₂
      cases hf
      refine callBi_ok ok bi hv hg hpf hs h1 h2 e₁ hA hE hAct fun h' tk Z' vs hz act rd => ?_
      exact hfn _ _ e₂ A Z' _ vs hA rd (fun a o q => (act.zone a o q).1) Q fun h'' tk' v' gr rd' => hQ h'' tk' Z' v' (hz.trans (.grow (Sub.refl _) gr)) (act.grow gr) (rd' _)
    · cases hf
  · cases hf

/-- a function whose answer is a fresh list -/
noncomputable def FnL (G : Glo) (k : Nat) (f : Value) (g : List T → Option (List T)) : Prop := ∀ ts us, g ts = some us → ∀ A Z s vs, AOk k A → RdL Z ts vs → (∀ a o, Z a o → s.heap.get? a = some o) →
  ∀ Q : Value → Shared → Prop, (∀ h' tk a items, Grows s.heap h' → s.heap.get? a = none → h'.PlainList a items → RdL Z us items.toList → Q (.ref a) { s with heap := h', toks := tk }) → WP G A (call f vs) Q s

theorem fresh_ok {B Z0 Z : Zone} {locs : Nat → Option Loc} {σ : List Slot} {h h' : Heap} {a : Addr} (x : Act G B Z0 Z locs σ h) (g : Grows h h') (hn : h.get? a = none) : Act G (Plus B h' [a]) Z0 Z locs σ h' ∧ ∀ b ∈ [a], ∀ o, ¬ B b o :=
  ⟨x.protect g [a] fun b hb => by rw [List.mem_singleton.mp hb]; exact hn, fun b hb o hB => by rw [List.mem_singleton.mp hb] at hB; have := x.base _ _ hB; rw [hn] at this; cases this⟩

noncomputable def callX (g : List T → Option (List T)) (fs : SemL) : SemX := fun σ => match fs σ with
  | some (ts, σ₁) => (match g ts with
    | some us => some (.own us, σ₁)
    | none => none)
  | none => none
theorem SX.callL {x : Str} {pf pos : Pos} {e : Expr} {es : List Expr} {v : Value} {fs : SemL} {g : List T → Option (List T)} (ok : GloOk G) (bi : Bi G x v) (hv : IsBi v) (hfn : FnL G cx.k v g) (hg : cx.sc.names.lookup x = some .globalImplicit) (hpf : plainName x = true)
    (hs : SL G cx (e :: es) fs) (h1 : ∀ env, starEach (e :: es) env = (false, eval e env) :: starEach es env := by intro _; rfl) (h2 : ∀ env, (starEach es env).any (·.1) = false := by intro _; rfl) :
    SX G cx (.Call (.Name x pf) (e :: es) [] pos) (callX g fs) := by
  intro σ t σ' hf A env B Z0 Z locs s hA hE hAct Q hQ
  unfold callX at hf
  split at hf
  · rename_i ts σ₁ e₁
    split at hf
    · rename_i u e₂
      cases hf
      refine callBi_ok ok bi hv hg hpf hs h1 h2 e₁ hA hE hAct fun h' tk Z' vs hz act rd => ?_
      refine hfn _ _ e₂ A Z' _ vs hA rd (fun a o q => (act.zone a o q).1) Q fun h'' tk' a items gr hn hp rd' => ?_
      obtain ⟨act', hb⟩ := fresh_ok act gr hn
      exact hQ h'' tk' Z' _ [a] (hz.trans (.grow (Sub.refl _) gr)) act' hb ⟨a, items, rfl, rfl, hp, rd'⟩
    · cases hf
  · cases hf

/-! the built-in functions -/
noncomputable def lenF : List T → Option T
  | [.list xs] => if xs.length ≤ 1000000 then some (.int xs.length) else none
  | _ => none
theorem lenF_ok {k : Nat} : FnI G k (.builtin "len") lenF := by
  intro ts t hg A Z s vs hA rd hz Q hQ
  unfold lenF at hg
  split at hg
  · split at hg
    · rename_i hle
      cases hg
      cases rd with
      | cons r1 r2 => cases r2; cases r1 with
        | list z l =>
          rename_i a items n
          have hsz := size_of l
          refine Calls.call_len_list (items := items) ⟨_, hz _ _ z, rfl, _, rfl⟩ (by rw [hsz]; omega) ?_
          rw [hsz]; exact hQ s.heap _ _ (Grows.refl _) fun _ => .int _ _
    · cases hg
  · cases hg
noncomputable def maxF : List T → Option T
  | [.int a, .int b] => some (.int (if b > a then b else a))
  | _ => none
theorem maxF_ok {k : Nat} : FnI G k (.builtin "max") maxF := by
  intro ts t hg A Z s vs hA rd hz Q hQ
  unfold maxF at hg
  split at hg
  · cases hg
    cases rd with
    | cons r1 r2 => cases r2 with
      | cons r3 r4 =>
        cases r4; cases r1; cases r3
        refine max_two_ints hA.handled fun h' tk hk => ?_
        refine hQ h' tk _ hk fun _ => ?_
        split <;> exact .int _ _
  · cases hg
noncomputable def minF : List T → Option T
  | [.int a, .int b] => some (.int (if b < a then b else a))
  | _ => none
theorem minF_ok {k : Nat} : FnI G k (.builtin "min") minF := by
  intro ts t hg A Z s vs hA rd hz Q hQ
  unfold minF at hg
  split at hg
  · cases hg
    cases rd with
    | cons r1 r2 => cases r2 with
      | cons r3 r4 =>
        cases r4; cases r1; cases r3
        refine min_two_ints hA.handled fun h' tk hk => ?_
        refine hQ h' tk _ hk fun _ => ?_
        split <;> exact .int _ _
  · cases hg
noncomputable def absF : List T → Option T
  | [.int a] => some (.int (if a < 0 then -a else a))
  | _ => none
theorem absF_ok {k : Nat} : FnI G k (.builtin "abs") absF := by
  intro ts t hg A Z s vs hA rd hz Q hQ
  unfold absF at hg
  split at hg
  · cases hg
    cases rd with
    | cons r1 r2 =>
      cases r2; cases r1
      exact PyProof.Rows.call_abs_int fun u tk => hQ s.heap tk _ (Grows.refl _) fun _ => .int _ _
  · cases hg
noncomputable def intF : List T → Option T
  | [.int a] => some (.int a)
  | [.bool b] => some (.int (if b then 1 else 0))
  | _ => none
theorem intF_ok {k : Nat} : FnI G k (.type "int") intF := by
  intro ts t hg A Z s vs hA rd hz Q hQ
  unfold intF at hg
  split at hg
  · cases hg
    cases rd with
    | cons r1 r2 =>
      cases r2; cases r1
      exact PySem.call_int_int (hQ s.heap s.toks _ (Grows.refl _) fun _ => .int _ _)
  · cases hg
    cases rd with
    | cons r1 r2 =>
      cases r2; cases r1
      exact PySem.call_int_bool (hQ s.heap _ _ (Grows.refl _) fun _ => .int _ _)
  · cases hg
noncomputable def listF : List T → Option (List T)
  | [.list xs] => if xs.length ≤ 1000000 then some xs else none
  | _ => none
theorem listF_ok {k : Nat} : FnL G k (.type "list") listF := by
  intro ts t hg A Z s vs hA rd hz Q hQ
  unfold listF at hg
  split at hg
  · split at hg
    · rename_i hle
      cases hg
      cases rd with
      | cons r1 r2 => cases r2; cases r1 with
        | list z l =>
          rename_i a items n
          have hsz := size_of l
          refine call_list_seq a (.inl rfl) (hz _ _ z) rfl rfl (fun h' c' hk ho => ?_) (by rw [hsz, sizeLine_eq]; omega)
          refine hQ h' s.toks _ items hk ?_ ⟨c', ho⟩ l
          cases q : s.heap.get? s.heap.objs.size with
          | none => rfl
          | some o' => exact absurd (Heap.lt_size q) (Nat.lt_irrefl _)
    · cases hg
  · cases hg

/-! the text's own functions -/
structure FRec where
  name : Str
  params : Arguments
  body : List Stmt
  scope : Scope
inductive FnAt (G : Glo) (F : FRec) : Prop
  | mk (a : Addr) (o : Obj) (pm code doc : Value) (h1 : G.mg F.name = some (.ref a)) (h2 : G.hT.get? a = some o) (h3 : o.data = .func (docDef F.name F.params F.body F.scope pm code doc)) (h4 : G.hT.CodeRec code F.name)

inductive CallP (G : Glo) (x : Str) (k : Nat) (f : List T → Option T) : Prop
  | mk (fa : Addr) (o : Obj) (fd : FuncData) (h1 : G.mg x = some (.ref fa)) (h2 : G.hT.get? fa = some o) (h3 : o.data = .func fd)
  (h4 : ∀ ts t, f ts = some t → ∀ A Z vs s, AOk k A → Grows G.hT s.heap → (∀ a o, Z a o → s.heap.get? a = some o ∧ IsSeq o) → RdL Z ts vs →
  ∀ Q : Value → Shared → Prop, (∀ h' tk Z' v, Sub Z Z' → Grows s.heap h' → (∀ a o, Z' a o → h'.get? a = some o ∧ IsSeq o) → (∀ a o, Z' a o → Z a o ∨ s.heap.get? a = none) → Rd Z' t v → Q v { s with heap := h', toks := tk }) →
    WP G A (call (.ref fa) vs) Q s)

theorem Act.called {B Z0 Z Z' : Zone} {locs : Nat → Option Loc} {σ : List Slot} {h h' : Heap} (x : Act G B Z0 Z locs σ h) (g : Grows h h') (hs : Sub Z Z') (hz : ∀ a o, Z' a o → h'.get? a = some o ∧ IsSeq o) (hn : ∀ a o, Z' a o → Z a o ∨ h.get? a = none) :
    Act G B Z0 Z' locs σ h' := by
  have y := x.grow g
  exact {
    top := y.top
    base := y.base
    zone := hz
    z0 := y.z0
    zold := fun a o q => (hn a o q).elim (fun q => y.zold a o q) fun q => .inr fun o' hB => by have := x.base _ _ hB; rw [q] at this; cases this
    inj := y.inj
    loc := y.loc
    sl := by
      obtain ⟨ow, k1, k2, k3⟩ := x.sl
      refine ⟨ow, fun i s e => ((k1 i s e).keep (fun ℓ _ v hv => hv.keep fun o q => g _ o q) fun a _ o q => g a o q).zmono hs, fun i a ha => ?_, k3⟩
      obtain ⟨o, ho⟩ := Option.isSome_iff_exists.mp (k2 i a ha).1
      refine ⟨by rw [g a o ho]; rfl, fun p hp => ?_, (k2 i a ha).2.2⟩
      rcases hn a p hp with q | q
      · exact (k2 i a ha).2.1 p q
      · rw [q] at ho; cases ho }

theorem SE.callP {x : Str} {pf pos : Pos} {e : Expr} {es : List Expr} {fs : SemL} {f : List T → Option T} {k : Nat} (ok : GloOk G) (hc : CallP G x k f) (hk : k ≤ cx.k) (hg : cx.sc.names.lookup x = some .globalImplicit) (hpf : plainName x = true)
    (hs : SL G cx (e :: es) fs) (h1 : ∀ env, starEach (e :: es) env = (false, eval e env) :: starEach es env := by intro _; rfl) :
    SE G cx (.Call (.Name x pf) (e :: es) [] pos) (callC f fs) := by
  intro σ t σ' hf A env B Z0 Z locs s hA hE hAct Q hQ
  obtain ⟨fa, o, fd, hm, ho, hd, hcall⟩ := hc
  unfold callC at hf
  split at hf
  · rename_i ts σ₁ e₁
    split at hf
    · rename_i u e₂
      cases hf
      refine wpAny_Call_Name_kw (global_ok ok hE hAct hg hpf hm ?_)
      have hh := hs pos σ _ _ e₁ A env B Z0 Z locs s hA hE hAct (fun vs s₁ => (s₁.heap.get? fa = some o ∧ o.data = .func fd) ∧ WP G A (call (.ref fa) vs) Q s₁) fun h' tk Z' vs hz act rd => by
        have gr : Grows G.hT h' := fun b p q => act.base b p (act.top b p q)
        refine ⟨⟨gr _ _ ho, hd⟩, ?_⟩
        exact hcall _ _ e₂ A Z' vs { s with heap := h', toks := tk } (hA.le hk) gr act.zone rd Q fun h'' tk' Z'' v hz' gr' hzz hn rd' => hQ h'' tk' Z'' v (hz.trans (.grow hz' gr')) (act.called gr' hz' hzz hn) rd'
      rw [h1] at hh ⊢
      exact Calls.callWith_function (Calls.evalArgs_plain hh)
    · cases hf
  · cases hf
end
end Mine

namespace Mine
open PySem PySem.W PyProof.Rows PySem.Calls
inductive Out where
  | next
  | ret (t : T)
abbrev SemS := List Slot → Option (Out × List Slot)

noncomputable def FlowIs (Z : Zone) : Out → Flow → Prop
  | .next, .next => True
  | .ret t, .ret v => Rd Z t v
  | _, _ => False
theorem FlowIs.nextIs {Z : Zone} {fl : Flow} (h : FlowIs Z .next fl) : fl = .next := by cases fl <;> first | rfl | exact h.elim
theorem FlowIs.retIs {Z : Zone} {t : T} {fl : Flow} (h : FlowIs Z (.ret t) fl) : ∃ v, fl = .ret v ∧ Rd Z t v := by cases fl <;> first | exact ⟨_, rfl, h⟩ | exact h.elim

noncomputable def SR (G : Glo) (cx : Cx) (run : Env → Sem Flow) (f : SemS) : Prop :=
  ∀ σ out σ', f σ = some (out, σ') → ∀ A env B Z0 Z locs s, AOk cx.k A → EnvOk cx env locs → Act G B Z0 Z locs σ s.heap →
  ∀ Q : Flow → Shared → Prop, (∀ h' tk Z' fl, Sub Z Z' → Act G B Z0 Z' locs σ' h' → FlowIs Z' out fl → Q fl { s with heap := h', toks := tk }) → WP G A (run env) Q s
abbrev SS (G : Glo) (cx : Cx) (st : Stmt) (f : SemS) : Prop := SR G cx (exec st) f
abbrev SSs (G : Glo) (cx : Cx) (sts : List Stmt) (f : SemS) : Prop := SR G cx (execs sts) f

section
variable {G : Glo} {cx : Cx}

noncomputable def skipC : SemS := fun σ => some (.next, σ)
noncomputable def seqC (f g : SemS) : SemS := fun σ => match f σ with
  | some (.next, σ₁) => g σ₁
  | some (.ret t, σ₁) => some (.ret t, σ₁)
  | none => none

noncomputable def retC (f : Sem1) : SemS := fun σ => match f σ with
  | some (t, σ₁) => some (.ret t, σ₁)
  | none => none
theorem SS.ret {e : Expr} {pos : Pos} {f : Sem1} (h : SE G cx e f) : SS G cx (.Return (some e) pos) (retC f) := by
  intro σ out σ' hf A env B Z0 Z locs s hA hE hAct Q hQ
  unfold retC at hf
  split at hf
  · rename_i t σ₁ e₁
    cases hf
    exact wpAny_Return_some (h σ _ _ e₁ A env B Z0 Z locs s hA hE hAct _ fun h₁ tk₁ Z₁ v hz act rd => hQ h₁ tk₁ Z₁ (.ret v) hz.sub act rd)
  · cases hf

noncomputable def iffC (c : SemB) (f g : SemS) : SemS := fun σ => match c σ with
  | some (true, σ₁) => f σ₁
  | some (false, σ₁) => g σ₁
  | none => none

/-! stores -/
theorem Act.storeVal {B Z0 Z : Zone} {locs : Nat → Option Loc} {σ : List Slot} {h₁ h h' : Heap} {as : List Addr} {sl : Slot} {v : Value} {i : Nat} {ℓ : Loc} (x : Act G (Plus B h₁ as) Z0 Z locs σ h) (ht : ∀ a o, G.hT.get? a = some o → B a o) (hz0 : ∀ a o, Z0 a o → B a o)
    (hb : ∀ a ∈ as, (∃ o, h₁.get? a = some o ∧ IsSeq o) ∧ ∀ o, ¬ B a o) (hv : SlotVal Z h sl v as) (hl : locs i = some ℓ) (st : LocSet h h' v ℓ) : Act G B Z0 Z locs (σ.set i sl) h' := by
  obtain ⟨v₀, hv₀⟩ := (x.loc i ℓ hl).1
  refine x.store ht hz0 (fun a ha => ?_) hl st ?_
  · obtain ⟨⟨o, h1, h2⟩, h3⟩ := hb a ha; exact ⟨o, h1, h2, h3⟩
  · cases sl with
    | fro t => obtain ⟨rfl, hr⟩ := hv; exact ⟨rfl, ℓ, v, rfl, st.here, hr⟩
    | own ts =>
      obtain ⟨a, items, rfl, rfl, hp, hr⟩ := hv
      obtain ⟨o, ho, hs⟩ := isList_seq hp
      exact ⟨a, items, ℓ, rfl, rfl, st.here, hp.at fun p q => (st.same.2 a (seq_ne_loc ho hs hv₀)).trans q, hr⟩
    | un => exact hv.elim
    | box xs k => exact hv.elim
    | ext xs => exact hv.elim
theorem SlotVal.held {Z : Zone} {h : Heap} {sl : Slot} {v : Value} {as : List Addr} (hv : SlotVal Z h sl v as) : ∀ a ∈ as, ∃ o, h.get? a = some o ∧ IsSeq o := fun a ha => by
  cases sl with
  | fro t => rw [hv.1] at ha; cases ha
  | own ts => obtain ⟨b, items, rfl, rfl, hp, hr⟩ := hv; rw [List.mem_singleton.mp ha]; exact isList_seq hp
  | un => exact hv.elim
  | box xs k => exact hv.elim
  | ext xs => exact hv.elim
theorem SlotVal.keep {Z Z' : Zone} {h h' : Heap} {sl : Slot} {v : Value} {as : List Addr} (hv : SlotVal Z h sl v as) (hz : Sub Z Z') (hk : ∀ a ∈ as, ∀ o, h.get? a = some o → h'.get? a = some o) : SlotVal Z' h' sl v as := by
  cases sl with
  | fro t => exact ⟨hv.1, hv.2.mono hz⟩
  | own ts => obtain ⟨b, items, rfl, rfl, hp, hr⟩ := hv; exact ⟨b, items, rfl, rfl, hp.at (hk b (by simp)), hr.mono hz⟩
  | un => exact hv.elim
  | box xs k => exact hv.elim
  | ext xs => exact hv.elim

noncomputable def assignC (i : Nat) (f : SemX) : SemS := fun σ => match f σ with
  | some (sl, σ₁) => some (.next, σ₁.set i sl)
  | none => none

/-! tuples taken apart -/
noncomputable def setAll : List Nat → List T → List Slot → List Slot
  | i :: is, t :: ts, σ => setAll is ts (σ.set i (.fro t))
  | _, _, σ => σ
noncomputable def unpackC (is : List Nat) (f : Sem1) : SemS := fun σ => match f σ with
  | some (.tup ts, σ₁) => if ts.length == is.length then some (.next, setAll is ts σ₁) else none
  | _ => none

inductive NamesAt (cx : Cx) : List Expr → List Nat → Prop
  | nil : NamesAt cx [] []
  | cons {x p i es is} : cx.sl.lookup x = some i → NamesAt cx es is → NamesAt cx (.Name x p :: es) (i :: is)

theorem assignEach_names {env : Env} : ∀ {es : List Expr} {is : List Nat}, NamesAt cx es is → (assignEach es env).length = is.length ∧ (assignEach es env).findIdx? (·.1) = none
  | _, _, .nil => ⟨rfl, rfl⟩
  | _, _, .cons (x := x) (p := p) (es := es) (is := is) _ r => by
    obtain ⟨h1, h2⟩ := assignEach_names (env := env) r
    have e : assignEach (.Name x p :: es) env = (false, assign (.Name x p) env) :: assignEach es env := rfl
    rw [e]
    refine ⟨by simp [h1], ?_⟩
    rw [List.findIdx?_cons, h2]; rfl

theorem storeAll_stay {A : Around} {env : Env} {B Z0 Z : Zone} {locs : Nat → Option Loc} (hE : EnvOk cx env locs) : ∀ {es : List Expr} {is : List Nat}, NamesAt cx es is → ∀ {ts : List T} {vs : List Value} {σ : List Slot} {s : Shared}, RdL Z ts vs → Act G B Z0 Z locs σ s.heap →
    ∀ {Q : Unit → Shared → Prop}, (∀ h' tk, Act G B Z0 Z locs (setAll is ts σ) h' → (∀ k ℓ v, locs k = some ℓ → k ∉ is → LocIs s.heap ℓ v → LocIs h' ℓ v) → (∀ a o, s.heap.get? a = some o → IsSeq o → h'.get? a = some o) → Q () { s with heap := h', toks := tk }) → WP G A (assignInOrder ((assignEach es env).map (·.2)) vs) Q s
  | _, _, .nil, _, _, _, s, rd, act, Q, hQ => by
    cases rd with
    | nil => exact wpAny_pure (hQ s.heap s.toks act (fun _ _ _ _ _ q => q) fun _ _ q _ => q)
    | cons a b => exact wpAny_pure (hQ s.heap s.toks act (fun _ _ _ _ _ q => q) fun _ _ q _ => q)
  | _, _, .cons (x := x) (p := p) (i := i) (es := es) (is := is) hx r, _, _, σ, s, rd, act, Q, hQ => by
    have e : assignEach (.Name x p :: es) env = (false, assign (.Name x p) env) :: assignEach es env := rfl
    rw [e]
    cases rd with
    | nil => exact wpAny_pure (hQ s.heap s.toks act (fun _ _ _ _ _ q => q) fun _ _ q _ => q)
    | cons a b =>
      rename_i t v ts vs
      show WP G A (do holding vs (assign (.Name x p) env v); assignInOrder ((assignEach es env).map (·.2)) vs) Q s
      refine wpAny_bind (wpAny_holding (wpAny_assign_Name (store_ok hE act hx fun h₁ tk₁ ℓ hl st => ?_)))
      refine storeAll_stay hE r b (act.storeFro hl st a) fun h₂ tk₂ act₂ k₂ k₃ => hQ h₂ tk₂ act₂ (fun k ℓ' u hk hm hu => k₂ k ℓ' u hk (fun q => hm (List.mem_cons_of_mem _ q)) (st.other (fun q => hm (by rw [act.inj k i ℓ (q ▸ hk) hl]; exact List.mem_cons_self)) hu)) fun b o q hq => k₃ b o ?_ hq
      obtain ⟨u, hu⟩ := st.was
      exact (st.same.2 b (seq_ne_loc q hq hu)).trans q
theorem storeAll_ok {A : Around} {env : Env} {B Z0 Z : Zone} {locs : Nat → Option Loc} (hE : EnvOk cx env locs) {es : List Expr} {is : List Nat} (hn : NamesAt cx es is) {ts : List T} {vs : List Value} {σ : List Slot} {s : Shared} (rd : RdL Z ts vs) (act : Act G B Z0 Z locs σ s.heap)
    {Q : Unit → Shared → Prop} (hQ : ∀ h' tk, Act G B Z0 Z locs (setAll is ts σ) h' → Q () { s with heap := h', toks := tk }) : WP G A (assignInOrder ((assignEach es env).map (·.2)) vs) Q s :=
  storeAll_stay hE hn rd act fun h' tk a _ _ => hQ h' tk a

theorem unpack_ok {A : Around} {env : Env} {B Z0 Z : Zone} {locs : Nat → Option Loc} (hA : A.handled = none) (hE : EnvOk cx env locs) {es : List Expr} {is : List Nat} (hn : NamesAt cx es is) {ts : List T} {v : Value} {σ : List Slot} {s : Shared} {k : Nat} {tp : Pos} (rd : Rd Z (.tup ts) v)
    (act : Act G B Z0 Z locs σ s.heap) (hlen : ts.length = is.length) {Q : Unit → Shared → Prop} (hQ : ∀ h' tk, Act G B Z0 Z locs (setAll is ts σ) h' → Q () { s with heap := h', toks := tk }) : WP G A (assign (.Tuple es k tp) env v) Q s := by
  cases rd with
  | tup hz hc hd hr =>
    rename_i a o items n
    have hT : s.heap.IsTuple a items := ⟨o, (act.zone _ _ hz).1, hc, n, hd⟩
    obtain ⟨l1, l2⟩ := assignEach_names (env := env) hn
    refine wpAny_assign_Tuple hA hT (by rw [l1, size_of hr, hlen]) l2 fun h' hx => ?_
    have gr : Grows s.heap h' := fun b p q => hx b p (Nat.ne_of_lt (Heap.lt_size q)) q
    exact storeAll_ok (s := { s with heap := h' }) hE hn hr (act.grow gr) hQ

theorem SS.unpack {es : List Expr} {k : Nat} {tp pos : Pos} {value : Expr} {is : List Nat} {f : Sem1} (hv : SE G cx value f) (hn : NamesAt cx es is) (hs : ∀ env, swapsWithSole [.Tuple es k tp] value pos.line env = pure false := by intro _; rfl)
    (hw : ∀ env : Env, env.scope = cx.sc → swappedStores [.Tuple es k tp] value env = pure none) : SS G cx (.Assign [.Tuple es k tp] value pos) (unpackC is f) := by
  intro σ t σ' hf A env B Z0 Z locs s hA hE hAct Q hQ
  unfold unpackC at hf
  split at hf
  · rename_i ts σ₁ e₁
    split at hf
    · rename_i hlen
      cases hf
      refine Assign_Tuple (hv σ _ _ e₁ A env B Z0 Z locs s hA hE hAct _ fun h₁ tk₁ Z₁ v hz act rd => ?_) (hs env) (hw env hE.sc)
      exact unpack_ok hA.handled hE hn rd act (by simpa using hlen) fun h₂ tk₂ act₂ => hQ h₂ tk₂ Z₁ .next hz.sub act₂ trivial
    · cases hf
  · cases hf

theorem unpackItems_ok {A : Around} {s : Shared} {t : Addr} {vs : List Value} {n : Nat} (hA : A.handled = none) (ht : s.heap.IsTuple t vs.toArray) (hn : n = vs.length) {Q : List Value → Shared → Prop} (h : ∀ h', Grows s.heap h' → Q vs { s with heap := h' }) :
    WP G A (unpackItems (.ref t) n none) Q s := by
  have e : n = vs.toArray.size := by simpa using hn
  subst e
  refine wpAny_unpackItems_tuple hA ht fun h' hx => ?_
  have gr : Grows s.heap h' := fun b p q => hx b p (Nat.ne_of_lt (Heap.lt_size q)) q
  simpa using h h' gr
theorem tuple_here (h : Heap) (vs : List Value) : (h.push { cls := .type "tuple", data := .seq vs.toArray }).IsTuple h.objs.size vs.toArray := ⟨_, Heap.get?_push_size _ rfl, rfl, 0, rfl⟩

/-- x, y = (e₁, e₂), stored from the last to the first -/
noncomputable def swap2C (i j : Nat) (f g : SemX) : SemS := fun σ => match f σ with
  | some (a, σ₁) => (match g σ₁ with
    | some (b, σ₂) => some (.next, (σ₂.set j b).set i a)
    | none => none)
  | none => none
noncomputable def swap3C (i j l : Nat) (f g h : SemX) : SemS := fun σ => match f σ with
  | some (a, σ₁) => (match g σ₁ with
    | some (b, σ₂) => (match h σ₂ with
      | some (c, σ₃) => some (.next, ((σ₃.set l c).set j b).set i a)
      | none => none)
    | none => none)
  | none => none

theorem plus_keeps {B : Zone} {h₁ h : Heap} {as : List Addr} {Z0 Z : Zone} {locs : Nat → Option Loc} {σ : List Slot} (x : Act G (Plus B h₁ as) Z0 Z locs σ h) : ∀ a ∈ as, ∀ o, h₁.get? a = some o → h.get? a = some o := fun a ha o q => x.base a o (.inr ⟨ha, q⟩)

theorem SS.swap2 {x₁ x₂ : Str} {p₁ p₂ tp ep pos : Pos} {e₁ e₂ : Expr} {k k' i j : Nat} {f g : SemX} (h₁ : SX G cx e₁ f) (h₂ : SX G cx e₂ g) (hx₁ : cx.sl.lookup x₁ = some i) (hx₂ : cx.sl.lookup x₂ = some j)
    (hs₁ : ∀ env, starEach [e₁, e₂] env = [(false, eval e₁ env), (false, eval e₂ env)] := by intro _; rfl) (hs : ∀ env, swapsWithSole [.Tuple [.Name x₁ p₁, .Name x₂ p₂] k tp] (.Tuple [e₁, e₂] k' ep) pos.line env = pure false := by intro _; rfl)
    (hw : ∀ env : Env, env.scope = cx.sc → swappedStores [.Tuple [.Name x₁ p₁, .Name x₂ p₂] k tp] (.Tuple [e₁, e₂] k' ep) env = pure (some [x₁, x₂])) :
    SS G cx (.Assign [.Tuple [.Name x₁ p₁, .Name x₂ p₂] k tp] (.Tuple [e₁, e₂] k' ep) pos) (swap2C i j f g) := by
  intro σ t σ' hf A env B Z0 Z locs s hA hE hAct Q hQ
  unfold swap2C at hf
  split at hf
  · rename_i a σ₁ q₁
    split at hf
    · rename_i b σ₂ q₂
      cases hf
      refine Assign_Tuple_swapped (Tuple_ ?_) (hs env) (hw env hE.sc)
      rw [hs₁]
      refine Calls.spliced_cons (h₁ σ _ _ q₁ A env B Z0 Z locs s hA hE hAct _ fun H₁ tk₁ Z₁ v₁ as₁ z₁ act₁ hb₁ sv₁ => ?_)
      refine Calls.spliced_cons (h₂ _ _ _ q₂ A env _ Z0 Z₁ locs _ hA hE act₁ _ fun H₂ tk₂ Z₂ v₂ as₂ z₂ act₂ hb₂ sv₂ => Calls.spliced_nil ?_)
      refine wpAny_newObj_type ?_ (by show (2 : Nat) ≤ sizeLine; rw [sizeLine_eq]; omega)
      have act₃ := act₂.grow (Grows.push H₂ { cls := .type "tuple", data := .seq [v₁, v₂].toArray })
      show WP G A (unpackItems (.ref H₂.objs.size) 2 none) _ { s with heap := H₂.push { cls := .type "tuple", data := .seq [v₁, v₂].toArray }, toks := tk₂ }
      refine unpackItems_ok (G := G) (A := A) (s := { s with heap := H₂.push { cls := .type "tuple", data := .seq [v₁, v₂].toArray }, toks := tk₂ }) (t := H₂.objs.size) (vs := [v₁, v₂]) (n := 2) hA.handled ?_ ?_ ?_
      · exact tuple_here H₂ [v₁, v₂]
      · rfl
      intro H₃ gr
      have act₄ := act₃.grow gr
      have up₂ : Grows H₂ H₃ := (Grows.push _ _).trans gr
      show WP G A (do holding [v₁] (bindName env x₂ v₂); (do holding [] (bindName env x₁ v₁); pure ())) _ _
      refine wpAny_bind (wpAny_holding (wpAny_bindName (store_ok hE act₄ hx₂ fun H₄ tk₄ ℓ₂ l₂ st₂ => ?_)))
      have sv₂' := sv₂.keep (Sub.refl _) (h' := H₃) fun a ha o q => up₂ a o q
      have act₅ := act₄.storeVal (fun a o q => .inl (hAct.top a o q)) (fun a o q => .inl (hAct.z0 a o q)) (fun a ha => ⟨sv₂.held a ha, hb₂ a ha⟩) sv₂' l₂ st₂
      refine wpAny_bind (wpAny_holding (wpAny_bindName (store_ok hE act₅ hx₁ fun H₅ tk₅ ℓ₁ l₁ st₁ => wpAny_pure ?_)))
      have sv₁' := sv₁.keep z₂.sub (h' := H₄) (plus_keeps act₅)
      exact hQ H₅ tk₅ Z₂ .next (z₁.sub.trans z₂.sub) (act₅.storeVal hAct.top hAct.z0 (fun a ha => ⟨sv₁.held a ha, hb₁ a ha⟩) sv₁' l₁ st₁) trivial
    · cases hf
  · cases hf

theorem SS.swap3 {x₁ x₂ x₃ : Str} {p₁ p₂ p₃ tp ep pos : Pos} {e₁ e₂ e₃ : Expr} {k k' i j l : Nat} {f g h : SemX} (h₁ : SX G cx e₁ f) (h₂ : SX G cx e₂ g) (h₃ : SX G cx e₃ h) (hx₁ : cx.sl.lookup x₁ = some i) (hx₂ : cx.sl.lookup x₂ = some j) (hx₃ : cx.sl.lookup x₃ = some l)
    (hs₁ : ∀ env, starEach [e₁, e₂, e₃] env = [(false, eval e₁ env), (false, eval e₂ env), (false, eval e₃ env)] := by intro _; rfl) (hs : ∀ env, swapsWithSole [.Tuple [.Name x₁ p₁, .Name x₂ p₂, .Name x₃ p₃] k tp] (.Tuple [e₁, e₂, e₃] k' ep) pos.line env = pure false := by intro _; rfl)
    (hw : ∀ env : Env, env.scope = cx.sc → swappedStores [.Tuple [.Name x₁ p₁, .Name x₂ p₂, .Name x₃ p₃] k tp] (.Tuple [e₁, e₂, e₃] k' ep) env = pure (some [x₁, x₂, x₃])) :
    SS G cx (.Assign [.Tuple [.Name x₁ p₁, .Name x₂ p₂, .Name x₃ p₃] k tp] (.Tuple [e₁, e₂, e₃] k' ep) pos) (swap3C i j l f g h) := by
  intro σ t σ' hf A env B Z0 Z locs s hA hE hAct Q hQ
  unfold swap3C at hf
  split at hf
  · rename_i a σ₁ q₁
    split at hf
    · rename_i b σ₂ q₂
      split at hf
      · rename_i c σ₃ q₃
        cases hf
        refine Assign_Tuple_swapped (Tuple_ ?_) (hs env) (hw env hE.sc)
        rw [hs₁]
        refine Calls.spliced_cons (h₁ σ _ _ q₁ A env B Z0 Z locs s hA hE hAct _ fun H₁ tk₁ Z₁ v₁ as₁ z₁ act₁ hb₁ sv₁ => ?_)
        refine Calls.spliced_cons (h₂ _ _ _ q₂ A env _ Z0 Z₁ locs _ hA hE act₁ _ fun H₂ tk₂ Z₂ v₂ as₂ z₂ act₂ hb₂ sv₂ => ?_)
        refine Calls.spliced_cons (h₃ _ _ _ q₃ A env _ Z0 Z₂ locs _ hA hE act₂ _ fun H₃ tk₃ Z₃ v₃ as₃ z₃ act₃ hb₃ sv₃ => Calls.spliced_nil ?_)
        refine wpAny_newObj_type ?_ (by show (3 : Nat) ≤ sizeLine; rw [sizeLine_eq]; omega)
        have act₄ := act₃.grow (Grows.push H₃ { cls := .type "tuple", data := .seq [v₁, v₂, v₃].toArray })
        show WP G A (unpackItems (.ref H₃.objs.size) 3 none) _ { s with heap := H₃.push { cls := .type "tuple", data := .seq [v₁, v₂, v₃].toArray }, toks := tk₃ }
        refine unpackItems_ok (G := G) (A := A) (s := { s with heap := H₃.push { cls := .type "tuple", data := .seq [v₁, v₂, v₃].toArray }, toks := tk₃ }) (t := H₃.objs.size) (vs := [v₁, v₂, v₃]) (n := 3) hA.handled ?_ ?_ ?_
        · exact tuple_here H₃ [v₁, v₂, v₃]
        · rfl
        intro H₄ gr
        have act₅ := act₄.grow gr
        have up₃ : Grows H₃ H₄ := (Grows.push _ _).trans gr
        show WP G A (do holding [v₂, v₁] (bindName env x₃ v₃); (do holding [v₁] (bindName env x₂ v₂); (do holding [] (bindName env x₁ v₁); pure ()))) _ _
        refine wpAny_bind (wpAny_holding (wpAny_bindName (store_ok hE act₅ hx₃ fun H₅ tk₅ ℓ₃ l₃ st₃ => ?_)))
        have sv₃' := sv₃.keep (Sub.refl _) (h' := H₄) fun a ha o q => up₃ a o q
        have act₆ := act₅.storeVal (fun a o q => .inl (.inl (hAct.top a o q))) (fun a o q => .inl (.inl (hAct.z0 a o q))) (fun a ha => ⟨sv₃.held a ha, hb₃ a ha⟩) sv₃' l₃ st₃
        refine wpAny_bind (wpAny_holding (wpAny_bindName (store_ok hE act₆ hx₂ fun H₆ tk₆ ℓ₂ l₂ st₂ => ?_)))
        have sv₂' := sv₂.keep z₃.sub (h' := H₅) (plus_keeps act₆)
        have act₇ := act₆.storeVal (fun a o q => .inl (hAct.top a o q)) (fun a o q => .inl (hAct.z0 a o q)) (fun a ha => ⟨sv₂.held a ha, hb₂ a ha⟩) sv₂' l₂ st₂
        refine wpAny_bind (wpAny_holding (wpAny_bindName (store_ok hE act₇ hx₁ fun H₇ tk₇ ℓ₁ l₁ st₁ => wpAny_pure ?_)))
        have sv₁' := sv₁.keep (z₂.sub.trans z₃.sub) (h' := H₆) (plus_keeps act₇)
        exact hQ H₇ tk₇ Z₃ .next ((z₁.sub.trans z₂.sub).trans z₃.sub) (act₇.storeVal hAct.top hAct.z0 (fun a ha => ⟨sv₁.held a ha, hb₁ a ha⟩) sv₁' l₁ st₁) trivial
      · cases hf
    · cases hf
  · cases hf

/-! a list changed in place -/
theorem setItem_plainI {prog : Program} {w : World} {A : Around} {E : Value → Shared → Prop} {s : Shared} {l : Addr} {items : Array Value} {k : Int} {t : Tok} {v : Value} {Q : Unit → Shared → Prop} (hl : s.heap.PlainList l items) (h0 : 0 ≤ k) (hfit : k < 2 ^ 63) (hn : k < items.size)
    (hQ : ∀ h', h'.PlainList l (items.setIfInBounds k.toNat v) → Heap.SameBut l s.heap h' → Q () { s with heap := h' }) : wpAny (model prog w) A (setItem (.ref l) (.int k t) v) Q E s := by
  obtain ⟨n, ho⟩ := hl
  have hT : s.TypeIs (.ref l) "list" := ⟨_, ho, rfl⟩
  unfold setItem
  try with_reducible refine wpAny_holding ?_
  first | refine wpAny_bind (wpAny_pure ?_) | skip
  refine wpAny_bind (wpAny_sequenceKey hT (by decide) ?_)
  refine wpAny_bind (wpAny_callSpecial?_slot (name := Str.ofString "__setitem__") hT slot_list_setitem (wpAny_call_entry slot_list_setitem hT entry_list_setitem ?_ (args_list_setitem _ _ _)))
  show wpAny _ _ (Builtin.List.listSubscript? (.int k t) >>= _) _ _ s
  refine wpAny_bind (wpAny_listSubscript_int (fitsIndex_of h0 hfit) ?_)
  clear hfit
  obtain ⟨j, rfl⟩ := Int.eq_ofNat_of_zero_le h0
  have hj : j < items.size := by omega
  have hx : items[j]? = some items[j] := Array.getElem?_eq_getElem hj
  show wpAny _ _ ((seqItemAt l j >>= fun r => pure (r.map (j, ·))) >>= _) _ _ s
  refine wpAny_bind (wpAny_bind (wpAny_seqItemAt ho rfl (wpAny_pure ?_)))
  rw [hx]
  show wpAny _ _ (setSeqItemAt l j v >>= _) _ _ s
  have hfin : (s.heap.update l (Obj.mapSeq (·.setIfInBounds j v))).PlainList l (items.setIfInBounds j v) :=
    ⟨_, (Heap.get?_update_self (Obj.mapSeq (·.setIfInBounds j v)) ho rfl)⟩
  refine wpAny_bind (wpAny_setSeqItemAt ho rfl ?_)
  first
    | exact wpAny_bind (wpAny_pure (wpAny_pure ⟨.none, rfl, wpAny_pure (hQ _ hfin (Heap.SameBut.update ..))⟩))
    | exact wpAny_pure ⟨.none, rfl, wpAny_pure (hQ _ hfin (Heap.SameBut.update ..))⟩
theorem setItem_plain {A : Around} {s : Shared} {l : Addr} {items : Array Value} {j : Nat} {t : Tok} {v : Value} {Q : Unit → Shared → Prop} (hl : s.heap.PlainList l items) (hfit : j ≤ 1000000) (hn : j < items.size)
    (hQ : ∀ h', h'.PlainList l (items.setIfInBounds j v) → Heap.SameBut l s.heap h' → Q () { s with heap := h' }) : WP G A (setItem (.ref l) (.int j t) v) Q s :=
  setItem_plainI hl (Int.natCast_nonneg _) (by omega) (by omega) (by simpa using hQ)

/-- x[e] = v, of an owned list -/
noncomputable def setC (i : Nat) (fe : SemP) (fv : Sem1) : SemS := fun σ => match fv σ with
  | some (t, σ₁) => (match σ₁[i]? with
    | some (.own ts) => (match fe σ₁ with
      | some (.ofNat n) => if n < ts.length then (if n ≤ 1000000 then some (.next, σ₁.set i (.own (ts.set n t))) else none) else none
      | _ => none)
    | _ => none)
  | none => none
theorem setAt_ok {A : Around} {env : Env} {B Z0 Z : Zone} {locs : Nat → Option Loc} {σ : List Slot} {s : Shared} {x : Str} {p : Pos} {e : Expr} {i n : Nat} {ts : List T} {t : T} {v : Value} {fe : SemP} (hA : AOk cx.k A) (hE : EnvOk cx env locs) (act : Act G B Z0 Z locs σ s.heap)
    (hx : cx.sl.lookup x = some i) (hp : plainName x = true) (he : SP G cx e fe) (q : σ[i]? = some (.own ts)) (qe : fe σ = some (.ofNat n)) (hn : n < ts.length) (hle : n ≤ 1000000) (hr : Rd Z t v)
    {Q : Unit → Shared → Prop} (hQ : ∀ h' tk, Act G B Z0 Z locs (σ.set i (.own (ts.set n t))) h' → Q () { s with heap := h', toks := tk }) :
    WP G A (eval (.Name x p) env) (fun ov s₂ => WP G A (eval e env) (fun iv s₃ => WP G A (setItem ov iv v) Q s₃) s₂) s := by
  obtain ⟨l, items, ℓ, hl, hv, hpl, hrl, fin⟩ := act.inPlace (ts' := ts.set n t) q
  have hsz := size_of hrl
  refine name_ok hE hx hp hl hv (he _ _ qe A env B Z0 Z locs s hA hE act _ fun tk u => ?_)
  refine setItem_plain (s := { s with toks := tk }) (j := n) hpl hle (by omega) fun h' hp' hs' => ?_
  refine hQ h' tk (fin h' Z _ act hs' hp' ?_)
  simpa using hrl.set n hr
end
end Mine

namespace Mine
open PySem PySem.W PyProof.Rows PySem.Calls
section
variable {G : Glo} {cx : Cx}

/-! methods of an owned list -/
theorem LocIs.unique {h : Heap} {ℓ : Loc} {a b : Addr} (x : LocIs h ℓ (some (.ref a))) (y : LocIs h ℓ (some (.ref b))) : a = b := by
  cases ℓ with
  | loc L z =>
    obtain ⟨m, hn, q⟩ := x
    obtain ⟨m', hn', q'⟩ := y
    rw [← hn.agree hn' z, q] at q'; injection q' with q'; injection q'
  | cell c =>
    obtain ⟨o, ho, q⟩ := x
    obtain ⟨o', ho', q'⟩ := y
    rw [ho] at ho'; cases ho'; rw [q] at q'; injection q' with q'; injection q' with q'; injection q'

theorem RdL.eraseIdx {Z : Zone} : ∀ {ts : List T} {vs : List Value}, RdL Z ts vs → ∀ i, RdL Z (ts.eraseIdx i) (vs.eraseIdx i)
  | _, _, .nil, i => .nil
  | _, _, .cons _ b, 0 => b
  | _, _, .cons a b, i + 1 => .cons a (RdL.eraseIdx b i)

theorem stay_inPlace {locs : Nat → Option Loc} {Z Z' : Zone} {h h' : Heap} {a : Addr} {items : Array Value} (hz : Sub Z Z') (hp : h.PlainList a items) (hs : Heap.SameBut a h h') : Ev locs Z Z' h h' :=
  ⟨hz, fun i ℓ v e q => let ⟨o, ho, hq⟩ := isList_seq hp; q.keep fun p r => (hs.2 _ fun z => seq_ne_loc ho hq q z.symm).trans r⟩

noncomputable def popC (i : Nat) : Sem1 := fun σ => match σ[i]? with
  | some (.own ts) => (match ts[ts.length - 1]? with
    | some t => if ts.length ≤ 1000000 then some (t, σ.set i (.own (ts.eraseIdx (ts.length - 1)))) else none
    | none => none)
  | _ => none
theorem SE.pop {x : Str} {p ap pos : Pos} {i : Nat} (hx : cx.sl.lookup x = some i) (hp : plainName x = true) (hl : (ap.endLine == pos.line) = true) : SE G cx (.Call (.Attribute (.Name x p) "pop" ap) [] [] pos) (popC i) := by
  intro σ t σ' hf A env B Z0 Z locs s hA hE hAct Q hQ
  unfold popC at hf
  split at hf
  · rename_i ts e
    split at hf
    · rename_i u e₂
      split at hf
      · rename_i hle
        cases hf
        obtain ⟨l, items, ℓ, hloc, hv, hpl, hr, fin⟩ := hAct.inPlace (ts' := ts.eraseIdx (ts.length - 1)) e
        have hsz := size_of hr
        obtain ⟨n, ho⟩ := id hpl
        obtain ⟨y, hy, hd⟩ := hr.get e₂
        refine wpAny_Call_method rfl rfl hl PySem.F.plainAttrs_list PySem.F.slot_list_pop PySem.F.type_list_pop (name_ok hE hx hp hloc hv ⟨⟨_, ho, rfl⟩, fun a q => by cases q; exact ⟨_, ho, rfl⟩, ?_⟩)
        refine PySem.P.pop_list (items := items) (n := n) (y := y) ho (by rw [hsz]; simpa using hy) ?_ (by rw [hsz, sizeLine_eq]; omega)
        have hs : Heap.SameBut l s.heap (s.heap.update l (Obj.mapSeq fun xs => xs.eraseIdxIfInBounds (items.size - 1))) := Heap.SameBut.update ..
        have hp' : (s.heap.update l (Obj.mapSeq fun xs => xs.eraseIdxIfInBounds (items.size - 1))).PlainList l (items.eraseIdxIfInBounds (items.size - 1)) := ⟨_, PySem.IsL.update ho _⟩
        refine hQ _ s.toks Z y (stay_inPlace (Sub.refl _) hpl hs) (fin _ Z _ hAct hs hp' ?_) hd
        have e3 : (items.eraseIdxIfInBounds (items.size - 1)).toList = items.toList.eraseIdx (items.size - 1) := by simp
        rw [e3, hsz]
        exact hr.eraseIdx _
      · cases hf
    · cases hf
  · cases hf

noncomputable def appendC (i : Nat) (f : Sem1) : SemS := fun σ => match f σ with
  | some (t, σ₁) => (match σ[i]? with
    | some (.own _) => (match σ₁[i]? with
      | some (.own ts) => if ts.length ≤ 1000000 then some (.next, σ₁.set i (.own (ts ++ [t]))) else none
      | _ => none)
    | _ => none)
  | none => none
theorem SS.append {x : Str} {p ap cp pos : Pos} {e : Expr} {i : Nat} {f : Sem1} (he : SE G cx e f) (hx : cx.sl.lookup x = some i) (hp : plainName x = true) (hl : (ap.endLine == cp.line) = true)
    (hs1 : ∀ env, starEach [e] env = [(false, eval e env)] := by intro _; rfl) (hfew : ∀ env, ((backTo cp (starEach [e] env)).all (fun x => !x.1) && (backToKw cp (keywordEach [] env)).all (fun x => x.1.isSome)
      && decide ([e].length + ([] : List Keyword).length + (if ([] : List Keyword).isEmpty then 0 else 1) < 30)) = true := by intro _; rfl) :
    SS G cx (.Expr (.Call (.Attribute (.Name x p) "append" ap) [e] [] cp) pos) (appendC i f) := by
  intro σ t σ' hf A env B Z0 Z locs s hA hE hAct Q hQ
  unfold appendC at hf
  split at hf
  · rename_i u σ₁ e₁
    split at hf
    · rename_i ts₀ e₀
      split at hf
      · rename_i ts e₂
        split at hf
        · rename_i hle
          cases hf
          obtain ⟨l, items₀, ℓ, hloc, hv, hpl, hr, _⟩ := hAct.inPlace (ts' := []) e₀
          obtain ⟨n₀, ho₀⟩ := id hpl
          have hi : interactive env = false := by unfold interactive; rw [hE.fn]; rfl
          refine wpAny_Expr ?_ hi rfl
          refine wpAny_Call_method rfl (hfew env) hl PySem.F.plainAttrs_list PySem.F.slot_list_append PySem.F.type_list_append (name_ok hE hx hp hloc hv ⟨⟨_, ho₀, rfl⟩, fun a q => by cases q; exact ⟨_, ho₀, rfl⟩, ?_⟩)
          rw [hs1]
          refine PySem.P.append_list (he σ _ _ e₁ A env B Z0 Z locs s hA hE hAct _ fun h₁ tk₁ Z₁ v hz act rd => ?_)
          obtain ⟨l', items, ℓ', hloc', hv', hpl', hr', fin⟩ := act.inPlace (ts' := ts ++ [u]) e₂
          rw [hloc] at hloc'; cases hloc'
          have := (hz.stay i ℓ _ hloc hv).unique hv'
          subst this
          have hsz := size_of hr'
          obtain ⟨n, ho⟩ := id hpl'
          refine ⟨items, n, by rw [hsz, sizeLine_eq]; omega, ho, ?_⟩
          have hs : Heap.SameBut l h₁ (h₁.update l (Obj.mapSeq fun xs => xs.push v)) := Heap.SameBut.update ..
          have hp' : (h₁.update l (Obj.mapSeq fun xs => xs.push v)).PlainList l (items.push v) := ⟨_, PySem.IsL.update ho _⟩
          exact hQ _ tk₁ Z₁ .next hz.sub (fin _ Z₁ _ act hs hp' (by simpa using hr'.append (.cons rd .nil))) trivial
        · cases hf
      · cases hf
    · cases hf
  · cases hf

noncomputable def extendC (i : Nat) (f : Sem1) : SemS := fun σ => match f σ with
  | some (.list us, σ₁) => (match σ[i]? with
    | some (.own _) => (match σ₁[i]? with
      | some (.own ts) => if ts.length + us.length ≤ 1000000 then some (.next, σ₁.set i (.own (ts ++ us))) else none
      | _ => none)
    | _ => none)
  | _ => none
theorem SS.extend {x : Str} {p ap cp pos : Pos} {e : Expr} {i : Nat} {f : Sem1} (he : SE G cx e f) (hx : cx.sl.lookup x = some i) (hp : plainName x = true) (hl : (ap.endLine == cp.line) = true)
    (hs1 : ∀ env, starEach [e] env = [(false, eval e env)] := by intro _; rfl) (hfew : ∀ env, ((backTo cp (starEach [e] env)).all (fun x => !x.1) && (backToKw cp (keywordEach [] env)).all (fun x => x.1.isSome)
      && decide ([e].length + ([] : List Keyword).length + (if ([] : List Keyword).isEmpty then 0 else 1) < 30)) = true := by intro _; rfl) :
    SS G cx (.Expr (.Call (.Attribute (.Name x p) "extend" ap) [e] [] cp) pos) (extendC i f) := by
  intro σ t σ' hf A env B Z0 Z locs s hA hE hAct Q hQ
  unfold extendC at hf
  split at hf
  · rename_i us σ₁ e₁
    split at hf
    · rename_i ts₀ e₀
      split at hf
      · rename_i ts e₂
        split at hf
        · rename_i hle
          cases hf
          obtain ⟨l, items₀, ℓ, hloc, hv, hpl, hr, _⟩ := hAct.inPlace (ts' := []) e₀
          obtain ⟨n₀, ho₀⟩ := id hpl
          have hi : interactive env = false := by unfold interactive; rw [hE.fn]; rfl
          refine wpAny_Expr ?_ hi rfl
          refine wpAny_Call_method rfl (hfew env) hl PySem.F.plainAttrs_list PySem.F.slot_list_extend PySem.F.type_list_extend (name_ok hE hx hp hloc hv ⟨⟨_, ho₀, rfl⟩, fun a q => by cases q; exact ⟨_, ho₀, rfl⟩, ?_⟩)
          rw [hs1]
          refine PySem.P.extend_list (he σ _ _ e₁ A env B Z0 Z locs s hA hE hAct _ fun h₁ tk₁ Z₁ v hz act rd => ?_)
          obtain ⟨l', items, ℓ', hloc', hv', hpl', hr', fin⟩ := act.inPlace (ts' := ts ++ us) e₂
          rw [hloc] at hloc'; cases hloc'
          have := (hz.stay i ℓ _ hloc hv).unique hv'
          subst this
          have hsz := size_of hr'
          obtain ⟨n, ho⟩ := id hpl'
          cases rd with
          | list zb lb =>
            rename_i b ib nb
            have hsb := size_of lb
            refine ⟨b, items, ib, n, nb, by rw [hsz, sizeLine_eq]; omega, by rw [hsz, hsb, sizeLine_eq]; omega, ?_, rfl, ho, (act.zone _ _ zb).1, ?_⟩
            · have : Builtin.List.listTooLong (items.size + ib.size) = false := by
                rw [hsz, hsb]; simp [Builtin.List.listTooLong, sizeLine]; omega
              simp [this]
            have hs : Heap.SameBut l h₁ (h₁.update l (Obj.mapSeq fun xs => xs ++ ib)) := Heap.SameBut.update ..
            have hp' : (h₁.update l (Obj.mapSeq fun xs => xs ++ ib)).PlainList l (items ++ ib) := ⟨_, PySem.IsL.update ho _⟩
            exact hQ _ tk₁ Z₁ .next hz.sub (fin _ Z₁ _ act hs hp' (by simpa using hr'.append lb)) trivial
        · cases hf
      · cases hf
    · cases hf
  · cases hf

/-! while -/
noncomputable def whileC (c : SemB) (b : SemS) : Nat → SemS
  | 0 => fun _ => none
  | n + 1 => fun σ => match c σ with
    | some (true, σ₁) => (match b σ₁ with
      | some (.next, σ₂) => whileC c b n σ₂
      | some (.ret t, σ₂) => some (.ret t, σ₂)
      | none => none)
    | some (false, σ₁) => some (.next, σ₁)
    | none => none

/-- what stands between the turns of a while -/
inductive WInv (G : Glo) (B Z0 Z : Zone) (locs : Nat → Option Loc) (fc : SemB) (fb : SemS) (s : Shared) (out : Out) (σ' : List Slot) (m : Nat) (s' : Shared) : Prop
  | mk (h' : Heap) (tk : Nat) (Z' : Zone) (σ₁ : List Slot) (hs : s' = { s with heap := h', toks := tk }) (hz : Sub Z Z') (act : Act G B Z0 Z' locs σ₁ h') (hm : whileC fc fb m σ₁ = some (out, σ'))
theorem SS.while {c : Expr} {b : List Stmt} {pos : Pos} {fc : SemB} {fb : SemS} (n : Nat) (hc : ST G cx c fc) (hb : SSs G cx b fb) : SS G cx (.While c b [] pos) (whileC fc fb n) := by
  intro σ out σ' hf A env B Z0 Z locs s hA hE hAct Q hQ
  refine wpAny_While (codeAny_whileLoop (WInv G B Z0 Z locs fc fb s out σ') ?_ n ⟨s.heap, s.toks, Z, σ, rfl, Sub.refl _, hAct, hf⟩)
  rintro m s' ⟨h', tk, Z', σ₁, rfl, hz, act, hm⟩
  cases m with
  | zero => cases hm
  | succ m =>
    unfold whileC at hm
    split at hm
    · rename_i σ₂ e₁
      refine wpAny_mono (hc _ _ _ e₁ A env B Z0 Z' locs _ hA hE act _ fun h₂ tk₂ Z₂ z₂ act₂ => ?_) (fun _ _ q => q) fun _ _ f => f.elim
      show wpAny _ _ _ _ _ _
      split at hm
      · rename_i σ₃ e₂
        refine wpAny_mono (hb _ _ _ e₂ A env B Z0 Z₂ locs _ hA hE act₂ _ fun h₃ tk₃ Z₃ fl z₃ act₃ hfl => ?_) (fun _ _ q => q) fun _ _ f => f.elim
        rw [hfl.nextIs]
        exact ⟨m, Nat.lt_succ_self _, h₃, tk₃, Z₃, σ₃, rfl, (hz.trans z₂.sub).trans z₃, act₃, hm⟩
      · rename_i t σ₃ e₂
        cases hm
        refine wpAny_mono (hb _ _ _ e₂ A env B Z0 Z₂ locs _ hA hE act₂ _ fun h₃ tk₃ Z₃ fl z₃ act₃ hfl => ?_) (fun _ _ q => q) fun _ _ f => f.elim
        obtain ⟨v, rfl, hv⟩ := hfl.retIs
        exact hQ h₃ tk₃ Z₃ _ ((hz.trans z₂.sub).trans z₃) act₃ hv
      · cases hm
    · rename_i σ₂ e₁
      cases hm
      refine wpAny_mono (hc _ _ _ e₁ A env B Z0 Z' locs _ hA hE act _ fun h₂ tk₂ Z₂ z₂ act₂ => ?_) (fun _ _ q => q) fun _ _ f => f.elim
      show wpAny _ _ _ _ _ _
      exact wpAny_execs_nil (hQ h₂ tk₂ Z₂ .next (hz.trans z₂.sub) act₂ trivial)
    · cases hm

/-! what a for runs over -/
structure WalkT (G : Glo) (A : Around) (I : Addr) (ex : List Addr) (Z : Zone) (ts : List T) (St : Nat → Heap → Prop) : Prop where
  alive : ∀ i h, St i h → ∀ a ∈ ex, (h.get? a).isSome
  frame : ∀ i h h', St i h → (∀ b ∈ ex, ∀ o, h.get? b = some o → h'.get? b = some o) → (∀ a o, Z a o → h.get? a = some o → h'.get? a = some o) → (∀ a o, Z a o → h.get? a = some o) → St i h'
  item : ∀ i t (s : Shared) (Q : Option Value → Shared → Prop), ts[i]? = some t → St i s.heap →
    (∀ v h' tk, Rd Z t v → St (i + 1) h' → (∀ b o, b ∉ ex → s.heap.get? b = some o → h'.get? b = some o) → Q (some v) { s with heap := h', toks := tk }) → WP G A (pyNext (.ref I)) Q s
  done : ∀ (s : Shared) (Q : Option Value → Shared → Prop), St ts.length s.heap → (∀ h' tk, (∀ b o, b ∉ ex → s.heap.get? b = some o → h'.get? b = some o) → Q none { s with heap := h', toks := tk }) → WP G A (pyNext (.ref I)) Q s
  self : ∀ i (s : Shared) (Q : Value → Shared → Prop), St i s.heap → Q (.ref I) s → WP G A (pyIter (.ref I)) Q s

noncomputable def SI (G : Glo) (cx : Cx) (e : Expr) (f : SemL) : Prop :=
  ∀ σ ts σ', f σ = some (ts, σ') → ∀ A env B Z0 Z locs s, AOk cx.k A → EnvOk cx env locs → Act G B Z0 Z locs σ s.heap →
  ∀ Q : Value → Shared → Prop, (∀ h' tk Z' I ex St, Ev locs Z Z' s.heap h' → Act G (Plus B h' ex) Z0 Z' locs σ' h' → (∀ a ∈ ex, ∀ o, ¬ B a o) → (∀ a ∈ ex, a < h'.objs.size) → WalkT G A I ex Z' ts St → St 0 h' → Q (.ref I) { s with heap := h', toks := tk }) →
    WP G A (eval e env) (fun x s₁ => WP G A (pyIter x) Q s₁) s

theorem walk_list {A : Around} (hA : A.handled = none) {I l : Addr} {Z : Zone} {items : Array Value} {n : Nat} {ts : List T} (hz : Z l { cls := .type "list", data := .seq items n }) (hr : RdL Z ts items.toList) (hne : l ≠ I) :
    WalkT G A I [I] Z ts (fun i h => h.IsListIter I l i ∧ h.get? l = some { cls := .type "list", data := .seq items n }) := by
  have W := Walks.list (prog := G.prog) (w := G.w) hA I l hne items
  have hsz := size_of hr
  have mk : ∀ {h : Heap}, h.get? l = some { cls := .type "list", data := .seq items n } → h.IsList l items := fun q => ⟨_, q, rfl, n, rfl⟩
  exact {
    alive := fun i h st a ha => by rw [List.mem_singleton.mp ha]; obtain ⟨o, ho, _⟩ := st.1; rw [ho]; rfl
    frame := fun i h h' st k1 k2 k3 => ⟨st.1.at fun o q => k1 I (by simp) o q, k2 _ _ hz st.2⟩
    item := fun i t s Q ht st hQ => by
      obtain ⟨v, hv, hd⟩ := hr.get ht
      have hlt : i < items.size := by rw [hsz]; exact (List.getElem?_eq_some_iff.mp ht).1
      refine W.item i s Q _ hlt ⟨st.1, mk st.2⟩ fun v' h' tk hP st' hk => ?_
      have e : v' = v := by
        have : items[i]? = some v := by simpa using hv
        rw [this] at hP; exact (Option.some.inj hP).symm
      subst e
      exact hQ v' h' tk hd ⟨st'.1, hk l _ (by simpa using hne) st.2⟩ hk
    done := fun s Q st hQ => by
      refine W.done s Q _ ⟨?_, mk st.2⟩ hQ
      rw [hsz]; exact st.1
    self := fun i s Q st hQ => wpAny_pyIter_listiter st.1 hQ }

noncomputable def listIt (f : Sem1) : SemL := fun σ => match f σ with
  | some (.list ts, σ₁) => some (ts, σ₁)
  | _ => none
theorem size_none (h : Heap) : h.get? h.objs.size = none := by
  cases q : h.get? h.objs.size with
  | none => rfl
  | some o => exact absurd (Heap.lt_size q) (Nat.lt_irrefl _)
theorem SI.list {e : Expr} {f : Sem1} (he : SE G cx e f) : SI G cx e (listIt f) := by
  intro σ ts σ' hf A env B Z0 Z locs s hA hE hAct Q hQ
  unfold listIt at hf
  split at hf
  · rename_i us σ₁ e₁
    cases hf
    refine he _ _ _ e₁ A env B Z0 Z locs s hA hE hAct _ fun h₁ tk₁ Z₁ v hz act rd => ?_
    cases rd with
    | list z l =>
      rename_i a items n
      have ho := (act.zone _ _ z).1
      refine wpAny_pyIter_list ⟨_, ho, rfl, n, rfl⟩ ?_
      obtain ⟨act₂, hit, hb⟩ := alloc_ok (o := { cls := .type "list_iterator", data := .fields #[.ref a, .int 0 0] }) act rfl
      have hne : a ≠ h₁.objs.size := Nat.ne_of_lt (Heap.lt_size ho)
      refine hQ _ tk₁ Z₁ _ [h₁.objs.size] _ (hz.trans (.grow (Sub.refl _) (Grows.push _ _))) act₂ (fun b hb' o => by rw [List.mem_singleton.mp hb']; exact hb o) (fun b hb' => by rw [List.mem_singleton.mp hb', Heap.size_push]; exact Nat.lt_succ_self _) (walk_list hA.handled z l hne) ?_
      exact ⟨⟨_, hit, rfl, rfl⟩, Heap.get?_push_of_some _ ho⟩
  · cases hf

end
end Mine

namespace Mine
open PySem PySem.W PyProof.Rows PySem.Calls
section
variable {G : Glo} {cx : Cx}

/-! ranges -/
noncomputable def rangeT (a c : Int) : Nat → List T
  | 0 => []
  | n + 1 => .int a :: rangeT (a + c) c n
theorem rangeT_length : ∀ (n : Nat) (a c : Int), (rangeT a c n).length = n
  | 0, _, _ => rfl
  | n + 1, a, c => by simp [rangeT, rangeT_length n]
theorem rangeT_get : ∀ (n : Nat) (a c : Int) (i : Nat) (t : T), (rangeT a c n)[i]? = some t → t = .int (a + (i : Int) * c)
  | 0, _, _, i, t, h => by simp [rangeT] at h
  | n + 1, a, c, 0, t, h => by simp [rangeT] at h; subst h; simp
  | n + 1, a, c, i + 1, t, h => by
    simp [rangeT] at h
    have := rangeT_get n (a + c) c i t h
    rw [this]
    congr 1
    push_cast
    rw [Int.add_mul]; omega
theorem rangeSize_nonneg (a b c : Int) : 0 ≤ Builtin.Range.rangeSize a b c := by
  unfold Builtin.Range.rangeSize
  split
  · split
    · have := Int.ediv_nonneg (a := b - a - 1) (b := c) (by omega) (by omega); omega
    · omega
  · split
    · have := Int.ediv_nonneg (a := a - b - 1) (b := -c) (by omega) (by omega); omega
    · omega

theorem walk_range {A : Around} (hA : A.handled = none) {I : Addr} {Z : Zone} {a c : Int} {n : Nat} : WalkT G A I [I] Z (rangeT a c n) (fun i h => IsRangeIter h I (a + (i : Int) * c) ((n : Int) - (i : Int)) c) := by
  have W := Walks.range (prog := G.prog) (w := G.w) hA I a c n
  exact {
    alive := fun i h st b hb => by rw [List.mem_singleton.mp hb]; rw [show h.get? I = _ from st]; rfl
    frame := fun i h h' st k1 k2 k3 => k1 I (by simp) _ st
    item := fun i t s Q ht st hQ => by
      have hlt : i < n := by have := (List.getElem?_eq_some_iff.mp ht).1; rwa [rangeT_length] at this
      have e := rangeT_get n a c i t ht
      subst e
      refine W.item i s Q _ hlt st fun v h' tk hP st' hk => ?_
      obtain ⟨u, rfl⟩ := hP
      exact hQ _ h' tk (.int _ _) st' hk
    done := fun s Q st hQ => by
      rw [rangeT_length] at st
      exact W.done s Q _ st hQ
    self := fun i s Q st hQ => W.self i s Q _ st hQ }

theorem iter_range {A : Around} (hA : A.handled = none) {B Z0 Z : Zone} {locs : Nat → Option Loc} {σ : List Slot} {s : Shared} {r : Addr} {a b c : Int} {t u v : Tok} (act : Act G B Z0 Z locs σ s.heap) (hr : IsRange s.heap r a b c t u v) (hs : Builtin.Range.small a b c = true)
    {Q : Value → Shared → Prop} (hQ : ∀ h' I ex St, Grows s.heap h' → Act G (Plus B h' ex) Z0 Z locs σ h' → (∀ a ∈ ex, ∀ o, ¬ B a o) → (∀ a ∈ ex, a < h'.objs.size) → WalkT G A I ex Z (rangeT a c (Builtin.Range.rangeSize a b c).toNat) St → St 0 h' → Q (.ref I) { s with heap := h' }) :
    WP G A (pyIter (.ref r)) Q s := by
  refine wpAny_pyIter_range hr hs ?_
  obtain ⟨act₂, hit, hb⟩ := alloc_ok (o := { cls := .type "range_iterator", data := .fields #[rawInt a, rawInt (Builtin.Range.rangeSize a b c), rawInt c] }) act rfl
  refine hQ _ _ [s.heap.objs.size] _ (Grows.push _ _) act₂ (fun b hb' o => by rw [List.mem_singleton.mp hb']; exact hb o) (fun b hb' => by rw [List.mem_singleton.mp hb', Heap.size_push]; exact Nat.lt_succ_self _) (walk_range hA) ?_
  have e : ((Builtin.Range.rangeSize a b c).toNat : Int) - ((0 : Nat) : Int) = Builtin.Range.rangeSize a b c := by
    rw [Int.toNat_of_nonneg (rangeSize_nonneg a b c)]; simp
  have e0 : a + ((0 : Nat) : Int) * c = a := by simp
  show IsRangeIter _ _ _ _ _
  rw [e, e0]; exact hit

noncomputable def rangeIt (fs : SemL) : SemL := fun σ => match fs σ with
  | some ([.int n], σ₁) => if n.natAbs ≤ 1000000 then some (rangeT 0 1 n.toNat, σ₁) else none
  | some ([.int a, .int b], σ₁) => if a.natAbs ≤ 1000000 then (if b.natAbs ≤ 1000000 then some (rangeT a 1 (b - a).toNat, σ₁) else none) else none
  | some ([.int a, .int b, .int c], σ₁) => if c == 0 then none else if c.natAbs ≤ 1000000 then (if Builtin.Range.small a b c then some (rangeT a c (Builtin.Range.rangeSize a b c).toNat, σ₁) else none) else none
  | _ => none
theorem size_one (a b : Int) : (Builtin.Range.rangeSize a b 1).toNat = (b - a).toNat := by
  rw [PySem.rangeSize_one]; split <;> omega
theorem SI.range {x : Str} {pf pos : Pos} {e : Expr} {es : List Expr} {fs : SemL} (ok : GloOk G) (bi : Bi G x (.type "range")) (hg : cx.sc.names.lookup x = some .globalImplicit) (hpf : plainName x = true)
    (hs : SL G cx (e :: es) fs) (h1 : ∀ env, starEach (e :: es) env = (false, eval e env) :: starEach es env := by intro _; rfl) (h2 : ∀ env, (starEach es env).any (·.1) = false := by intro _; rfl) :
    SI G cx (.Call (.Name x pf) (e :: es) [] pos) (rangeIt fs) := by
  intro σ ts σ' hf A env B Z0 Z locs s hA hE hAct Q hQ
  have main : ∀ {us : List T} {σ₁ : List Slot} {a b c : Int}, fs σ = some (us, σ₁) → (∀ vs (s₁ : Shared), (∀ Z', RdL Z' us vs → ∀ Q' : Value → Shared → Prop, (∀ o tk, o.isFreed = false → (∃ t u v, o = { cls := .type "range", data := .fields #[.int a t, .int b u, .int c v] }) → Q' (.ref s₁.heap.objs.size) { s₁ with heap := s₁.heap.push o, toks := tk }) → WP G A (call (.type "range") vs) Q' s₁)) →
      Builtin.Range.small a b c = true → ts = rangeT a c (Builtin.Range.rangeSize a b c).toNat → σ' = σ₁ → WP G A (eval (.Call (.Name x pf) (e :: es) [] pos) env) (fun x s₁ => WP G A (pyIter x) Q s₁) s := by
    rintro us σ₁ a b c e₁ hcall hsm rfl rfl
    refine callBi_ok ok bi (.type _) hg hpf hs h1 h2 e₁ hA hE hAct fun h₁ tk₁ Z₁ vs hz act rd => ?_
    refine hcall vs { s with heap := h₁, toks := tk₁ } Z₁ rd _ fun o tk hfr ho => ?_
    obtain ⟨t, u, v, rfl⟩ := ho
    refine iter_range (s := { s with heap := _, toks := tk }) hA.handled (act.grow (Grows.push _ _)) (IsRange.new ..) hsm fun h₂ I ex St gr act₂ hb hlt W st => ?_
    exact hQ h₂ tk Z₁ I ex St (hz.trans (.grow (Sub.refl _) ((Grows.push _ _).trans gr))) act₂ hb hlt W st
  unfold rangeIt at hf
  split at hf
  · rename_i n σ₁ e₁
    split at hf
    · rename_i hn
      cases hf
      refine main (a := 0) (b := n) (c := 1) e₁ (fun vs s₁ Z' rd Q' hq => ?_) (small_one (by omega) (by omega) (by omega) (by omega)) (by rw [size_one]; simp) rfl
      cases rd with
      | cons r1 r2 => cases r2; cases r1; exact call_range_1 (hq _ _ rfl ⟨_, _, _, rfl⟩)
    · cases hf
  · rename_i a b σ₁ e₁
    split at hf
    · split at hf
      · cases hf
        refine main (a := a) (b := b) (c := 1) e₁ (fun vs s₁ Z' rd Q' hq => ?_) (small_one (by omega) (by omega) (by omega) (by omega)) (by rw [size_one]) rfl
        cases rd with
        | cons r1 r2 => cases r2 with
          | cons r3 r4 => cases r4; cases r1; cases r3; exact call_range_2 (hq _ _ rfl ⟨_, _, _, rfl⟩)
      · cases hf
    · cases hf
  · rename_i a b c σ₁ e₁
    split at hf
    · cases hf
    · rename_i hc
      split at hf
      · rename_i hc2
        split at hf
        · rename_i hsm
          cases hf
          refine main (a := a) (b := b) (c := c) e₁ (fun vs s₁ Z' rd Q' hq => ?_) hsm rfl rfl
          cases rd with
          | cons r1 r2 => cases r2 with
            | cons r3 r4 => cases r4 with
              | cons r5 r6 => cases r6; cases r1; cases r3; cases r5; exact call_range_3 (by simpa using hc) (hq _ _ rfl ⟨_, _, _, rfl⟩) (.inl (PyProof.noPylong_small (by omega)))
        · cases hf
      · cases hf
  · cases hf

/-! a for over single items -/
noncomputable def forC (i : Nat) (b : SemS) : List T → SemS
  | [] => fun σ => some (.next, σ)
  | t :: ts => fun σ => match b (σ.set i (.fro t)) with
    | some (.next, σ₁) => forC i b ts σ₁
    | some (.ret r, σ₁) => some (.ret r, σ₁)
    | none => none
noncomputable def forS (i : Nat) (f : SemL) (b : SemS) : SemS := fun σ => match f σ with
  | some (ts, σ₁) => forC i b ts σ₁
  | none => none

end
end Mine

namespace Mine
open PySem PySem.W PyProof.Rows PySem.Calls
section
variable {G : Glo} {cx : Cx}

structure WalkP (G : Glo) (A : Around) (I : Addr) (ex : List Addr) (Z : Zone) (ts : List (T × T)) (St : Nat → Heap → Prop) (Mid : Nat → Addr → Heap → Prop) : Prop where
  alive : ∀ i h, St i h → ∀ a ∈ ex, (h.get? a).isSome
  frame : ∀ i h h', St i h → (∀ b ∈ ex, ∀ o, h.get? b = some o → h'.get? b = some o) → (∀ a o, Z a o → h.get? a = some o → h'.get? a = some o) → (∀ a o, Z a o → h.get? a = some o) → St i h'
  item : ∀ i a b (s : Shared) (Q : Option Value → Shared → Prop), ts[i]? = some (a, b) → St i s.heap → (∀ a o, Z a o → s.heap.get? a = some o) →
    (∀ Tp v₁ v₂ h' tk, Rd Z a v₁ → Rd Z b v₂ → h'.IsTuple Tp #[v₁, v₂] → Mid i Tp h' → (∀ b o, b ∉ ex → s.heap.get? b = some o → h'.get? b = some o) → Q (some (.ref Tp)) { s with heap := h', toks := tk }) → WP G A (pyNext (.ref I)) Q s
  go : ∀ (elts : List Expr) (k : Nat) (pos : Pos) i Tp vals (s : Shared) (Q : Unit → Shared → Prop), Mid i Tp s.heap → s.heap.IsTuple Tp vals →
    (∀ h', St (i + 1) h' → h'.IsTuple Tp vals → (∀ b o, b ∉ ex → s.heap.get? b = some o → h'.get? b = some o) → Q () { s with heap := h' }) → WP G A (letOwnedTupleGo (.Tuple elts k pos) (.ref I) (.ref Tp)) Q s
  done : ∀ (s : Shared) (Q : Option Value → Shared → Prop), St ts.length s.heap → (∀ h' tk, (∀ b o, b ∉ ex → s.heap.get? b = some o → h'.get? b = some o) → Q none { s with heap := h', toks := tk }) → WP G A (pyNext (.ref I)) Q s
  self : ∀ i (s : Shared) (Q : Value → Shared → Prop), St i s.heap → Q (.ref I) s → WP G A (pyIter (.ref I)) Q s

abbrev SemLP := List Slot → Option (List (T × T) × List Slot)
noncomputable def SI2 (G : Glo) (cx : Cx) (e : Expr) (f : SemLP) : Prop :=
  ∀ σ ts σ', f σ = some (ts, σ') → ∀ A env B Z0 Z locs s, AOk cx.k A → EnvOk cx env locs → Act G B Z0 Z locs σ s.heap →
  ∀ Q : Value → Shared → Prop, (∀ h' tk Z' I ex St Mid, Ev locs Z Z' s.heap h' → Act G (Plus B h' ex) Z0 Z' locs σ' h' → (∀ a ∈ ex, ∀ o, ¬ B a o) → (∀ a ∈ ex, a < h'.objs.size) → WalkP G A I ex Z' ts St Mid → St 0 h' → Q (.ref I) { s with heap := h', toks := tk }) →
    WP G A (eval e env) (fun x s₁ => WP G A (pyIter x) Q s₁) s

/-! enumerate -/
noncomputable def enumT : Int → List T → List (T × T)
  | _, [] => []
  | k, t :: ts => (.int k, t) :: enumT (k + 1) ts
theorem enumT_length : ∀ (ts : List T) (k : Int), (enumT k ts).length = ts.length
  | [], _ => rfl
  | t :: ts, k => by simp [enumT, enumT_length ts]
theorem enumT_get : ∀ (ts : List T) (k : Int) (i : Nat) (a b : T), (enumT k ts)[i]? = some (a, b) → a = .int (k + i) ∧ ts[i]? = some b
  | [], _, i, a, b, h => by simp [enumT] at h
  | t :: ts, k, 0, a, b, h => by simp [enumT] at h; simp [h]
  | t :: ts, k, i + 1, a, b, h => by
    simp [enumT] at h
    obtain ⟨h1, h2⟩ := enumT_get ts (k + 1) i a b h
    refine ⟨?_, by simpa using h2⟩
    rw [h1]; congr 1; push_cast; omega

theorem walk_enum {A : Around} (hA : A.handled = none) {e it l : Addr} (hei : e ≠ it) (hle : l ≠ e) (hli : l ≠ it) {Z : Zone} {items : Array Value} {n : Nat} {ts : List T} (hz : Z l { cls := .type "list", data := .seq items n }) (hr : RdL Z ts items.toList) :
    WalkP G A e [e, it] Z (enumT 0 ts) (fun i h => (∃ old, IsEnum h e it i old) ∧ h.IsListIter it l i ∧ h.get? l = some { cls := .type "list", data := .seq items n })
      (fun i Tp h => (∃ x, IsEnumOut h e it ((i : Int) + 1) x Tp) ∧ h.IsListIter it l (i + 1) ∧ h.get? l = some { cls := .type "list", data := .seq items n } ∧ Tp ≠ e ∧ Tp ≠ it) := by
  have W := WalksT.enumerate (prog := G.prog) (w := G.w) hA e it l hei hle hli items
  have hsz := size_of hr
  have mk : ∀ {h : Heap}, h.get? l = some { cls := .type "list", data := .seq items n } → h.IsList l items := fun q => ⟨_, q, rfl, n, rfl⟩
  have lex : l ∉ [e, it] := by simp [hle, hli]
  exact {
    alive := fun i h st a ha => by
      rcases List.mem_cons.mp ha with rfl | ha
      · obtain ⟨old, he⟩ := st.1; rw [show h.get? a = _ from he]; rfl
      · rw [List.mem_singleton.mp ha]; obtain ⟨o, ho, _⟩ := st.2.1; rw [ho]; rfl
    frame := fun i h h' st k1 k2 k3 => ⟨let ⟨old, he⟩ := st.1; ⟨old, k1 e (by simp) _ he⟩, st.2.1.at fun o q => k1 it (by simp) o q, k2 _ _ hz st.2.2⟩
    item := fun i a b s Q ht st hzs hQ => by
      obtain ⟨ea, eb⟩ := enumT_get ts 0 i a b ht
      have hlt : i < items.size := by rw [hsz]; exact (List.getElem?_eq_some_iff.mp eb).1
      obtain ⟨v, hv, hd⟩ := hr.get eb
      refine W.item i s Q _ hlt ⟨st.1, st.2.1, mk st.2.2⟩ fun Tp vals h' tk hP hge hT hm hk => ?_
      obtain ⟨t, x, hx, rfl⟩ := hP
      have e2 : x = v := by
        have : items[i]? = some v := by simpa using hv
        rw [this] at hx; exact (Option.some.inj hx).symm
      subst e2
      refine hQ Tp _ _ h' tk ?_ hd hT ⟨hm.1, hm.2.1, hk l _ lex st.2.2, hm.2.2.2.1, hm.2.2.2.2⟩ hk
      rw [ea]; simpa using Rd.int (Z := Z) (i : Int) t
    go := fun elts k pos i Tp vals s Q hm hT hQ => by
      have ap : Tp ∉ [e, it] := by simp [hm.2.2.2.1, hm.2.2.2.2]
      refine W.go elts k pos i Tp s Q _ ⟨hm.1, hm.2.1, mk hm.2.2.1, hm.2.2.2.1, hm.2.2.2.2⟩ fun h' st' hk => ?_
      exact hQ h' ⟨st'.1, st'.2.1, hk l _ lex hm.2.2.1⟩ (hT.at fun o q => hk Tp o ap q) hk
    done := fun s Q st hQ => by
      rw [enumT_length] at st
      refine W.done s Q _ ⟨?_, ?_, mk st.2.2⟩ hQ
      · rw [hsz]; exact st.1
      · rw [hsz]; exact st.2.1
    self := fun i s Q st hQ => let ⟨old, he⟩ := st.1; wpAny_pyIter_enum he hQ }

noncomputable def enumIt (fs : SemL) : SemLP := fun σ => match fs σ with
  | some ([.list ts], σ₁) => some (enumT 0 ts, σ₁)
  | _ => none
theorem SI2.enum {x : Str} {pf pos : Pos} {e : Expr} {fs : SemL} (ok : GloOk G) (bi : Bi G x (.type "enumerate")) (hg : cx.sc.names.lookup x = some .globalImplicit) (hpf : plainName x = true)
    (hs : SL G cx [e] fs) (h1 : ∀ env, starEach [e] env = (false, eval e env) :: starEach [] env := by intro _; rfl) :
    SI2 G cx (.Call (.Name x pf) [e] [] pos) (enumIt fs) := by
  intro σ ts σ' hf A env B Z0 Z locs s hA hE hAct Q hQ
  unfold enumIt at hf
  split at hf
  · rename_i us σ₁ e₁
    cases hf
    refine callBi_ok ok bi (.type _) hg hpf hs h1 (fun _ => rfl) e₁ hA hE hAct fun h₁ tk₁ Z₁ vs hz act rd => ?_
    cases rd with
    | cons r1 r2 => cases r2; cases r1 with
      | list z l =>
        rename_i a items n
        have ho := (act.zone _ _ z).1
        refine call_enumerate_list (s := { s with heap := h₁, toks := tk₁ }) (items := items) ⟨_, ho, rfl, n, rfl⟩ fun h₂ he hit hsz hk => ?_
        refine wpAny_pyIter_enum (s := { s with heap := h₂, toks := tk₁ }) he ?_
        have hlt : a < h₁.objs.size := Heap.lt_size ho
        have act₂ := act.protect hk [h₁.objs.size + 1, h₁.objs.size] fun b hb => by
          rcases List.mem_cons.mp hb with rfl | hb
          · cases q : h₁.get? (h₁.objs.size + 1) with
            | none => rfl
            | some o => exact absurd (Heap.lt_size q) (Nat.not_lt.mpr (Nat.le_succ _))
          · rw [List.mem_singleton.mp hb]; exact size_none _
        have hex : ∀ b ∈ [h₁.objs.size + 1, h₁.objs.size], ∀ o, ¬ B b o := fun b hb o hB => by
          have q := act.base _ _ hB
          have := Heap.lt_size q
          rcases List.mem_cons.mp hb with rfl | hb
          · exact absurd this (Nat.not_lt.mpr (Nat.le_succ _))
          · rw [List.mem_singleton.mp hb] at this; exact absurd this (Nat.lt_irrefl _)
        refine hQ h₂ tk₁ Z₁ _ [h₁.objs.size + 1, h₁.objs.size] _ _ (hz.trans (.grow (Sub.refl _) hk)) act₂ hex (fun b hb => ?_) (walk_enum hA.handled (Nat.succ_ne_self _) (Nat.ne_of_lt (Nat.lt_succ_of_lt hlt)) (Nat.ne_of_lt hlt) z l) ⟨⟨_, he⟩, hit, hk _ _ ho⟩
        rcases List.mem_cons.mp hb with rfl | hb
        · rw [show h₂.objs.size = h₁.objs.size + 2 from hsz]; exact Nat.lt_succ_self _
        · rw [List.mem_singleton.mp hb, show h₂.objs.size = h₁.objs.size + 2 from hsz]; exact Nat.lt_succ_of_lt (Nat.lt_succ_self _)
  · cases hf

/-! zip of two lists -/
noncomputable def zipT : List T → List T → List (T × T)
  | a :: as, b :: bs => (a, b) :: zipT as bs
  | _, _ => []
theorem zipT_length : ∀ (as bs : List T), (zipT as bs).length = min as.length bs.length
  | [], _ => by simp [zipT]
  | _ :: _, [] => by simp [zipT]
  | a :: as, b :: bs => by simp [zipT, zipT_length as bs]
theorem zipT_get : ∀ (as bs : List T) (i : Nat) (a b : T), (zipT as bs)[i]? = some (a, b) → as[i]? = some a ∧ bs[i]? = some b
  | [], _, i, a, b, h => by simp [zipT] at h
  | _ :: _, [], i, a, b, h => by simp [zipT] at h
  | a :: as, b :: bs, 0, x, y, h => by simp [zipT] at h; simp [h]
  | a :: as, b :: bs, i + 1, x, y, h => by simp [zipT] at h; simpa using zipT_get as bs i x y h

theorem walk_zip {A : Around} (hA : A.handled = none) {z TI TO i1 i2 l1 l2 : Addr} (D : ZipApart z TI TO i1 i2 l1 l2) (hTz : TI ≠ z) (hTO : TI ≠ TO) (hT1 : TI ≠ i1) (hT2 : TI ≠ i2) (hl1 : l1 ∉ [z, TO, i1, i2, TI]) (hl2 : l2 ∉ [z, TO, i1, i2, TI]) {Z : Zone} {xs ys : Array Value} {n m : Nat} {as bs : List T}
    (hz1 : Z l1 { cls := .type "list", data := .seq xs n }) (hz2 : Z l2 { cls := .type "list", data := .seq ys m }) (hr1 : RdL Z as xs.toList) (hr2 : RdL Z bs ys.toList) :
    WalkP G A z [z, TO, i1, i2, TI] Z (zipT as bs)
      (fun i h => IsZip h z TI TO .none ∧ IsPair h TI (.ref i1) (.ref i2) ∧ (∃ a b, IsPair h TO a b) ∧ h.IsListIter i1 l1 i ∧ h.IsListIter i2 l2 i ∧ h.get? l1 = some { cls := .type "list", data := .seq xs n } ∧ h.get? l2 = some { cls := .type "list", data := .seq ys m })
      (fun i Tp h => IsZip h z TI TO (rawInt Tp) ∧ IsPair h TI (.ref i1) (.ref i2) ∧ (∃ a b, IsPair h TO a b) ∧ h.IsListIter i1 l1 (i + 1) ∧ h.IsListIter i2 l2 (i + 1) ∧ h.get? l1 = some { cls := .type "list", data := .seq xs n } ∧ h.get? l2 = some { cls := .type "list", data := .seq ys m } ∧ Tp ≠ z ∧ Tp ≠ TO ∧ Tp ≠ i1 ∧ Tp ≠ i2) := by
  have W := WalksT.zip2 (prog := G.prog) (w := G.w) hA z TI TO i1 i2 l1 l2 D xs ys
  have s1 := size_of hr1
  have s2 := size_of hr2
  have mk1 : ∀ {h : Heap}, h.get? l1 = some { cls := .type "list", data := .seq xs n } → h.IsList l1 xs := fun q => ⟨_, q, rfl, n, rfl⟩
  have mk2 : ∀ {h : Heap}, h.get? l2 = some { cls := .type "list", data := .seq ys m } → h.IsList l2 ys := fun q => ⟨_, q, rfl, m, rfl⟩
  have sm : ∀ b, b ∉ [z, TO, i1, i2, TI] → b ∉ [z, TO, i1, i2] := fun b h q => h (by simp at q ⊢; rcases q with q | q | q | q <;> simp [q])
  have p1 := sm _ hl1
  have p2 := sm _ hl2
  exact {
    alive := fun i h st a ha => by
      obtain ⟨q1, q2, ⟨x, y, q3⟩, ⟨o4, q4, _⟩, ⟨o5, q5, _⟩, _⟩ := st
      simp at ha
      rcases ha with rfl | rfl | rfl | rfl | rfl
      · rw [show h.get? a = _ from q1]; rfl
      · rw [show h.get? a = _ from q3]; rfl
      · rw [q4]; rfl
      · rw [q5]; rfl
      · rw [show h.get? a = _ from q2]; rfl
    frame := fun i h h' st k1 k2 k3 => by
      obtain ⟨q1, q2, ⟨x, y, q3⟩, q4, q5, q6, q7⟩ := st
      exact ⟨k1 z (by simp) _ q1, k1 TI (by simp) _ q2, ⟨x, y, k1 TO (by simp) _ q3⟩, q4.at fun o q => k1 i1 (by simp) o q, q5.at fun o q => k1 i2 (by simp) o q, k2 _ _ hz1 q6, k2 _ _ hz2 q7⟩
    item := fun i a b s Q ht st hzs hQ => by
      obtain ⟨q1, q2, q3, q4, q5, q6, q7⟩ := st
      obtain ⟨ea, eb⟩ := zipT_get as bs i a b ht
      have hlt : i < min xs.size ys.size := by
        have h1 := (List.getElem?_eq_some_iff.mp ea).1
        have h2 := (List.getElem?_eq_some_iff.mp eb).1
        omega
      obtain ⟨v, hv, hd⟩ := hr1.get ea
      obtain ⟨v', hv', hd'⟩ := hr2.get eb
      refine W.item i s Q _ hlt ⟨q1, q2, q3, q4, q5, mk1 q6, mk2 q7⟩ fun Tp vals h' tk hP hge hT hm hk => ?_
      obtain ⟨x, y, hx, hy, rfl⟩ := hP
      have e1 : x = v := by
        have : xs[i]? = some v := by simpa using hv
        rw [this] at hx; exact (Option.some.inj hx).symm
      have e2 : y = v' := by
        have : ys[i]? = some v' := by simpa using hv'
        rw [this] at hy; exact (Option.some.inj hy).symm
      subst e1 e2
      obtain ⟨m1, m2, m3, m4, m5, m6, m7, m8, m9, m10, m11⟩ := hm
      exact hQ Tp _ _ h' tk hd hd' hT ⟨m1, m2, m3, m4, m5, hk _ _ p1 q6, hk _ _ p2 q7, m8, m9, m10, m11⟩ fun b o hb q => hk b o (sm b hb) q
    go := fun elts k pos i Tp vals s Q hm hT hQ => by
      obtain ⟨m1, m2, m3, m4, m5, m6, m7, m8, m9, m10, m11⟩ := hm
      have ap : Tp ∉ [z, TO, i1, i2] := by simp [m8, m9, m10, m11]
      refine W.go elts k pos i Tp s Q _ ⟨m1, m2, m3, m4, m5, mk1 m6, mk2 m7, m8, m9, m10, m11⟩ fun h' st' hk => ?_
      obtain ⟨r1, r2, r3, r4, r5, r6, r7⟩ := st'
      exact hQ h' ⟨r1, r2, r3, r4, r5, hk _ _ p1 m6, hk _ _ p2 m7⟩ (hT.at fun o q => hk Tp o ap q) fun b o hb q => hk b o (sm b hb) q
    done := fun s Q st hQ => by
      rw [zipT_length] at st
      obtain ⟨q1, q2, q3, q4, q5, q6, q7⟩ := st
      have e : min as.length bs.length = min xs.size ys.size := by omega
      rw [e] at q4 q5
      exact W.done s Q _ ⟨q1, q2, q3, q4, q5, mk1 q6, mk2 q7⟩ fun h' tk hk => hQ h' tk fun b o hb q => hk b o (sm b hb) q
    self := fun i s Q st hQ => wpAny_pyIter_zip st.1 hQ }

noncomputable def zipIt (fs : SemL) : SemLP := fun σ => match fs σ with
  | some ([.list as, .list bs], σ₁) => some (zipT as bs, σ₁)
  | _ => none

theorem SI2.zip {x : Str} {pf pos : Pos} {e₁ e₂ : Expr} {fs : SemL} (ok : GloOk G) (bi : Bi G x (.type "zip")) (hg : cx.sc.names.lookup x = some .globalImplicit) (hpf : plainName x = true)
    (hs : SL G cx [e₁, e₂] fs) (h1 : ∀ env, starEach [e₁, e₂] env = (false, eval e₁ env) :: starEach [e₂] env := by intro _; rfl) (h2 : ∀ env, (starEach [e₂] env).any (·.1) = false := by intro _; rfl) :
    SI2 G cx (.Call (.Name x pf) [e₁, e₂] [] pos) (zipIt fs) := by
  intro σ ts σ' hf A env B Z0 Z locs s hA hE hAct Q hQ
  unfold zipIt at hf
  split at hf
  · rename_i as bs σ₁ q₁
    cases hf
    refine callBi_ok ok bi (.type _) hg hpf hs h1 h2 q₁ hA hE hAct fun h₁ tk₁ Z₁ vs hz act rd => ?_
    cases rd with
    | cons r1 r2 => cases r2 with
      | cons r3 r4 => cases r4; cases r1 with
        | list z1 l1 => cases r3 with
          | list z2 l2 =>
            rename_i a xs n b ys m
            have ho1 := (act.zone _ _ z1).1
            have ho2 := (act.zone _ _ z2).1
            refine call_zip_2 (s := { s with heap := h₁, toks := tk₁ }) (xs := xs) (ys := ys) ⟨_, ho1, rfl, n, rfl⟩ ⟨_, ho2, rfl, m, rfl⟩ fun h₂ q1 q2 q3 q4 q5 hsz hk => ?_
            refine wpAny_pyIter_zip (s := { s with heap := h₂, toks := tk₁ }) q1 ?_
            show Q _ _
            have hlt1 : a < h₁.objs.size := Heap.lt_size ho1
            have hlt2 : b < h₁.objs.size := Heap.lt_size ho2
            dsimp only at q1 q2 q3 q4 q5 hsz hk ⊢
            generalize hN : h₁.objs.size = N at *
            have no : ∀ c, N ≤ c → h₁.get? c = none := fun c hc => by
              cases q : h₁.get? c with
              | none => rfl
              | some o => exact absurd (Heap.lt_size q) (by rw [hN]; exact Nat.not_lt.mpr hc)
            have big : ∀ c ∈ [N + 4, N + 3, N, N + 1, N + 2], N ≤ c ∧ c < N + 5 := fun c hc => by
              simp at hc
              rcases hc with rfl | rfl | rfl | rfl | rfl
              · exact ⟨Nat.le_add_right _ _, Nat.add_lt_add_left (by decide) _⟩
              · exact ⟨Nat.le_add_right _ _, Nat.add_lt_add_left (by decide) _⟩
              · exact ⟨Nat.le_refl _, Nat.lt_add_of_pos_right (by decide)⟩
              · exact ⟨Nat.le_add_right _ _, Nat.add_lt_add_left (by decide) _⟩
              · exact ⟨Nat.le_add_right _ _, Nat.add_lt_add_left (by decide) _⟩
            have act₂ := act.protect hk [N + 4, N + 3, N, N + 1, N + 2] fun c hc => no c (big c hc).1
            have hex : ∀ c ∈ [N + 4, N + 3, N, N + 1, N + 2], ∀ o, ¬ B c o := fun c hc o hB => by
              have q := act.base _ _ hB
              rw [no c (big c hc).1] at q; cases q
            have ne : ∀ {c d : Nat}, c < N → N ≤ d → c ≠ d := fun h1 h2 h3 => Nat.lt_irrefl _ (h3 ▸ Nat.lt_of_lt_of_le h1 h2)
            have hD : ZipApart (N + 4) (N + 2) (N + 3) N (N + 1) a b :=
              ⟨by simp, by simp, by simp, by simp, by simp, by simp, by simp, by simp, by simp, by simp,
                ne hlt1 (Nat.le_add_right _ _), ne hlt1 (Nat.le_add_right _ _), ne hlt1 (Nat.le_refl _), ne hlt1 (Nat.le_add_right _ _),
                ne hlt2 (Nat.le_add_right _ _), ne hlt2 (Nat.le_add_right _ _), ne hlt2 (Nat.le_refl _), ne hlt2 (Nat.le_add_right _ _)⟩
            refine hQ h₂ tk₁ Z₁ _ [N + 4, N + 3, N, N + 1, N + 2] _ _ (hz.trans (.grow (Sub.refl _) hk)) act₂ hex (fun c hc => by rw [hsz]; exact (big c hc).2)
              (walk_zip hA.handled hD (by simp) (by simp) (by simp) (by simp) (fun hc => ne hlt1 (big a hc).1 rfl) (fun hc => ne hlt2 (big b hc).1 rfl) z1 z2 l1 l2) ⟨q1, q2, ⟨_, _, q3⟩, q4, q5, hk _ _ ho1, hk _ _ ho2⟩
  · cases hf

/-! a list of pairs -/
noncomputable def pairsOf : List T → Option (List (T × T))
  | [] => some []
  | .tup [a, b] :: ts => (match pairsOf ts with | some ps => some ((a, b) :: ps) | none => none)
  | _ => none
theorem pairs_get {Z : Zone} : ∀ {ts : List T} {ps : List (T × T)} {vs : List Value}, pairsOf ts = some ps → RdL Z ts vs → ps.length = vs.length ∧ ∀ (i : Nat) (a b : T), ps[i]? = some (a, b) → ∃ (Tp : Addr) (o : Obj) (items : Array Value) (n : Nat), vs[i]? = some (Value.ref Tp) ∧ Z Tp o ∧ o.cls = .type "tuple" ∧ o.data = .seq items n ∧ RdL Z [a, b] items.toList
  | [], ps, _, h, .nil => by cases h; exact ⟨rfl, fun i a b h => by simp at h⟩
  | t :: ts, ps, _, h, .cons r1 r2 => by
    unfold pairsOf at h
    split at h
    · rename_i h0; cases h0
    · rename_i a' b' ts' h0
      injection h0 with e1 e2
      subst e1 e2
      split at h
      · rename_i ps' e
        cases h
        obtain ⟨k1, k2⟩ := pairs_get e r2
        refine ⟨by simp [k1], fun i a b hi => ?_⟩
        cases i with
        | zero =>
          simp at hi
          obtain ⟨rfl, rfl⟩ := hi
          cases r1 with
          | tup z c d l => exact ⟨_, _, _, _, rfl, z, c, d, l⟩
        | succ i => simpa using k2 i a b (by simpa using hi)
      · cases h
    · cases h

theorem two_of {Z : Zone} {a b : T} {vs : List Value} (h : RdL Z [a, b] vs) : ∃ v₁ v₂, vs = [v₁, v₂] ∧ Rd Z a v₁ ∧ Rd Z b v₂ := by
  cases h with
  | cons r1 r2 => cases r2 with
    | cons r3 r4 => cases r4; exact ⟨_, _, rfl, r1, r3⟩
theorem walk_pairs {A : Around} (hA : A.handled = none) {I l : Addr} {Z : Zone} {items : Array Value} {n : Nat} {ts : List T} {ps : List (T × T)} (hz : Z l { cls := .type "list", data := .seq items n }) (hr : RdL Z ts items.toList) (hp : pairsOf ts = some ps) (hne : l ≠ I) (hI : ∀ o, ¬ Z I o) :
    WalkP G A I [I] Z ps (fun i h => h.IsListIter I l i ∧ h.get? l = some { cls := .type "list", data := .seq items n } ∧ ∀ a o, Z a o → h.get? a = some o) (fun i Tp h => h.IsListIter I l (i + 1) ∧ h.get? l = some { cls := .type "list", data := .seq items n } ∧ (∀ a o, Z a o → h.get? a = some o)) := by
  have W := Walks.list (prog := G.prog) (w := G.w) hA I l hne items
  obtain ⟨k1, k2⟩ := pairs_get hp hr
  have hsz : items.size = ps.length := by rw [k1, Array.length_toList]
  have mk : ∀ {h : Heap}, h.get? l = some { cls := .type "list", data := .seq items n } → h.IsList l items := fun q => ⟨_, q, rfl, n, rfl⟩
  have zI : ∀ {a : Addr} {o : Obj}, Z a o → a ∉ [I] := fun q e => hI _ (List.mem_singleton.mp e ▸ q)
  exact {
    alive := fun i h st a ha => by rw [List.mem_singleton.mp ha]; obtain ⟨o, ho, _⟩ := st.1; rw [ho]; rfl
    frame := fun i h h' st k1 k2 k3 => ⟨st.1.at fun o q => k1 I (by simp) o q, k2 _ _ hz st.2.1, fun a o q => k2 a o q (st.2.2 a o q)⟩
    item := fun i a b s Q ht st hzs hQ => by
      obtain ⟨Tp, o, its, m, hv, zt, hc, hd, hl⟩ := k2 i a b ht
      have hlt : i < items.size := by rw [hsz]; exact (List.getElem?_eq_some_iff.mp ht).1
      refine W.item i s Q _ hlt ⟨st.1, mk st.2.1⟩ fun v' h' tk hP st' hk => ?_
      have e : v' = .ref Tp := by
        have : items[i]? = some (.ref Tp) := by simpa using hv
        rw [this] at hP; exact (Option.some.inj hP).symm
      subst e
      have zs : ∀ a o, Z a o → h'.get? a = some o := fun a o q => hk a o (zI q) (hzs a o q)
      obtain ⟨v₁, v₂, e2, r1, r2⟩ := two_of hl
      have ei : its = #[v₁, v₂] := by rw [← Array.toArray_toList (xs := its), e2]
      subst ei
      exact hQ Tp v₁ v₂ h' tk r1 r2 ⟨o, zs _ _ zt, hc, m, hd⟩ ⟨st'.1, hk l _ (by simpa using hne) st.2.1, zs⟩ hk
    go := fun elts k pos i Tp vals s Q hm hT hQ => wpAny_letOwnedTupleGo_listiter hm.1 (hQ s.heap hm hT fun _ _ _ q => q)
    done := fun s Q st hQ => by
      refine W.done s Q _ ⟨?_, mk st.2.1⟩ hQ
      rw [hsz]; exact st.1
    self := fun i s Q st hQ => wpAny_pyIter_listiter st.1 hQ }

noncomputable def pairsIt (f : Sem1) : SemLP := fun σ => match f σ with
  | some (.list ts, σ₁) => (match pairsOf ts with
    | some ps => some (ps, σ₁)
    | none => none)
  | _ => none
theorem SI2.pairs {e : Expr} {f : Sem1} (he : SE G cx e f) : SI2 G cx e (pairsIt f) := by
  intro σ ts σ' hf A env B Z0 Z locs s hA hE hAct Q hQ
  unfold pairsIt at hf
  split at hf
  · rename_i us σ₁ e₁
    split at hf
    · rename_i ps e₂
      cases hf
      refine he _ _ _ e₁ A env B Z0 Z locs s hA hE hAct _ fun h₁ tk₁ Z₁ v hz act rd => ?_
      cases rd with
      | list z l =>
        rename_i a items n
        have ho := (act.zone _ _ z).1
        refine wpAny_pyIter_list ⟨_, ho, rfl, n, rfl⟩ ?_
        obtain ⟨act₂, hit, hb⟩ := alloc_ok (o := { cls := .type "list_iterator", data := .fields #[.ref a, .int 0 0] }) act rfl
        have hne : a ≠ h₁.objs.size := Nat.ne_of_lt (Heap.lt_size ho)
        refine hQ _ tk₁ Z₁ _ [h₁.objs.size] _ _ (hz.trans (.grow (Sub.refl _) (Grows.push _ _))) act₂ (fun b hb' o => by rw [List.mem_singleton.mp hb']; exact hb o) (fun b hb' => by rw [List.mem_singleton.mp hb', Heap.size_push]; exact Nat.lt_succ_self _)
          (walk_pairs hA.handled z l e₂ hne fun o q => by have := (act.zone _ _ q).1; rw [size_none] at this; cases this) ?_
        exact ⟨⟨_, hit, rfl, rfl⟩, Heap.get?_push_of_some _ ho, fun b o q => Heap.get?_push_of_some _ (act.zone _ _ q).1⟩
    · cases hf
  · cases hf

/-! a for over pairs -/
noncomputable def forPC (i j : Nat) (b : SemS) : List (T × T) → SemS
  | [] => fun σ => some (.next, σ)
  | (t, u) :: ts => fun σ => match b ((σ.set i (.fro t)).set j (.fro u)) with
    | some (.next, σ₁) => forPC i j b ts σ₁
    | some (.ret r, σ₁) => some (.ret r, σ₁)
    | none => none
noncomputable def forPS (i j : Nat) (f : SemLP) (b : SemS) : SemS := fun σ => match f σ with
  | some (ts, σ₁) => forPC i j b ts σ₁
  | none => none

theorem assign_two {A : Around} {env : Env} {B Z0 Z : Zone} {locs : Nat → Option Loc} (hA : A.handled = none) (hE : EnvOk cx env locs) {x y : Str} {px py tp : Pos} {k i j : Nat} (hx : cx.sl.lookup x = some i) (hy : cx.sl.lookup y = some j) {t u : T} {v₁ v₂ : Value} {Tp : Addr} {σ : List Slot} {s : Shared}
    (act : Act G B Z0 Z locs σ s.heap) (hT : s.heap.IsTuple Tp #[v₁, v₂]) (r1 : Rd Z t v₁) (r2 : Rd Z u v₂) {Q : Unit → Shared → Prop} (hQ : ∀ h' tk, Act G B Z0 Z locs ((σ.set i (.fro t)).set j (.fro u)) h' → Q () { s with heap := h', toks := tk }) :
    WP G A (PySem.assign (.Tuple [.Name x px, .Name y py] k tp) env (.ref Tp)) Q s := by
  have hn : NamesAt cx [.Name x px, .Name y py] [i, j] := .cons hx (.cons hy .nil)
  obtain ⟨l1, l2⟩ := assignEach_names (env := env) hn
  refine wpAny_assign_Tuple hA hT (by rw [l1]; rfl) l2 fun h' hk => ?_
  have gr : Grows s.heap h' := fun b p q => hk b p (Nat.ne_of_lt (Heap.lt_size q)) q
  exact storeAll_ok (s := { s with heap := h' }) hE hn (ts := [t, u]) (.cons r1 (.cons r2 .nil)) (act.grow gr) hQ

/-- what stands between the turns of a for over pairs -/
inductive FPInv (G : Glo) (B Z0 Z Z₁ : Zone) (locs : Nat → Option Loc) (ex : List Addr) (St : Nat → Heap → Prop) (ts : List (T × T)) (i j : Nat) (fb : SemS) (s : Shared) (out : Out) (σ' : List Slot) (m : Nat) (s' : Shared) : Prop
  | mk (n : Nat) (h' : Heap) (tk : Nat) (Z' : Zone) (σ₂ : List Slot) (hm : m + n = ts.length) (hs : s' = { s with heap := h', toks := tk }) (hz' : Sub Z Z') (hz₁' : Sub Z₁ Z') (act' : Act G (Plus B h' ex) Z0 Z' locs σ₂ h') (st' : St n h') (hf' : forPC i j fb (ts.drop n) σ₂ = some (out, σ'))
theorem SS.forP {x y : Str} {px py tp pos : Pos} {k : Nat} {iter : Expr} {b : List Stmt} {i j : Nat} {f : SemLP} {fb : SemS} (hi : SI2 G cx iter f) (hb : SSs G cx b fb) (hx : cx.sl.lookup x = some i) (hy : cx.sl.lookup y = some j) (hs : ∀ env v, foldedSetIterable iter env v = pure v := by intro _ _; rfl) :
    SS G cx (.For (.Tuple [.Name x px, .Name y py] k tp) iter b [] pos) (forPS i j f fb) := by
  intro σ out σ' hf A env B Z0 Z locs s hA hE hAct Q hQ
  unfold forPS at hf
  split at hf
  · rename_i ts σ₁ e₁
    refine wpAny_For (hi _ _ _ e₁ A env B Z0 Z locs s hA hE hAct _ fun h₁ tk₁ Z₁ I ex St Mid hz act hex hlt W st => ?_) (hs env)
    refine codeAny_forLoop_any (FPInv G B Z0 Z Z₁ locs ex St ts i j fb s out σ') ?_ ts.length
      ⟨0, h₁, tk₁, Z₁, σ₁, by omega, rfl, hz.sub, Sub.refl _, act, st, by simpa using hf⟩
    rintro m s' ⟨n, h', tk, Z', σ₂, hm, rfl, hz', hz₁', act', st', hf'⟩
    have top := hAct.top
    have z0 := hAct.z0
    cases hd : ts.drop n with
    | nil =>
      rw [hd] at hf'
      cases hf'
      have hj : n = ts.length := drop_nil_at hd hm
      subst hj
      refine wpAny_mono (W.done { s with heap := h', toks := tk } _ st' fun h₂ tk₂ k => ?_) (fun _ _ q => q) fun _ _ q => q.elim
      have al := W.alive _ _ st'
      have act₂ := (act'.step top z0 (fun a ha => ⟨al a ha, hex a ha⟩) k).drop top z0
      exact wpAny_execs_nil (hQ h₂ tk₂ Z' .next hz' act₂ trivial)
    | cons tu rest =>
      obtain ⟨t, u⟩ := tu
      rw [hd] at hf'
      have hlt' : n < ts.length := drop_lt hd
      have ht : ts[n]? = some (t, u) := drop_at hd
      have hrest : ts.drop (n + 1) = rest := drop_rest hd
      refine wpAny_mono (W.item n t u { s with heap := h', toks := tk } _ ht st' (fun a o q => (act'.zone a o (hz₁' _ _ q)).1) fun Tp v₁ v₂ h₂ tk₂ r1 r2 hT hmid k => ?_) (fun _ _ q => q) fun _ _ q => q.elim
      have al := W.alive _ _ st'
      refine wpAny_mono (W.go _ _ _ n Tp _ { s with heap := h₂, toks := tk₂ } _ hmid hT fun h₃ st₃ hT₃ k₃ => ?_) (fun _ _ q => q) fun _ _ q => q.elim
      have act₃ := act'.step top z0 (fun a ha => ⟨al a ha, hex a ha⟩) fun b o hb q => k₃ b o hb (k b o hb q)
      have al₃ := W.alive _ _ st₃
      refine wpAny_mono (assign_two hA.handled hE hx hy (s := { s with heap := h₃, toks := tk₂ }) act₃ hT₃ (r1.mono hz₁') (r2.mono hz₁') (Q := fun _ s₄ => ∃ h₄ tk₄, s₄ = { s with heap := h₄, toks := tk₄ } ∧ Act G (Plus B h₃ ex) Z0 Z' locs ((σ₂.set i (.fro t)).set j (.fro u)) h₄) fun h₄ tk₄ act₄ => ⟨h₄, tk₄, rfl, act₄⟩) (fun _ s₄ q => ?_) fun _ _ q => q.elim
      obtain ⟨h₄, tk₄, rfl, act₄⟩ := q
      unfold forPC at hf'
      split at hf'
      · rename_i σ₄ e₄
        refine wpAny_mono (hb _ _ _ e₄ A env _ Z0 Z' locs _ hA hE act₄ _ fun h₅ tk₅ Z₅ fl z₅ act₅ hfl => ?_) (fun _ _ q => q) fun _ _ q => q.elim
        rw [hfl.nextIs]
        have act₆ : Act G (Plus B h₅ ex) Z0 Z₅ locs σ₄ h₅ := act₅.step top z0 (fun a ha => ⟨al₃ a ha, hex a ha⟩) fun _ _ _ q => q
        refine ⟨m - 1, by omega, n + 1, h₅, tk₅, Z₅, σ₄, by omega, rfl, hz'.trans z₅, hz₁'.trans z₅, act₆, ?_, by rw [hrest]; exact hf'⟩
        exact W.frame _ _ _ st₃ (fun b hb o q => act₅.base b o (.inr ⟨hb, q⟩)) (fun a o q _ => (act₅.zone a o (z₅ _ _ (hz₁' _ _ q))).1) fun a o q => (act₃.zone a o (hz₁' _ _ q)).1
      · rename_i r σ₄ e₄
        cases hf'
        refine wpAny_mono (hb _ _ _ e₄ A env _ Z0 Z' locs _ hA hE act₄ _ fun h₅ tk₅ Z₅ fl z₅ act₅ hfl => ?_) (fun _ _ q => q) fun _ _ q => q.elim
        obtain ⟨v', rfl, hv⟩ := hfl.retIs
        exact hQ h₅ tk₅ Z₅ _ (hz'.trans z₅) (act₅.drop top z0) hv
      · cases hf'
  · cases hf
end
end Mine

namespace Mine
open PySem PySem.W PyProof.Rows PySem.Calls
section
variable {G : Glo} {cx : Cx}

/-! the frame of a comprehension -/
noncomputable def updL (locs : Nat → Option Loc) (i : Nat) (ℓ : Loc) : Nat → Option Loc := fun j => if j = i then some ℓ else locs j
theorem updL_same {locs : Nat → Option Loc} {i : Nat} {ℓ : Loc} : updL locs i ℓ i = some ℓ := if_pos rfl
theorem updL_ne {locs : Nat → Option Loc} {i j : Nat} {ℓ : Loc} (h : j ≠ i) : updL locs i ℓ j = locs j := if_neg h

theorem Act.enter {B Z0 Z : Zone} {locs : Nat → Option Loc} {σ : List Slot} {h : Heap} {i : Nat} {ℓ : Loc} (x : Act G B Z0 Z locs σ h) (hi : locs i = none) (hv : ∃ v, LocIs h ℓ v) (hb : ∀ o, ¬ B ℓ.addr o) (hne : ∀ j ℓ', locs j = some ℓ' → ℓ' ≠ ℓ) : Act G B Z0 Z (updL locs i ℓ) σ h where
  top := x.top
  base := x.base
  zone := x.zone
  z0 := x.z0
  zold := x.zold
  inj := fun j k ℓ' e1 e2 => by
    by_cases hj : j = i <;> by_cases hk : k = i
    · rw [hj, hk]
    · rw [hj, updL_same] at e1; cases e1
      rw [updL_ne hk] at e2
      exact absurd rfl (hne k _ e2)
    · rw [hk, updL_same] at e2; cases e2
      rw [updL_ne hj] at e1
      exact absurd rfl (hne j _ e1)
    · rw [updL_ne hj] at e1; rw [updL_ne hk] at e2; exact x.inj j k ℓ' e1 e2
  loc := fun j ℓ' e => by
    by_cases hj : j = i
    · rw [hj, updL_same] at e; cases e; exact ⟨hv, hb⟩
    · rw [updL_ne hj] at e; exact x.loc j ℓ' e
  sl := by
    obtain ⟨ow, k1, k2, k3⟩ := x.sl
    refine ⟨ow, fun j s e => ?_, k2, k3⟩
    by_cases hj : j = i
    · subst hj
      have := k1 j s e
      rw [hi] at this
      cases s with
      | un => exact this
      | fro t => obtain ⟨_, ℓ', v, q, _⟩ := this; cases q
      | own ts => obtain ⟨a, items, ℓ', _, q, _⟩ := this; cases q
      | box xs k => obtain ⟨a, b, t, ℓ', items, _, _, q, _⟩ := this; cases q
      | ext xs => obtain ⟨_, a, o, ℓ', items, n, q, _⟩ := this; cases q
    · rw [updL_ne hj]; exact k1 j s e

theorem Act.leave {B Z0 Z : Zone} {locs : Nat → Option Loc} {σ : List Slot} {h : Heap} {i : Nat} {ℓ : Loc} (x : Act G B Z0 Z (updL locs i ℓ) σ h) (hi : locs i = none) : Act G B Z0 Z locs (σ.set i .un) h := by
  have y := x.forget (i := i)
  exact {
    top := x.top
    base := x.base
    zone := x.zone
    z0 := x.z0
    zold := x.zold
    inj := fun j k ℓ' e1 e2 => by
      have hj : j ≠ i := fun q => by rw [q, hi] at e1; cases e1
      have hk : k ≠ i := fun q => by rw [q, hi] at e2; cases e2
      exact x.inj j k ℓ' (by rw [updL_ne hj]; exact e1) (by rw [updL_ne hk]; exact e2)
    loc := fun j ℓ' e => by
      have hj : j ≠ i := fun q => by rw [q, hi] at e; cases e
      exact x.loc j ℓ' (by rw [updL_ne hj]; exact e)
    sl := by
      obtain ⟨ow, k1, k2, k3⟩ := y.sl
      refine ⟨ow, fun j s e => ?_, k2, k3⟩
      have := k1 j s e
      by_cases hj : j = i
      · subst hj
        have hlt : j < σ.length := by
          have := (List.getElem?_eq_some_iff.mp e).1; rwa [List.length_set] at this
        rw [List.getElem?_set_self hlt] at e; cases e
        exact this
      · rw [updL_ne hj] at this; exact this }

/-- a change of an object that nothing stands on -/
theorem Act.change {B Z0 Z : Zone} {locs : Nat → Option Loc} {σ : List Slot} {h h' : Heap} {C : Addr} (x : Act G B Z0 Z locs σ h) (k : ∀ b o, b ≠ C → h.get? b = some o → h'.get? b = some o) (hB : ∀ o, ¬ B C o) (hs : ∃ o, h.get? C = some o ∧ ¬ IsSeq o)
    (hl : ∀ j ℓ, locs j = some ℓ → ℓ.addr ≠ C) : Act G B Z0 Z locs σ h' := by
  obtain ⟨oc, hoc, hns⟩ := hs
  have seqne : ∀ {a : Addr} {o : Obj}, h.get? a = some o → IsSeq o → a ≠ C := fun e q z => by rw [z, hoc] at e; cases e; exact hns q
  exact {
    top := x.top
    base := fun a o hb => k a o (fun q => hB o (q ▸ hb)) (x.base a o hb)
    zone := fun a o hz => ⟨k a o (seqne (x.zone a o hz).1 (x.zone a o hz).2) (x.zone a o hz).1, (x.zone a o hz).2⟩
    z0 := x.z0
    zold := x.zold
    inj := x.inj
    loc := fun j ℓ e => ⟨let ⟨v, hv⟩ := (x.loc j ℓ e).1; ⟨v, hv.keep fun o q => k _ o (hl j ℓ e) q⟩, (x.loc j ℓ e).2⟩
    sl := by
      obtain ⟨ow, k1, k2, k3⟩ := x.sl
      refine ⟨fun j => if j < σ.length then ow j else [], fun j s e => ?_, fun j a ha => ?_, fun j l a hj hl' => ?_⟩
      · have hlt := (List.getElem?_eq_some_iff.mp e).1
        dsimp only
        rw [if_pos hlt]
        refine (k1 j s e).keep (fun ℓ q v hv => hv.keep fun o q' => k _ o (hl j ℓ q) q') fun a ha o q => ?_
        obtain ⟨o', ho', hq⟩ := (k1 j s e).seqs a ha
        exact k a o (seqne ho' hq) q
      · dsimp only at ha
        split at ha
        · rename_i hlt
          obtain ⟨o', ho', hq⟩ := (k1 j _ (List.getElem?_eq_getElem hlt)).seqs a ha
          exact ⟨by rw [k a o' (seqne ho' hq) ho']; rfl, (k2 j a ha).2⟩
        · cases ha
      · dsimp only at hj hl'
        split at hj
        · split at hl'
          · exact k3 j l a hj hl'
          · cases hl'
        · cases hj }

theorem closureFor_ok {scope : Scope} {env : Env} (h : ∀ x, (x, NameKind.free) ∈ scope.names → (env.cells.lookup x).isSome = true) :
    ∃ cl, closureFor scope env = pure cl ∧ ∀ x, (x, NameKind.free) ∈ scope.names → cl.lookup x = env.cells.lookup x := by
  have gen : ∀ (names : List (Str × NameKind)) (acc : List (Str × Addr)), (∀ x, (x, NameKind.free) ∈ names → (env.cells.lookup x).isSome = true) → (∀ x c, acc.lookup x = some c → env.cells.lookup x = some c) →
      ∃ cl, (forIn names acc fun (x : Str × NameKind) (r : List (Str × Addr)) => if x.2 == .free then (do let a ← cellOf env x.1; pure (ForInStep.yield ((x.1, a) :: r))) else pure (ForInStep.yield r) : Sem _) = pure cl ∧
        (∀ x c, cl.lookup x = some c → env.cells.lookup x = some c) ∧ (∀ x, (acc.lookup x).isSome = true → (cl.lookup x).isSome = true) ∧ ∀ x, (x, NameKind.free) ∈ names → (cl.lookup x).isSome = true := by
    intro names
    induction names with
    | nil => intro acc _ ha; exact ⟨acc, by rw [List.forIn_nil], ha, fun _ q => q, fun x hx => nomatch hx⟩
    | cons n r ih =>
      intro acc hn ha
      obtain ⟨x, k⟩ := n
      rw [List.forIn_cons]
      by_cases hk : k = .free
      · subst hk
        obtain ⟨c, hc⟩ := Option.isSome_iff_exists.mp (hn x (List.mem_cons_self))
        have e : cellOf env x = pure c := by unfold cellOf; rw [hc]
        simp only [beq_self_eq_true, if_true, e, pure_bind]
        obtain ⟨cl, h1, h2, h3, h4⟩ := ih ((x, c) :: acc) (fun y hy => hn y (List.mem_cons_of_mem _ hy)) (fun y d hy => by
          rw [List.lookup_cons] at hy
          by_cases hxy : y = x
          · subst hxy; simp at hy; subst hy; exact hc
          · have hb : (y == x) = false := beq_eq_false_iff_ne.mpr hxy
            simp only [hb] at hy; exact ha y d hy)
        refine ⟨cl, h1, h2, fun y hy => h3 y ?_, fun y hy => ?_⟩
        · rw [List.lookup_cons]
          split
          · rfl
          · exact hy
        · rcases List.mem_cons.mp hy with e | hy
          · injection e with e _; subst e; exact h3 y (by rw [List.lookup_cons]; simp)
          · exact h4 y hy
      · have hb : (k == NameKind.free) = false := by simpa using hk
        simp only [hb, Bool.false_eq_true, if_false, pure_bind]
        obtain ⟨cl, h1, h2, h3, h4⟩ := ih acc (fun y hy => hn y (List.mem_cons_of_mem _ hy)) ha
        refine ⟨cl, h1, h2, h3, fun y hy => ?_⟩
        rcases List.mem_cons.mp hy with e | hy
        · injection e with _ e; exact absurd e.symm hk
        · exact h4 y hy
  obtain ⟨cl, h1, h2, _, h4⟩ := gen scope.names [] h (fun x c q => by simp at q)
  refine ⟨cl, ?_, fun x hx => ?_⟩
  · unfold closureFor
    show (forIn scope.names [] _ >>= fun r => pure r) = _
    first
    | (rw [h1]; rfl)
    | (refine Eq.trans ?_ h1; simp)
  · obtain ⟨c, hc⟩ := Option.isSome_iff_exists.mp (h4 x hx)
    rw [hc, h2 x c hc]

theorem cellsFrom_append : ∀ (names : List (Str × NameKind)) (n : Nat) (acc acc' : List (Str × Addr)), cellsFrom n names (acc ++ acc') = cellsFrom n names acc ++ acc'
  | [], _, _, _ => rfl
  | (x, k) :: r, n, acc, acc' => by
    unfold cellsFrom
    split
    · exact cellsFrom_append r (n + 1) ((x, n) :: acc) acc'
    · exact cellsFrom_append r n acc acc'

/-- the environment of a comprehension within env -/
noncomputable def compEnv' (scope : Scope) (cl : List (Str × Addr)) (C : Addr) (env : Env) : Env :=
  { scope := relabel scope env, locals := C, globals := env.globals, cells := cellsFrom (C + 1) scope.names [] ++ cl, qual := env.qual, func := none, code := env.code, frame := env.frame, builtins := env.builtins }

theorem newCompEnv_ok {A : Around} {s : Shared} {scope : Scope} {cl : List (Str × Addr)} {env : Env} {Q : Env → Shared → Prop}
    (h : ∀ h' cenv, Grows s.heap h' → h'.Ns s.heap.objs.size (fun _ => none) → CellsOk h' (s.heap.objs.size + 1) (cellsFrom (s.heap.objs.size + 1) scope.names []) → { cenv with scope := relabel scope env } = compEnv' scope cl s.heap.objs.size env → cenv.locals = s.heap.objs.size → Q cenv { s with heap := h' }) :
    WP G A (newFunctionEnv scope env.globals cl [] env.qual none .none (some env)) Q s := by
  simp only [newFunctionEnv, Option.isSome_some, if_true]
  refine wpAny_bind (wpAny_alloc ?_)
  refine wpAny_bind (wpAny_layCells _ (fun name kind cells => by cases hkc : kind == NameKind.cell <;> simp [hkc]) _ _ _ _ ?_)
  refine wpAny_bind (wpAny_pure ?_)
  refine wpAny_pure ?_
  have hs : (s.heap.push { cls := .type "dict", data := .dict #[] }).objs.size = s.heap.objs.size + 1 := Heap.size_push ..
  have ok := cellsFrom_ok scope.names (s.heap.push { cls := .type "dict", data := .dict #[] }) (s.heap.objs.size + 1) [] ⟨fun _ _ hm => (nomatch hm), List.Pairwise.nil⟩ (by rw [hs]; exact Nat.le_refl _)
  rw [hs] at ok
  refine h _ _ (fun b o e => pushCells_keeps _ _ b o (Heap.get?_push_of_some _ e)) ((Heap.Ns.new s.heap (.type "dict")).keeps (pushCells_keeps _ _)) ok ?_ rfl
  unfold compEnv'
  show ({ scope := relabel scope env, locals := _, globals := _, cells := cellsFrom (s.heap.push _).objs.size scope.names cl, qual := _, func := none, code := _, frame := _, builtins := _ } : Env) = _
  rw [hs, show cl = [] ++ cl from rfl, cellsFrom_append]
  rfl
end
end Mine

namespace Mine
open PySem PySem.W PyProof.Rows PySem.Calls
/-- what relabel makes, of the scopes alone -/
noncomputable def relabelS (scope sc : Scope) : Scope :=
  { scope with names := scope.names.map fun (n, k) => if (k == .free && sc.kind == .function && sc.names.lookup n == some .cell) then (n, .cell) else (n, k) }
theorem relabel_eq (scope : Scope) (env : Env) : relabel scope env = relabelS scope env.scope := rfl

noncomputable def tgLoc (scope : Scope) (C : Addr) (x : Str) : Option Loc := match scope.names.lookup x with
  | some .local => some (.loc C x)
  | some .cell => ((cellsFrom (C + 1) scope.names []).lookup x).map .cell
  | _ => none

noncomputable def isCF (k : Option NameKind) : Bool := k == some .cell || k == some .free
noncomputable def compOk (cx : Cx) (scope : Scope) (sl' tg : List (Str × Nat)) : Bool :=
  (scope.names.all fun p => !(p.2 == .free) || ((cx.sl.lookup p.1).isSome && isCF (cx.sc.names.lookup p.1))) &&
  (sl'.all fun p => (tg.contains p && (((relabelS scope cx.sc).names.lookup p.1 == some .local && scope.names.lookup p.1 == some .local) || ((relabelS scope cx.sc).names.lookup p.1 == some .cell && scope.names.lookup p.1 == some .cell))) ||
    (scope.names.contains (p.1, .free) && (scope.names.all fun q => !(q.1 == p.1) || !(q.2 == .cell)) && isCF ((relabelS scope cx.sc).names.lookup p.1) && cx.sl.lookup p.1 == some p.2 && isCF (cx.sc.names.lookup p.1))) &&
  (scope.names.all fun p => !(p.2 == .local) || scope.names.lookup p.1 == some .local) && scope.kind == .function

theorem cellsFrom_none : ∀ (names : List (Str × NameKind)) (n : Nat) (x : Str), (∀ q ∈ names, (!(q.1 == x) || !(q.2 == NameKind.cell)) = true) → ∀ acc : List (Str × Addr), (cellsFrom n names acc).lookup x = acc.lookup x
  | [], _, _, _, _ => rfl
  | (y, k) :: r, n, x, h, acc => by
    unfold cellsFrom
    have hr := fun q hq => h q (List.mem_cons_of_mem _ hq)
    split
    · rename_i hk
      rw [cellsFrom_none r (n + 1) x hr]
      have := h (y, k) List.mem_cons_self
      rw [show (k == NameKind.cell) = true from hk] at this
      simp only [Bool.not_true, Bool.or_false, Bool.not_eq_true'] at this
      rw [List.lookup_cons]
      have hb : (x == y) = false := by
        have h1 : y ≠ x := by simpa using this
        exact beq_eq_false_iff_ne.mpr (Ne.symm h1)
      rw [hb]
    · exact cellsFrom_none r n x hr acc

theorem lookup_mem {α : Type} {l : List (Str × α)} {x : Str} {a : α} (h : l.lookup x = some a) : (x, a) ∈ l := mem_of_lookup h

section
variable {G : Glo} {cx : Cx}

theorem compEnvOk {env : Env} {locs locs' : Nat → Option Loc} {scope : Scope} {cl : List (Str × Addr)} {C : Addr} {sl' tg : List (Str × Nat)} (hE : EnvOk cx env locs) (ok : compOk cx scope sl' tg = true)
    (hcl : ∀ x, (x, NameKind.free) ∈ scope.names → cl.lookup x = env.cells.lookup x) (ht : ∀ x i, (x, i) ∈ tg → locs' i = tgLoc scope C x) (ho : ∀ i ℓ, locs i = some ℓ → locs' i = some ℓ) {n' : Nat} (hoff : ∀ i, n' ≤ i → locs' i = none) :
    EnvOk ⟨relabelS scope cx.sc, sl', cx.k, n'⟩ (compEnv' scope cl C env) locs' := by
  simp only [compOk, Bool.and_eq_true] at ok
  obtain ⟨⟨⟨_, ok2⟩, _⟩, ok4⟩ := ok
  have hsc : (compEnv' scope cl C env).scope = relabelS scope cx.sc := by show relabel scope env = _; rw [relabel_eq, hE.sc]
  refine ⟨hsc, ?_, hE.glo, hE.bui, fun x i hx => ?_, hoff⟩
  · show scope.kind = .function
    simpa using ok4
  · have hm := List.all_eq_true.mp ok2 (x, i) (lookup_mem hx)
    have hk : (compEnv' scope cl C env).kindOf x = (relabelS scope cx.sc).names.lookup x := by show (compEnv' scope cl C env).scope.names.lookup x = _; rw [hsc]
    simp only [Bool.or_eq_true, Bool.and_eq_true] at hm
    rcases hm with ⟨htg, hm⟩ | ⟨⟨⟨⟨hf, hnc⟩, hcf⟩, hsl⟩, hout⟩
    · have htg' : (x, i) ∈ tg := by simpa using htg
      have e := ht x i htg'
      rcases hm with ⟨h1, h2⟩ | ⟨h1, h2⟩
      · refine .inl ⟨by rw [hk]; simpa using h1, ?_⟩
        rw [e]; unfold tgLoc
        rw [show scope.names.lookup x = some .local by simpa using h2]; rfl
      · have h2' : scope.names.lookup x = some .cell := by simpa using h2
        obtain ⟨c, hc⟩ := Option.isSome_iff_exists.mp (PySem.W.cellsFrom_some scope.names (C + 1) [] (x := x) (.inl h2'))
        refine .inr ⟨c, .inl (by rw [hk]; simpa using h1), ?_, ?_⟩
        · show (cellsFrom (C + 1) scope.names [] ++ cl).lookup x = some c
          rw [List.lookup_append, hc]; rfl
        · rw [e]; unfold tgLoc; rw [h2']; dsimp only; rw [hc]; rfl
    · have hf' : (x, NameKind.free) ∈ scope.names := by simpa using hf
      have hsl' : cx.sl.lookup x = some i := by simpa using hsl
      have hkk : (compEnv' scope cl C env).kindOf x = some .cell ∨ (compEnv' scope cl C env).kindOf x = some .free := by
        rw [hk]; simpa [isCF] using hcf
      have hko : env.kindOf x = cx.sc.names.lookup x := by show env.scope.names.lookup x = _; rw [hE.sc]
      rcases hE.res x i hsl' with ⟨q, _⟩ | ⟨c, _, q1, q2⟩
      · rw [hko] at q
        rw [q] at hout; simp [isCF] at hout
      · refine .inr ⟨c, hkk, ?_, ho i _ q2⟩
        show (cellsFrom (C + 1) scope.names [] ++ cl).lookup x = some c
        rw [List.lookup_append, cellsFrom_none _ _ _ (List.all_eq_true.mp hnc) []]
        simp only [List.lookup_nil, Option.none_or]
        rw [hcl x hf']; exact q1

/-! a comprehension -/
noncomputable def compG (f : Sem1) : List (List Slot → List Slot) → SemL
  | [] => fun σ => some ([], σ)
  | g :: gs => fun σ => match f (g σ) with
    | some (u, σ₁) => (match compG f gs σ₁ with
      | some (us, σ₂) => some (u :: us, σ₂)
      | none => none)
    | none => none

theorem compLoop_gen {A : Around} {R : Result → Shared → Prop} {s : Shared} {elt target iter : Expr} {scope : Scope} {pos : Pos} {it acc : Value} {env : Env} (I : Nat → Shared → Prop)
    (turn : ∀ n s, I n s → WP G A (pyNext it) (fun r s₁ => match r with
      | none => R (.ok .next) s₁
      | some v => WP G A (letOwnedTupleGo target it v) (fun _ s₂ => WP G A (PySem.assign target env v) (fun _ s₃ => WP G A (eval elt env) (fun x s₄ =>
          WP G A (call (.builtin "list.append") [acc, x]) (fun _ s₅ => ∃ m, m < n ∧ I m s₅) s₄) s₃) s₂) s₁) s)
    (n : Nat) (h : I n s) : codeAny (model G.prog G.w) A (.compLoop (.ListComp elt [⟨target, iter, [], 0⟩] scope pos) 0 it acc env) R s := by
  refine codeAny_loop rfl I (fun n s hI => ?_) n h
  show wpAny _ _ ((compTurn (.ListComp elt [⟨target, iter, [], 0⟩] scope pos) 0 it acc env).onRaise (fun x => do noteFrame x env; theTreesLotGoes x)) _ _ s
  refine wpAny_noted ?_
  rw [compTurn_list1]
  refine wpAny_bind (wpAny_standAt (wpAny_bind (wpAny_mono (turn n s hI) (fun r s₁ h₁ => ?_) fun _ _ q => q.elim)))
  cases r with
  | none => exact wpAny_pure h₁
  | some v =>
    refine wpAny_bind (wpAny_mono h₁ (fun _ s₂ h₂ => ?_) fun _ _ q => q.elim)
    refine wpAny_bind (wpAny_mono h₂ (fun _ s₃ h₃ => wpAny_bind (wpAny_bind (wpAny_mono h₃ (fun x s₄ h₄ => wpAny_bind (wpAny_mono h₄
      (fun _ s₅ h₅ => wpAny_pure (wpAny_pure ⟨rfl, h₅⟩)) fun _ _ q => q.elim)) fun _ _ q => q.elim))) fun _ _ q => q.elim)

theorem plus_grow {B : Zone} {h h' : Heap} {ex : List Addr} (hs : ∀ a ∈ ex, (h.get? a).isSome) (g : Grows h h') : Plus B h ex = Plus B h' ex := by
  funext a o
  refine propext ⟨fun q => q.imp id fun ⟨q1, q2⟩ => ⟨q1, g a o q2⟩, fun q => q.imp id fun ⟨q1, q2⟩ => ⟨q1, ?_⟩⟩
  obtain ⟨o', ho'⟩ := Option.isSome_iff_exists.mp (hs a q1)
  rw [ho', ← q2, g a o' ho']
theorem plus_plus {B : Zone} {h : Heap} {D : Addr} {ex : List Addr} : Plus (Plus B h ex) h [D] = Plus B h (D :: ex) := by
  funext a o
  refine propext ⟨fun q => ?_, fun q => ?_⟩
  · rcases q with (q | ⟨q1, q2⟩) | ⟨q1, q2⟩
    · exact .inl q
    · exact .inr ⟨List.mem_cons_of_mem _ q1, q2⟩
    · exact .inr ⟨by rw [List.mem_singleton.mp q1]; exact List.mem_cons_self, q2⟩
  · rcases q with q | ⟨q1, q2⟩
    · exact .inl (.inl q)
    · rcases List.mem_cons.mp q1 with rfl | q1
      · exact .inr ⟨by simp, q2⟩
      · exact .inl (.inr ⟨q1, q2⟩)

/-- one turn of a comprehension -/
noncomputable def TurnOk (G : Glo) (A : Around) (B Z0 Z₂ : Zone) (locs locs' : Nat → Option Loc) (D : Addr) (ex : List Addr) (St : Nat → Heap → Prop) (target : Expr) (cenv : Env) (it : Value) (gs : List (List Slot → List Slot)) : Prop :=
  ∀ j g, gs[j]? = some g → ∀ Z' σ (s : Shared), Sub Z₂ Z' → St j s.heap → Act G (Plus B s.heap (D :: ex)) Z0 Z' locs' σ s.heap → (∃ items, s.heap.PlainList D items) → ∀ Q : Unit → Shared → Prop,
    (∀ h' tk, St (j + 1) h' → Act G (Plus B h' (D :: ex)) Z0 Z' locs' (g σ) h' → h'.get? D = s.heap.get? D → Ev locs Z' Z' s.heap h' → Q () { s with heap := h', toks := tk }) →
    WP G A (pyNext it) (fun r s₁ => match r with | none => False | some v => WP G A (letOwnedTupleGo target it v) (fun _ s₂ => WP G A (PySem.assign target cenv v) Q s₂) s₁) s
noncomputable def DoneOk (G : Glo) (A : Around) (B Z0 : Zone) (locs locs' : Nat → Option Loc) (D : Addr) (ex : List Addr) (St : Nat → Heap → Prop) (it : Value) (n : Nat) : Prop :=
  ∀ Z' σ (s : Shared), St n s.heap → Act G (Plus B s.heap (D :: ex)) Z0 Z' locs' σ s.heap → (∃ items, s.heap.PlainList D items) → ∀ Q : Shared → Prop,
    (∀ h' tk, Act G (Plus B h' (D :: ex)) Z0 Z' locs' σ h' → h'.get? D = s.heap.get? D → Ev locs Z' Z' s.heap h' → Q { s with heap := h', toks := tk }) →
    WP G A (pyNext it) (fun r s₁ => match r with | none => Q s₁ | some _ => False) s

/-- what stands between the turns -/
inductive CInv (G : Glo) (B Z0 Z₂ : Zone) (locs locs' : Nat → Option Loc) (D : Addr) (ex : List Addr) (f : Sem1) (St : Nat → Heap → Prop) (gs : List (List Slot → List Slot)) (s : Shared) (pre₀ us : List T) (σ₃ : List Slot) (m : Nat) (s' : Shared) : Prop
  | mk (j : Nat) (h' : Heap) (tk : Nat) (Z' : Zone) (σ₂ : List Slot) (items : Array Value) (pre us' : List T) (hm : m + j = gs.length) (hs : s' = { s with heap := h', toks := tk }) (hz' : Ev locs Z₂ Z' s.heap h') (act' : Act G (Plus B h' (D :: ex)) Z0 Z' locs' σ₂ h') (st' : St j h') (hpl' : h'.PlainList D items) (rd' : RdL Z' pre items.toList) (hpre : pre.length = pre₀.length + j) (hus : pre₀ ++ us = pre ++ us') (hf' : compG f (gs.drop j) σ₂ = some (us', σ₃))
theorem comp_core {A : Around} {C : Code} {cx' : Cx} {cenv : Env} {B Z0 Z₂ : Zone} {locs locs' : Nat → Option Loc} {D : Addr} {ex : List Addr} {f : Sem1} {target elt : Expr} {it : Value} {St : Nat → Heap → Prop} {gs : List (List Slot → List Slot)} {R : Result → Shared → Prop} {s : Shared} {us pre₀ : List T} {items₀ : Array Value} {σ σ₃ : List Slot}
    (gen : ∀ (I : Nat → Shared → Prop), (∀ n s, I n s → WP G A (pyNext it) (fun r s₁ => match r with
      | none => R (.ok .next) s₁
      | some v => WP G A (letOwnedTupleGo target it v) (fun _ s₂ => WP G A (PySem.assign target cenv v) (fun _ s₃ => WP G A (eval elt cenv) (fun x s₄ =>
          WP G A (call (.builtin "list.append") [.ref D, x]) (fun _ s₅ => ∃ m, m < n ∧ I m s₅) s₄) s₃) s₂) s₁) s) → ∀ n, I n s → codeAny (model G.prog G.w) A C R s)
    (hA : AOk cx'.k A) (hE' : EnvOk cx' cenv locs') (ho : ∀ i ℓ, locs i = some ℓ → locs' i = some ℓ) (he : SE G cx' elt f) (top : ∀ a o, G.hT.get? a = some o → B a o) (z0 : ∀ a o, Z0 a o → B a o)
    (hD : ∀ o, ¬ B D o) (hDex : D ∉ ex) (hex : ∀ a ∈ ex, ∀ o, ¬ B a o) (alive : ∀ i h, St i h → ∀ a ∈ ex, (h.get? a).isSome)
    (frame : ∀ i h h', St i h → (∀ b ∈ ex, ∀ o, h.get? b = some o → h'.get? b = some o) → (∀ a o, Z₂ a o → h.get? a = some o → h'.get? a = some o) → (∀ a o, Z₂ a o → h.get? a = some o) → St i h')
    (turn : TurnOk G A B Z0 Z₂ locs locs' D ex St target cenv it gs) (done : DoneOk G A B Z0 locs locs' D ex St it gs.length)
    (st : St 0 s.heap) (act : Act G (Plus B s.heap (D :: ex)) Z0 Z₂ locs' σ s.heap) (hpl : s.heap.PlainList D items₀) (rd₀ : RdL Z₂ pre₀ items₀.toList) (hlen₀ : pre₀.length ≤ 1000000) (hlen : gs.length ≤ 1000000) (hf : compG f gs σ = some (us, σ₃))
    (hR : ∀ h' tk Z' items, Ev locs Z₂ Z' s.heap h' → Act G (Plus B h' (D :: ex)) Z0 Z' locs' σ₃ h' → h'.PlainList D items → RdL Z' (pre₀ ++ us) items.toList → R (.ok .next) { s with heap := h', toks := tk }) :
    codeAny (model G.prog G.w) A C R s := by
  refine gen (CInv G B Z0 Z₂ locs locs' D ex f St gs s pre₀ us σ₃) ?_ gs.length
    ⟨0, s.heap, s.toks, Z₂, σ, items₀, pre₀, us, by omega, rfl, Ev.refl _ _ _, act, st, hpl, rd₀, rfl, rfl, by simpa using hf⟩
  rintro m s' ⟨j, h', tk, Z', σ₂, items, pre, us', hm, rfl, hz', act', st', hpl', rd', hpre, hus, hf'⟩
  cases hd : gs.drop j with
  | nil =>
    rw [hd] at hf'
    cases hf'
    have hj : j = gs.length := drop_nil_at hd hm
    subst hj
    refine wpAny_mono (done Z' _ { s with heap := h', toks := tk } st' act' ⟨items, hpl'⟩ (fun s'' => R (.ok .next) s'') fun h₂ tk₂ act₂ q2 q3 => ?_) (fun r s₁ q => ?_) fun _ _ q => q.elim
    · have hpl₂ : h₂.PlainList D items := by obtain ⟨n, hn⟩ := hpl'; exact ⟨n, q2.trans hn⟩
      exact hR h₂ tk₂ Z' items (hz'.trans q3) act₂ hpl₂ (by rw [hus, List.append_nil]; exact rd')
    · cases r with
      | none => exact q
      | some v => exact q.elim
  | cons g rest =>
    rw [hd] at hf'
    have hlt' : j < gs.length := drop_lt hd
    have ht : gs[j]? = some g := drop_at hd
    have hrest : gs.drop (j + 1) = rest := drop_rest hd
    unfold compG at hf'
    split at hf'
    · rename_i u σ₄ e₄
      split at hf'
      · rename_i us₅ σ₅ e₅
        cases hf'
        refine wpAny_mono (turn j g ht Z' σ₂ { s with heap := h', toks := tk } hz'.sub st' act' ⟨items, hpl'⟩ (fun _ s₃ => WP G A (eval elt cenv) (fun x s₄ =>
          WP G A (call (.builtin "list.append") [.ref D, x]) (fun _ s₅ => ∃ m', m' < m ∧ CInv G B Z0 Z₂ locs locs' D ex f St gs s pre₀ us σ₃ m' s₅) s₄) s₃) fun h₂ tk₂ st₂ act₂ q2 q3 => ?_) (fun r s₁ q => ?_) fun _ _ q => q.elim
        · have hpl₂ : h₂.PlainList D items := by obtain ⟨n, hn⟩ := hpl'; exact ⟨n, q2.trans hn⟩
          refine he _ _ _ e₄ A cenv _ Z0 Z' locs' _ hA hE' act₂ _ fun h₃ tk₃ Z₃ v hz₃ act₃ rd₃ => ?_
          have al₂ := alive _ _ st₂
          obtain ⟨oD, hoD, _⟩ := isList_seq hpl₂
          have hexD : ∀ a ∈ D :: ex, (h₂.get? a).isSome ∧ ∀ o, ¬ B a o := fun a ha => by
            rcases List.mem_cons.mp ha with rfl | ha
            · exact ⟨by rw [hoD]; rfl, hD⟩
            · exact ⟨al₂ a ha, hex a ha⟩
          have act₄ : Act G (Plus B h₃ (D :: ex)) Z0 Z₃ locs' σ₄ h₃ := act₃.step top z0 hexD fun _ _ _ q => q
          have hpl₃ : h₃.PlainList D items := by obtain ⟨n, hn⟩ := hpl₂; exact ⟨n, act₃.base D _ (.inr ⟨List.mem_cons_self, hn⟩)⟩
          have st₃ : St (j + 1) h₃ := frame _ _ _ st₂ (fun b hb o q => act₃.base b o (.inr ⟨List.mem_cons_of_mem _ hb, q⟩)) (fun a o q _ => (act₃.zone a o (hz₃.sub _ _ (hz'.sub _ _ q))).1) fun a o q => (act₂.zone a o (hz'.sub _ _ q)).1
          have hsz : items.size = pre₀.length + j := by have := rd'.length; rw [hpre] at this; simpa using this.symm
          refine wpAny_list_append_plain hpl₃ (fun h₅ hl₅ hs₅ => ?_) (by rw [hsz, sizeLine_eq]; omega)
          have ko : ∀ b o, b ≠ D → h₃.get? b = some o → h₅.get? b = some o := fun b o hb q => (hs₅.2 b hb).trans q
          have hexD₃ : ∀ a ∈ D :: ex, (h₃.get? a).isSome ∧ ∀ o, ¬ B a o := fun a ha => by
            refine ⟨?_, (hexD a ha).2⟩
            obtain ⟨o, ho'⟩ := Option.isSome_iff_exists.mp (hexD a ha).1
            rw [act₃.base a o (.inr ⟨ha, ho'⟩)]; rfl
          have act₅ : Act G (Plus B h₅ (D :: ex)) Z0 Z₃ locs' σ₄ h₅ := act₄.step top z0 hexD₃ fun b o hb q => ko b o (fun e => hb (e ▸ List.mem_cons_self)) q
          obtain ⟨oD₃, hoD₃, hsD₃⟩ := isList_seq hpl₃
          have ev₅ : Ev locs Z₃ Z₃ h₃ h₅ := ⟨Sub.refl _, fun i ℓ v hl hv => hv.keep fun o q => ko _ o (fun e => seq_ne_loc hoD₃ hsD₃ hv e.symm) q⟩
          refine ⟨m - 1, by omega, j + 1, h₅, tk₃, Z₃, σ₄, items.push v, pre ++ [u], us₅, by omega, rfl, ((hz'.trans q3).trans ⟨hz₃.sub, fun i ℓ v hl hv => hz₃.stay i ℓ v (ho i ℓ hl) hv⟩).trans ev₅, act₅, ?_, hl₅, ?_, by simp [hpre]; omega, by rw [hus]; simp, by rw [hrest]; exact e₅⟩
          · exact frame _ _ _ st₃ (fun b hb o q => ko b o (fun e => hDex (e ▸ hb)) q) (fun a o q _ => (act₅.zone a o (hz₃.sub _ _ (hz'.sub _ _ q))).1) fun a o q => (act₄.zone a o (hz₃.sub _ _ (hz'.sub _ _ q))).1
          · rw [Array.toList_push]
            exact (rd'.mono hz₃.sub).append (.cons rd₃ .nil)
        · cases r with
          | none => exact q.elim
          | some v => exact q
      · cases hf'
    · cases hf'
theorem comp_loop {A : Around} {cx' : Cx} {cenv : Env} {B Z0 Z₂ : Zone} {locs locs' : Nat → Option Loc} {D : Addr} {ex : List Addr} {f : Sem1} {target elt iter : Expr} {scope : Scope} {pos : Pos} {it : Value} {St : Nat → Heap → Prop} {gs : List (List Slot → List Slot)} {R : Result → Shared → Prop} {s : Shared} {us : List T} {σ σ₃ : List Slot}
    (hA : AOk cx'.k A) (hE' : EnvOk cx' cenv locs') (ho : ∀ i ℓ, locs i = some ℓ → locs' i = some ℓ) (he : SE G cx' elt f) (top : ∀ a o, G.hT.get? a = some o → B a o) (z0 : ∀ a o, Z0 a o → B a o)
    (hD : ∀ o, ¬ B D o) (hDex : D ∉ ex) (hex : ∀ a ∈ ex, ∀ o, ¬ B a o) (alive : ∀ i h, St i h → ∀ a ∈ ex, (h.get? a).isSome)
    (frame : ∀ i h h', St i h → (∀ b ∈ ex, ∀ o, h.get? b = some o → h'.get? b = some o) → (∀ a o, Z₂ a o → h.get? a = some o → h'.get? a = some o) → (∀ a o, Z₂ a o → h.get? a = some o) → St i h')
    (turn : TurnOk G A B Z0 Z₂ locs locs' D ex St target cenv it gs) (done : DoneOk G A B Z0 locs locs' D ex St it gs.length)
    (st : St 0 s.heap) (act : Act G (Plus B s.heap (D :: ex)) Z0 Z₂ locs' σ s.heap) (hpl : s.heap.PlainList D #[]) (hlen : gs.length ≤ 1000000) (hf : compG f gs σ = some (us, σ₃))
    (hR : ∀ h' tk Z' items, Ev locs Z₂ Z' s.heap h' → Act G (Plus B h' (D :: ex)) Z0 Z' locs' σ₃ h' → h'.PlainList D items → RdL Z' us items.toList → R (.ok .next) { s with heap := h', toks := tk }) :
    codeAny (model G.prog G.w) A (.compLoop (.ListComp elt [⟨target, iter, [], 0⟩] scope pos) 0 it (.ref D) cenv) R s :=
  comp_core (fun I turn n h => compLoop_gen I turn n h) hA hE' ho he top z0 hD hDex hex alive frame turn done st act hpl .nil (Nat.zero_le _) hlen hf hR

theorem cellsOk_loc {h : Heap} {lo : Nat} {cs : List (Str × Addr)} (x : CellsOk h lo cs) {n : Str} {c : Addr} (e : cs.lookup n = some c) : h.IsCell c none ∧ lo ≤ c := x.empty n c (lookup_mem e)


theorem none_of_big {h : Heap} {a : Addr} (ha : h.objs.size ≤ a) : h.get? a = none := by
  cases q : h.get? a with
  | none => rfl
  | some o => exact absurd (Heap.lt_size q) (Nat.not_lt.mpr ha)

end
end Mine

namespace Mine
open PySem PySem.W PyProof.Rows PySem.Calls
section
variable {G : Glo} {cx : Cx}

theorem ev_but {B Z0 Z : Zone} {locs locs' : Nat → Option Loc} {σ : List Slot} {h h' : Heap} {ex : List Addr} {h₁ : Heap} (act : Act G (Plus B h₁ ex) Z0 Z locs' σ h) (ho : ∀ i ℓ, locs i = some ℓ → locs' i = some ℓ) (al : ∀ a ∈ ex, (h₁.get? a).isSome)
    (k : ∀ b o, b ∉ ex → h.get? b = some o → h'.get? b = some o) : Ev locs Z Z h h' := ⟨Sub.refl _, fun i ℓ v hl hv => hv.keep fun o q => k _ o (fun hm => by
  obtain ⟨o', ho'⟩ := Option.isSome_iff_exists.mp (al _ hm)
  exact (act.loc i ℓ (ho i ℓ hl)).2 o' (.inr ⟨hm, ho'⟩)) q⟩

theorem plain_some {h : Heap} {D : Addr} (x : ∃ items, h.PlainList D items) : (h.get? D).isSome = true := let ⟨_, _, e⟩ := x; by rw [e]; rfl

theorem turn_single {A : Around} {cx' : Cx} {cenv : Env} {B Z0 Z₂ : Zone} {locs locs' : Nat → Option Loc} {D I : Addr} {ex : List Addr} {St : Nat → Heap → Prop} {x : Str} {px : Pos} {i : Nat} {ts : List T}
    (W : WalkT G A I ex Z₂ ts St) (hE' : EnvOk cx' cenv locs') (hx : cx'.sl.lookup x = some i) (ho : ∀ i ℓ, locs i = some ℓ → locs' i = some ℓ) (hi : locs i = none) (top : ∀ a o, G.hT.get? a = some o → B a o) (z0 : ∀ a o, Z0 a o → B a o)
    (hD : ∀ o, ¬ B D o) (hDex : D ∉ ex) (hex : ∀ a ∈ ex, ∀ o, ¬ B a o) :
    TurnOk G A B Z0 Z₂ locs locs' D ex St (.Name x px) cenv (.ref I) (ts.map fun t (σ : List Slot) => σ.set i (.fro t)) := by
  intro j g hg Z' σ s hz st act hpl Q hQ
  rw [List.getElem?_map] at hg
  obtain ⟨t, ht, rfl⟩ := Option.map_eq_some_iff.mp hg
  have alD := plain_some hpl
  have al := W.alive _ _ st
  have hexD : ∀ a ∈ D :: ex, (s.heap.get? a).isSome ∧ ∀ o, ¬ B a o := fun a ha => by
    rcases List.mem_cons.mp ha with rfl | ha
    · exact ⟨alD, hD⟩
    · exact ⟨al a ha, hex a ha⟩
  refine W.item j t s _ ht st fun v h₂ tk₂ rd st₂ k => ?_
  have k' : ∀ b o, b ∉ D :: ex → s.heap.get? b = some o → h₂.get? b = some o := fun b o hb q => k b o (fun hm => hb (List.mem_cons_of_mem _ hm)) q
  have act₂ := act.step top z0 hexD k'
  have hexD₂ : ∀ a ∈ D :: ex, (h₂.get? a).isSome ∧ ∀ o, ¬ B a o := fun a ha => by
    rcases List.mem_cons.mp ha with rfl | ha
    · obtain ⟨o, ho'⟩ := Option.isSome_iff_exists.mp alD
      exact ⟨by rw [k _ o hDex ho']; rfl, hD⟩
    · exact ⟨W.alive _ _ st₂ a ha, hex a ha⟩
  have hD₂ : h₂.get? D = s.heap.get? D := by
    obtain ⟨o, ho'⟩ := Option.isSome_iff_exists.mp alD
    rw [ho', k _ o hDex ho']
  show WP G A (pure ()) _ _
  refine wpAny_pure ?_
  refine wpAny_assign_Name (store_ok (s := { s with heap := h₂, toks := tk₂ }) hE' act₂ hx fun h₃ tk₃ ℓ hl st₃ => ?_)
  have act₃ := act₂.storeFro hl st₃ (rd.mono hz)
  obtain ⟨u, hu⟩ := st₃.was
  have ks : ∀ b o, h₂.get? b = some o → b ≠ ℓ.addr → h₃.get? b = some o := fun b o q hb => (st₃.same.2 b hb).trans q
  obtain ⟨it₂, hpl₂⟩ := hpl
  obtain ⟨oD, hoD, hsD⟩ := isList_seq hpl₂
  have hDℓ : D ≠ ℓ.addr := seq_ne_loc (hD₂.trans hoD) hsD hu
  refine hQ h₃ tk₃ ?_ (act₃.step top z0 hexD₂ fun _ _ _ q => q) ((st₃.same.2 D hDℓ).trans hD₂) ?_
  · refine W.frame _ _ _ st₂ (fun b hb o q => ?_) (fun a o q _ => (act₃.zone a o (hz _ _ q)).1) fun a o q => (act₂.zone a o (hz _ _ q)).1
    exact act₃.base b o (.inr ⟨List.mem_cons_of_mem _ hb, q⟩)
  · refine (ev_but act ho (fun a ha => (hexD a ha).1) k').trans ⟨Sub.refl _, fun l ℓ' w hl' hw => st₃.other (fun q => ?_) hw⟩
    have := act.inj l i ℓ (q ▸ ho l ℓ' hl') hl
    rw [this, hi] at hl'; cases hl'

theorem done_gen {A : Around} {B Z0 : Zone} {locs locs' : Nat → Option Loc} {D I : Addr} {ex : List Addr} {St : Nat → Heap → Prop} {n : Nat}
    (alive : ∀ i h, St i h → ∀ a ∈ ex, (h.get? a).isSome) (wd : ∀ (s : Shared) (Q : Option Value → Shared → Prop), St n s.heap → (∀ h' tk, (∀ b o, b ∉ ex → s.heap.get? b = some o → h'.get? b = some o) → Q none { s with heap := h', toks := tk }) → WP G A (pyNext (.ref I)) Q s)
    (ho : ∀ i ℓ, locs i = some ℓ → locs' i = some ℓ) (top : ∀ a o, G.hT.get? a = some o → B a o) (z0 : ∀ a o, Z0 a o → B a o)
    (hD : ∀ o, ¬ B D o) (hDex : D ∉ ex) (hex : ∀ a ∈ ex, ∀ o, ¬ B a o) : DoneOk G A B Z0 locs locs' D ex St (.ref I) n := by
  intro Z' σ s st act hpl Q hQ
  have alD := plain_some hpl
  have al := alive _ _ st
  have hexD : ∀ a ∈ D :: ex, (s.heap.get? a).isSome ∧ ∀ o, ¬ B a o := fun a ha => by
    rcases List.mem_cons.mp ha with rfl | ha
    · exact ⟨alD, hD⟩
    · exact ⟨al a ha, hex a ha⟩
  refine wd s _ st fun h₂ tk₂ k => ?_
  have k' : ∀ b o, b ∉ D :: ex → s.heap.get? b = some o → h₂.get? b = some o := fun b o hb q => k b o (fun hm => hb (List.mem_cons_of_mem _ hm)) q
  have hD₂ : h₂.get? D = s.heap.get? D := by
    obtain ⟨o, ho'⟩ := Option.isSome_iff_exists.mp alD
    rw [ho', k _ o hDex ho']
  exact hQ h₂ tk₂ (act.step top z0 hexD k') hD₂ (ev_but act ho (fun a ha => (hexD a ha).1) k')

theorem turn_pair {A : Around} {cx' : Cx} {cenv : Env} {B Z0 Z₂ : Zone} {locs locs' : Nat → Option Loc} {D I : Addr} {ex : List Addr} {St : Nat → Heap → Prop} {Mid : Nat → Addr → Heap → Prop} {x y : Str} {px py tp : Pos} {kk : Nat} {i i' : Nat} {ts : List (T × T)} (hA : A.handled = none)
    (W : WalkP G A I ex Z₂ ts St Mid) (hE' : EnvOk cx' cenv locs') (hx : cx'.sl.lookup x = some i) (hy : cx'.sl.lookup y = some i') (ho : ∀ i ℓ, locs i = some ℓ → locs' i = some ℓ) (hi : locs i = none) (hi' : locs i' = none) (top : ∀ a o, G.hT.get? a = some o → B a o) (z0 : ∀ a o, Z0 a o → B a o)
    (hD : ∀ o, ¬ B D o) (hDex : D ∉ ex) (hex : ∀ a ∈ ex, ∀ o, ¬ B a o) :
    TurnOk G A B Z0 Z₂ locs locs' D ex St (.Tuple [.Name x px, .Name y py] kk tp) cenv (.ref I) (ts.map fun t (σ : List Slot) => (σ.set i (.fro t.1)).set i' (.fro t.2)) := by
  intro j g hg Z' σ s hz st act hpl Q hQ
  rw [List.getElem?_map] at hg
  obtain ⟨⟨t, u⟩, ht, rfl⟩ := Option.map_eq_some_iff.mp hg
  have alD := plain_some hpl
  have al := W.alive _ _ st
  have hexD : ∀ a ∈ D :: ex, (s.heap.get? a).isSome ∧ ∀ o, ¬ B a o := fun a ha => by
    rcases List.mem_cons.mp ha with rfl | ha
    · exact ⟨alD, hD⟩
    · exact ⟨al a ha, hex a ha⟩
  refine W.item j t u s _ ht st (fun a o q => (act.zone a o (hz _ _ q)).1) fun Tp v₁ v₂ h₂ tk₂ r1 r2 hT hmid k => ?_
  refine wpAny_mono (W.go _ _ _ j Tp _ { s with heap := h₂, toks := tk₂ } _ hmid hT fun h₃ st₃ hT₃ k₃ => ?_) (fun _ _ q => q) fun _ _ q => q.elim
  have kk' : ∀ b o, b ∉ ex → s.heap.get? b = some o → h₃.get? b = some o := fun b o hb q => k₃ b o hb (k b o hb q)
  have k' : ∀ b o, b ∉ D :: ex → s.heap.get? b = some o → h₃.get? b = some o := fun b o hb q => kk' b o (fun hm => hb (List.mem_cons_of_mem _ hm)) q
  have act₂ := act.step top z0 hexD k'
  have hexD₂ : ∀ a ∈ D :: ex, (h₃.get? a).isSome ∧ ∀ o, ¬ B a o := fun a ha => by
    rcases List.mem_cons.mp ha with rfl | ha
    · obtain ⟨o, ho'⟩ := Option.isSome_iff_exists.mp alD
      exact ⟨by rw [kk' _ o hDex ho']; rfl, hD⟩
    · exact ⟨W.alive _ _ st₃ a ha, hex a ha⟩
  have hD₂ : h₃.get? D = s.heap.get? D := by
    obtain ⟨o, ho'⟩ := Option.isSome_iff_exists.mp alD
    rw [ho', kk' _ o hDex ho']
  have hn : NamesAt cx' [.Name x px, .Name y py] [i, i'] := .cons hx (.cons hy .nil)
  obtain ⟨l1, l2⟩ := assignEach_names (env := cenv) hn
  refine wpAny_assign_Tuple hA hT₃ (by rw [l1]; rfl) l2 fun h₄ hk => ?_
  have gr : Grows h₃ h₄ := fun b p q => hk b p (Nat.ne_of_lt (Heap.lt_size q)) q
  refine storeAll_stay (s := { s with heap := h₄, toks := tk₂ }) hE' hn (ts := [t, u]) (.cons (r1.mono hz) (.cons (r2.mono hz) .nil)) (act₂.grow gr) fun h₅ tk₅ act₅ stay seqs => ?_
  obtain ⟨it₂, hpl₂⟩ := hpl
  obtain ⟨oD, hoD, hsD⟩ := isList_seq hpl₂
  have act₅' : Act G (Plus B h₃ (D :: ex)) Z0 Z' locs' ((σ.set i (.fro t)).set i' (.fro u)) h₅ := act₅
  refine hQ h₅ tk₅ ?_ (act₅'.step top z0 hexD₂ fun _ _ _ q => q) ((seqs D oD (gr _ _ (hD₂.trans hoD)) hsD).trans hoD.symm) ?_
  · refine W.frame _ _ _ st₃ (fun b hb o q => ?_) (fun a o q _ => (act₅'.zone a o (hz _ _ q)).1) fun a o q => (act₂.zone a o (hz _ _ q)).1
    exact act₅'.base b o (.inr ⟨List.mem_cons_of_mem _ hb, q⟩)
  · refine ((ev_but act ho (fun a ha => (hexD a ha).1) k').trans (.grow (Sub.refl _) gr)).trans ⟨Sub.refl _, fun l ℓ' w hl' hw => stay l ℓ' w (ho l ℓ' hl') (fun hm => ?_) hw⟩
    rcases List.mem_cons.mp hm with rfl | hm
    · rw [hi] at hl'; cases hl'
    · rw [List.mem_singleton.mp hm, hi'] at hl'; cases hl'

/-- from the source to the loop -/
theorem comp_enter {A : Around} {env : Env} {B Z0 Z₂ : Zone} {locs : Nat → Option Loc} {scope : Scope} {cl : List (Str × Addr)} {elt target iter : Expr} {pos : Pos} {σ₂ : List Slot} {s₂ : Shared} {I : Addr} {ex : List Addr}
    {RR : Value → Addr → Result → Shared → Prop} {E : Value → Shared → Prop}
    (act : Act G (Plus B s₂.heap ex) Z0 Z₂ locs σ₂ s₂.heap) (hexS : ∀ a ∈ ex, (s₂.heap.get? a).isSome) (self : ∀ h₄, Grows s₂.heap h₄ → ∀ (s : Shared) (Q : Value → Shared → Prop), s.heap = h₄ → Q (.ref I) s → WP G A (pyIter (.ref I)) Q s)
    (h : ∀ D C h₄, Grows s₂.heap h₄ → h₄.Ns C (fun _ => none) → CellsOk h₄ (C + 1) (cellsFrom (C + 1) scope.names []) → h₄.PlainList D #[] → (∀ o, ¬ B D o) → D ∉ ex → s₂.heap.objs.size ≤ D → D < C → (∀ a, D ≤ a → ∀ o, ¬ B a o) → (∀ a, D ≤ a → a ∉ ex) → Act G (Plus B h₄ (D :: ex)) Z0 Z₂ locs σ₂ h₄ →
      codeAny (model G.prog G.w) A (.compLoop (.ListComp elt [⟨target, iter, [], 0⟩] scope pos) 0 (.ref I) (.ref D) (compEnv' scope cl C env)) (RR (.ref D) C) { s₂ with heap := h₄ }) :
    wpAny (model G.prog G.w) A (newList []) (fun acc s₃ => wpAny (model G.prog G.w) A (newFunctionEnv scope env.globals cl [] env.qual none .none (some env)) (fun cenv s₄ =>
      codeAny (model G.prog G.w) A (.compStart (.ListComp elt [⟨target, iter, [], 0⟩] scope pos) 0 (.ref I) acc { cenv with scope := relabel scope env }) (RR acc cenv.locals) s₄) E s₃) E s₂ := by
  refine wpAny_newObj_type ?_ (by show (0 : Nat) ≤ sizeLine; exact Nat.zero_le _)
  obtain ⟨act₁, hDo, hDb⟩ := alloc_ok (o := { cls := .type "list", data := .seq ([] : List Value).toArray }) act rfl
  refine wpAny_mono (newCompEnv_ok (G := G) (s := { s₂ with heap := s₂.heap.push { cls := .type "list", data := .seq ([] : List Value).toArray } }) (Q := fun cenv s₄ => codeAny (model G.prog G.w) A (.compStart (.ListComp elt [⟨target, iter, [], 0⟩] scope pos) 0 (.ref I) (.ref s₂.heap.objs.size) { cenv with scope := relabel scope env }) (RR (.ref s₂.heap.objs.size) cenv.locals) s₄)
    fun h₄ cenv g₂ hn hcs hce hloc => ?_) (fun _ _ q => q) fun _ _ q => q.elim
  dsimp only at g₂ hn hcs hce hloc
  rw [hce, hloc]
  rw [Heap.size_push] at hn hcs ⊢
  have g : Grows s₂.heap h₄ := (Grows.push _ _).trans g₂
  have big : ∀ a, s₂.heap.objs.size ≤ a → ∀ o, ¬ Plus B s₂.heap ex a o := fun a ha o hb => by
    have := act.base _ _ hb
    rw [none_of_big ha] at this; cases this
  have bigB : ∀ a, s₂.heap.objs.size ≤ a → ∀ o, ¬ B a o := fun a ha o hb => big a ha o (.inl hb)
  have bigE : ∀ a, s₂.heap.objs.size ≤ a → a ∉ ex := fun a ha hm => by
    obtain ⟨o, ho⟩ := Option.isSome_iff_exists.mp (hexS a hm)
    exact big a ha o (.inr ⟨hm, ho⟩)
  have act₂ : Act G (Plus B h₄ (s₂.heap.objs.size :: ex)) Z0 Z₂ locs σ₂ h₄ := by
    have a1 := act.protect g [s₂.heap.objs.size] fun a ha => by rw [List.mem_singleton.mp ha]; exact size_none _
    rw [plus_grow hexS g, plus_plus] at a1
    exact a1
  have loop := h s₂.heap.objs.size (s₂.heap.objs.size + 1) h₄ g hn hcs ⟨_, g₂ _ _ hDo⟩ (bigB _ (Nat.le_refl _)) (bigE _ (Nat.le_refl _)) (Nat.le_refl _) (Nat.lt_succ_self _) bigB bigE act₂
  exact codeAny_compStart_list loop (wpAny_mono (self h₄ g _ (fun v s' => v = .ref I ∧ s' = { s₂ with heap := h₄ }) rfl ⟨rfl, rfl⟩) (fun v s' q => by obtain ⟨rfl, rfl⟩ := q; exact loop) fun _ _ q => q.elim)
end
end Mine

namespace Mine
open PySem PySem.W PyProof.Rows PySem.Calls
section
variable {G : Glo} {cx : Cx}

theorem tgLoc_facts' {scope : Scope} {h' : Heap} {C : Addr} {x : Str} {ℓ : Loc} (hn : h'.Ns C fun _ => none) (hc : CellsOk h' (C + 1) (cellsFrom (C + 1) scope.names [])) (e : tgLoc scope C x = some ℓ) :
    (∃ v, LocIs h' ℓ v) ∧ C ≤ ℓ.addr := by
  unfold tgLoc at e
  split at e
  · cases e; exact ⟨⟨none, _, hn, rfl⟩, Nat.le_refl _⟩
  · rename_i q
    obtain ⟨c, hc', rfl⟩ := Option.map_eq_some_iff.mp e
    obtain ⟨h1, h2⟩ := cellsOk_loc hc hc'
    exact ⟨⟨none, h1⟩, Nat.le_of_succ_le h2⟩
  · cases e

theorem plus_drop {B : Zone} {h : Heap} {D : Addr} {ex : List Addr} : Plus (Plus B h [D]) h ex = Plus B h (D :: ex) := by
  funext a o
  refine propext ⟨fun q => ?_, fun q => ?_⟩
  · rcases q with (q | ⟨q1, q2⟩) | ⟨q1, q2⟩
    · exact .inl q
    · exact .inr ⟨by rw [List.mem_singleton.mp q1]; exact List.mem_cons_self, q2⟩
    · exact .inr ⟨List.mem_cons_of_mem _ q1, q2⟩
  · rcases q with q | ⟨q1, q2⟩
    · exact .inl (.inl q)
    · rcases List.mem_cons.mp q1 with rfl | q1
      · exact .inl (.inr ⟨by simp, q2⟩)
      · exact .inr ⟨q1, q2⟩

theorem Act.dropTail {B Z0 Z : Zone} {locs : Nat → Option Loc} {σ : List Slot} {h h₁ : Heap} {D : Addr} {ex : List Addr} (x : Act G (Plus B h₁ (D :: ex)) Z0 Z locs σ h) (ht : ∀ a o, G.hT.get? a = some o → B a o) (hz : ∀ a o, Z0 a o → B a o) : Act G (Plus B h₁ [D]) Z0 Z locs σ h := by
  rw [← plus_drop] at x
  exact x.drop (fun a o q => .inl (ht a o q)) fun a o q => .inl (hz a o q)

noncomputable def isLC (k : Option NameKind) : Bool := k == some .local || k == some .cell
theorem tgLoc_some {scope : Scope} {x : Str} (h : isLC (scope.names.lookup x) = true) (C : Addr) : ∃ ℓ, tgLoc scope C x = some ℓ := by
  unfold isLC at h
  simp only [Bool.or_eq_true, beq_iff_eq] at h
  unfold tgLoc
  rcases h with h | h
  · rw [h]; exact ⟨_, rfl⟩
  · rw [h]
    obtain ⟨c, hc⟩ := Option.isSome_iff_exists.mp (PySem.W.cellsFrom_some scope.names (C + 1) [] (x := x) (.inl h))
    rw [hc]; exact ⟨_, rfl⟩

/-- what is known at the end of a comprehension -/
noncomputable def CompEnd (G : Glo) (B Z0 Z₂ : Zone) (locs : Nat → Option Loc) (σ' : List Slot) (us : List T) (s₂ : Shared) (RR : Value → Addr → Result → Shared → Prop) : Prop :=
  ∀ D C h' tk Z' items, Ev locs Z₂ Z' s₂.heap h' → Act G (Plus B h' [D]) Z0 Z' locs σ' h' → h'.PlainList D items → RdL Z' us items.toList → (∀ o, ¬ B D o) → (∃ m, h'.Ns C m) → (∀ j ℓ, locs j = some ℓ → ℓ.addr ≠ C) → (∀ o, ¬ B C o) → D ≠ C →
    RR (.ref D) C (.ok .next) { s₂ with heap := h', toks := tk }

theorem loc_old {B Z0 Z : Zone} {locs : Nat → Option Loc} {σ : List Slot} {h : Heap} (act : Act G B Z0 Z locs σ h) {i : Nat} {ℓ : Loc} (e : locs i = some ℓ) : ℓ.addr < h.objs.size := by
  obtain ⟨v, hv⟩ := (act.loc i ℓ e).1
  obtain ⟨o, ho, _⟩ := hv.there
  exact Heap.lt_size ho

theorem comp_single {A : Around} {env : Env} {B Z0 Z₂ : Zone} {locs : Nat → Option Loc} {scope : Scope} {cl : List (Str × Addr)} {elt iter : Expr} {x : Str} {px pos : Pos} {f : Sem1} {sl' : List (Str × Nat)} {ts us : List T} {σ₂ σ₃ : List Slot} {s₂ : Shared} {I : Addr} {ex : List Addr} {St : Nat → Heap → Prop}
    {RR : Value → Addr → Result → Shared → Prop} {E : Value → Shared → Prop} (hA : AOk cx.k A) (hE : EnvOk cx env locs) (ok : compOk cx scope sl' [(x, cx.n)] = true) (hcl : ∀ x, (x, NameKind.free) ∈ scope.names → cl.lookup x = env.cells.lookup x)
    (hl : scope.names.lookup x = some .local) (hx : sl'.lookup x = some cx.n) (he : SE G ⟨relabelS scope cx.sc, sl', cx.k, cx.n + 1⟩ elt f) (top : ∀ a o, G.hT.get? a = some o → B a o) (z0 : ∀ a o, Z0 a o → B a o)
    (act : Act G (Plus B s₂.heap ex) Z0 Z₂ locs σ₂ s₂.heap) (hex : ∀ a ∈ ex, ∀ o, ¬ B a o) (W : WalkT G A I ex Z₂ ts St) (st : St 0 s₂.heap) (hlen : ts.length ≤ 1000000)
    (hf : compG f (ts.map fun t (σ : List Slot) => σ.set cx.n (.fro t)) σ₂ = some (us, σ₃)) (hR : CompEnd G B Z0 Z₂ locs (σ₃.set cx.n .un) us s₂ RR) :
    wpAny (model G.prog G.w) A (newList []) (fun acc s₃ => wpAny (model G.prog G.w) A (newFunctionEnv scope env.globals cl [] env.qual none .none (some env)) (fun cenv s₄ =>
      codeAny (model G.prog G.w) A (.compStart (.ListComp elt [⟨.Name x px, iter, [], 0⟩] scope pos) 0 (.ref I) acc { cenv with scope := relabel scope env }) (RR acc cenv.locals) s₄) E s₃) E s₂ := by
  have hn : locs cx.n = none := hE.off _ (Nat.le_refl _)
  have zst : ∀ {h₄ : Heap}, Grows s₂.heap h₄ → St 0 h₄ := fun g => W.frame _ _ _ st (fun b _ o q => g b o q) (fun a o _ q => g a o q) fun a o q => (act.zone a o q).1
  refine comp_enter act (W.alive _ _ st) (fun h₄ g s Q e hq => W.self 0 s Q (e ▸ zst g) hq) fun D C h₄ g hns hcs hpl hDb hDex hDs hDC bigB bigE act₄ => ?_
  have hℓ : tgLoc scope C x = some (.loc C x) := by unfold tgLoc; rw [hl]
  have ho : ∀ i ℓ, locs i = some ℓ → updL locs cx.n (.loc C x) i = some ℓ := fun i ℓ e => by
    rw [updL_ne]; exact e
    rintro rfl; rw [hn] at e; cases e
  have old : ∀ j ℓ', locs j = some ℓ' → ℓ'.addr < D := fun j ℓ' e => Nat.lt_of_lt_of_le (loc_old act e) hDs
  have act₅ : Act G (Plus B h₄ (D :: ex)) Z0 Z₂ (updL locs cx.n (.loc C x)) σ₂ h₄ := by
    refine act₄.enter hn ⟨none, _, hns, rfl⟩ (fun o q => ?_) fun j ℓ' e q => ?_
    · rcases q with q | ⟨q, _⟩
      · exact bigB C (Nat.le_of_lt hDC) o q
      · rcases List.mem_cons.mp q with q | q
        · have : C = D := q
          rw [this] at hDC; exact Nat.lt_irrefl _ hDC
        · exact bigE C (Nat.le_of_lt hDC) q
    · have := old j ℓ' e
      rw [q] at this
      exact Nat.lt_irrefl _ (Nat.lt_trans this hDC)
  have hE' : EnvOk ⟨relabelS scope cx.sc, sl', cx.k, cx.n + 1⟩ (compEnv' scope cl C env) (updL locs cx.n (.loc C x)) := by
    refine compEnvOk hE ok hcl (fun y i hy => ?_) ho fun i hi => ?_
    · rw [List.mem_singleton] at hy; cases hy
      rw [updL_same, hℓ]
    · rw [updL_ne (by omega)]; exact hE.off i (by omega)
  refine comp_loop (G := G) (cx' := ⟨relabelS scope cx.sc, sl', cx.k, cx.n + 1⟩) (B := B) (Z0 := Z0) (Z₂ := Z₂) (locs := locs) (ex := ex) (St := St) (gs := ts.map fun t (σ : List Slot) => σ.set cx.n (.fro t)) hA hE' ho he top z0 hDb hDex hex W.alive W.frame (turn_single W hE' hx ho hn top z0 hDb hDex hex)
    (done_gen W.alive (fun s Q st' hQ => W.done s Q (by simpa using st') hQ) ho top z0 hDb hDex hex) (zst g) act₅ hpl (by simpa using hlen) hf ?_
  intro h' tk Z' items ev act' hpl' rd'
  have hC : ∃ m, h'.Ns C m := by
    obtain ⟨v, m, hm, _⟩ := (act'.loc cx.n _ updL_same).1
    exact ⟨m, hm⟩
  exact hR D C h' tk Z' items ((Ev.grow (Sub.refl _) g).trans ev) ((act'.leave hn).dropTail top z0) hpl' rd' hDb hC (fun j ℓ e q => Nat.lt_irrefl _ (Nat.lt_trans (q ▸ old j ℓ e) hDC)) (bigB C (Nat.le_of_lt hDC)) (Nat.ne_of_lt hDC)

theorem comp_pair {A : Around} {env : Env} {B Z0 Z₂ : Zone} {locs : Nat → Option Loc} {scope : Scope} {cl : List (Str × Addr)} {elt iter : Expr} {x y : Str} {px py tp pos : Pos} {kk : Nat} {f : Sem1} {sl' : List (Str × Nat)} {ts : List (T × T)} {us : List T} {σ₂ σ₃ : List Slot} {s₂ : Shared} {I : Addr} {ex : List Addr} {St : Nat → Heap → Prop} {Mid : Nat → Addr → Heap → Prop}
    {RR : Value → Addr → Result → Shared → Prop} {E : Value → Shared → Prop} (hA : AOk cx.k A) (hE : EnvOk cx env locs) (ok : compOk cx scope sl' [(x, cx.n), (y, cx.n + 1)] = true) (hcl : ∀ x, (x, NameKind.free) ∈ scope.names → cl.lookup x = env.cells.lookup x)
    (hl : isLC (scope.names.lookup x) = true) (hl' : scope.names.lookup y = some .local) (hxy : x ≠ y) (hx : sl'.lookup x = some cx.n) (hy : sl'.lookup y = some (cx.n + 1)) (he : SE G ⟨relabelS scope cx.sc, sl', cx.k, cx.n + 2⟩ elt f) (top : ∀ a o, G.hT.get? a = some o → B a o) (z0 : ∀ a o, Z0 a o → B a o)
    (act : Act G (Plus B s₂.heap ex) Z0 Z₂ locs σ₂ s₂.heap) (hex : ∀ a ∈ ex, ∀ o, ¬ B a o) (W : WalkP G A I ex Z₂ ts St Mid) (st : St 0 s₂.heap) (hlen : ts.length ≤ 1000000)
    (hf : compG f (ts.map fun t (σ : List Slot) => (σ.set cx.n (.fro t.1)).set (cx.n + 1) (.fro t.2)) σ₂ = some (us, σ₃)) (hR : CompEnd G B Z0 Z₂ locs ((σ₃.set (cx.n + 1) .un).set cx.n .un) us s₂ RR) :
    wpAny (model G.prog G.w) A (newList []) (fun acc s₃ => wpAny (model G.prog G.w) A (newFunctionEnv scope env.globals cl [] env.qual none .none (some env)) (fun cenv s₄ =>
      codeAny (model G.prog G.w) A (.compStart (.ListComp elt [⟨.Tuple [.Name x px, .Name y py] kk tp, iter, [], 0⟩] scope pos) 0 (.ref I) acc { cenv with scope := relabel scope env }) (RR acc cenv.locals) s₄) E s₃) E s₂ := by
  have hn : locs cx.n = none := hE.off _ (Nat.le_refl _)
  have hn₁ : locs (cx.n + 1) = none := hE.off _ (Nat.le_succ _)
  have zst : ∀ {h₄ : Heap}, Grows s₂.heap h₄ → St 0 h₄ := fun g => W.frame _ _ _ st (fun b _ o q => g b o q) (fun a o _ q => g a o q) fun a o q => (act.zone a o q).1
  refine comp_enter act (W.alive _ _ st) (fun h₄ g s Q e hq => W.self 0 s Q (e ▸ zst g) hq) fun D C h₄ g hns hcs hpl hDb hDex hDs hDC bigB bigE act₄ => ?_
  have hℓ' : tgLoc scope C y = some (.loc C y) := by unfold tgLoc; rw [hl']
  obtain ⟨ℓ, hℓ⟩ := tgLoc_some hl C
  obtain ⟨hv, hge⟩ := tgLoc_facts' hns hcs hℓ
  have hne : ℓ ≠ .loc C y := by
    unfold tgLoc at hℓ
    split at hℓ
    · cases hℓ; intro q; injection q with _ q; exact hxy q
    · obtain ⟨c, _, rfl⟩ := Option.map_eq_some_iff.mp hℓ; intro q; cases q
    · cases hℓ
  have old : ∀ j ℓ', locs j = some ℓ' → ℓ'.addr < D := fun j ℓ' e => Nat.lt_of_lt_of_le (loc_old act e) hDs
  have offB : ∀ {ℓ₁ : Loc}, C ≤ ℓ₁.addr → ∀ o, ¬ Plus B h₄ (D :: ex) ℓ₁.addr o := fun {ℓ₁} hc o q => by
    rcases q with q | ⟨q, _⟩
    · exact bigB _ (Nat.le_trans (Nat.le_of_lt hDC) hc) o q
    · rcases List.mem_cons.mp q with q | q
      · have h1 := Nat.lt_of_lt_of_le hDC hc
        have : ℓ₁.addr = D := q
        rw [this] at h1; exact Nat.lt_irrefl _ h1
      · exact bigE _ (Nat.le_trans (Nat.le_of_lt hDC) hc) q
  have ho₁ : ∀ i ℓ₁, locs i = some ℓ₁ → updL locs cx.n ℓ i = some ℓ₁ := fun i ℓ₁ e => by
    rw [updL_ne]; exact e
    rintro rfl; rw [hn] at e; cases e
  have hn₂ : updL locs cx.n ℓ (cx.n + 1) = none := by rw [updL_ne (by omega)]; exact hn₁
  have act₅ : Act G (Plus B h₄ (D :: ex)) Z0 Z₂ (updL locs cx.n ℓ) σ₂ h₄ := act₄.enter hn hv (offB hge) fun j ℓ' e q => by
    have := old j ℓ' e
    rw [q] at this
    exact Nat.lt_irrefl _ (Nat.lt_of_lt_of_le (Nat.lt_trans this hDC) hge)
  have act₆ : Act G (Plus B h₄ (D :: ex)) Z0 Z₂ (updL (updL locs cx.n ℓ) (cx.n + 1) (.loc C y)) σ₂ h₄ := act₅.enter hn₂ ⟨none, _, hns, rfl⟩ (offB (ℓ₁ := .loc C y) (Nat.le_refl _)) fun j ℓ' e q => by
    by_cases hj : j = cx.n
    · subst hj; rw [updL_same] at e; cases e; exact hne q
    · rw [updL_ne hj] at e
      have := old j ℓ' e
      rw [q] at this
      exact Nat.lt_irrefl _ (Nat.lt_trans this hDC)
  have ho : ∀ i ℓ₁, locs i = some ℓ₁ → updL (updL locs cx.n ℓ) (cx.n + 1) (.loc C y) i = some ℓ₁ := fun i ℓ₁ e => by
    rw [updL_ne]; exact ho₁ i ℓ₁ e
    rintro rfl; rw [hn₁] at e; cases e
  have hE' : EnvOk ⟨relabelS scope cx.sc, sl', cx.k, cx.n + 2⟩ (compEnv' scope cl C env) (updL (updL locs cx.n ℓ) (cx.n + 1) (.loc C y)) := by
    refine compEnvOk hE ok hcl (fun z i hz => ?_) ho fun i hi => ?_
    · rcases List.mem_cons.mp hz with e | hz
      · cases e; rw [updL_ne (by omega), updL_same, hℓ]
      · rw [List.mem_singleton] at hz; cases hz
        rw [updL_same, hℓ']
    · rw [updL_ne (by omega), updL_ne (by omega)]; exact hE.off i (by omega)
  refine comp_loop (G := G) (cx' := ⟨relabelS scope cx.sc, sl', cx.k, cx.n + 2⟩) (B := B) (Z0 := Z0) (Z₂ := Z₂) (locs := locs) (ex := ex) (St := St) (gs := ts.map fun t (σ : List Slot) => (σ.set cx.n (.fro t.1)).set (cx.n + 1) (.fro t.2)) hA hE' ho he top z0 hDb hDex hex W.alive W.frame (turn_pair hA.handled W hE' hx hy ho hn hn₁ top z0 hDb hDex hex)
    (done_gen W.alive (fun s Q st' hQ => W.done s Q (by simpa using st') hQ) ho top z0 hDb hDex hex) (zst g) act₆ hpl (by simpa using hlen) hf ?_
  intro h' tk Z' items ev act' hpl' rd'
  have hC : ∃ m, h'.Ns C m := by
    obtain ⟨v, m, hm, _⟩ := (act'.loc (cx.n + 1) _ updL_same).1
    exact ⟨m, hm⟩
  exact hR D C h' tk Z' items ((Ev.grow (Sub.refl _) g).trans ev) (((act'.leave hn₂).leave hn).dropTail top z0) hpl' rd' hDb hC (fun j ℓ e q => Nat.lt_irrefl _ (Nat.lt_trans (q ▸ old j ℓ e) hDC)) (bigB C (Nat.le_of_lt hDC)) (Nat.ne_of_lt hDC)

theorem clos_of {env : Env} {locs : Nat → Option Loc} {scope : Scope} {sl' tg : List (Str × Nat)} (hE : EnvOk cx env locs) (ok : compOk cx scope sl' tg = true) : ∃ cl, closureFor scope env = pure cl ∧ ∀ x, (x, NameKind.free) ∈ scope.names → cl.lookup x = env.cells.lookup x := by
  simp only [compOk, Bool.and_eq_true] at ok
  refine closureFor_ok fun x hx => ?_
  have := List.all_eq_true.mp ok.1.1.1 _ hx
  simp only [beq_self_eq_true, Bool.not_true, Bool.false_or, Bool.and_eq_true] at this
  obtain ⟨i, hi⟩ := Option.isSome_iff_exists.mp this.1
  rcases hE.res x i hi with ⟨q, _⟩ | ⟨c, _, q, _⟩
  · have hko : env.kindOf x = cx.sc.names.lookup x := by show env.scope.names.lookup x = _; rw [hE.sc]
    rw [hko] at q
    have h2 := this.2
    rw [q] at h2; simp [isCF] at h2
  · rw [q]; rfl
theorem names_of {scope : Scope} {sl' tg : List (Str × Nat)} (ok : compOk cx scope sl' tg = true) : scope.kind = .function ∧ ∀ x ∈ scope.names, x.2 = .local → scope.names.lookup x.1 = some .local := by
  simp only [compOk, Bool.and_eq_true] at ok
  refine ⟨by simpa using ok.2, fun x hx hl => ?_⟩
  have := List.all_eq_true.mp ok.1.2 x hx
  rw [hl] at this; simpa using this

noncomputable def compC (n : Nat) (it : SemL) (f : Sem1) : SemL := fun σ => match it σ with
  | some (ts, σ₁) => if ts.length ≤ 1000000 then (match compG f (ts.map fun t (σ : List Slot) => σ.set n (.fro t)) σ₁ with
    | some (us, σ₂) => some (us, σ₂.set n .un)
    | none => none) else none
  | none => none
noncomputable def compPC (n : Nat) (it : SemLP) (f : Sem1) : SemL := fun σ => match it σ with
  | some (ts, σ₁) => if ts.length ≤ 1000000 then (match compG f (ts.map fun t (σ : List Slot) => (σ.set n (.fro t.1)).set (n + 1) (.fro t.2)) σ₁ with
    | some (us, σ₂) => some (us, (σ₂.set (n + 1) .un).set n .un)
    | none => none) else none
  | none => none

/-- a list comprehension: use none -/
noncomputable def SC (G : Glo) (cx : Cx) (e : Expr) (f : SemL) : Prop :=
  ∀ σ us σ', f σ = some (us, σ') → ∀ A env B Z0 Z locs s, AOk cx.k A → EnvOk cx env locs → Act G B Z0 Z locs σ s.heap → ∀ (use : Option (Value → Sem Unit)) (Q : Value → Shared → Prop),
    (∀ Z₂ s₂, Ev locs Z Z₂ s.heap s₂.heap → (∃ h' tk, s₂ = { s with heap := h', toks := tk }) → CompEnd G B Z0 Z₂ locs σ' us s₂ (compPost (model G.prog G.w) A (fun _ _ => False) use Q)) →
    match e with
    | .ListComp elt gens scope pos => WP G A (comprehension e scope env (firstIterPos gens pos) (newList []) (firstAsync gens) (firstIter gens env) use) Q s
    | _ => False

theorem SC.comp {elt iter : Expr} {scope : Scope} {x : Str} {px pos : Pos} {f : Sem1} {it : SemL} {sl' : List (Str × Nat)} (hit : SI G cx iter it) (ok : compOk cx scope sl' [(x, cx.n)] = true)
    (hl : scope.names.lookup x = some .local) (hx : sl'.lookup x = some cx.n) (he : SE G ⟨relabelS scope cx.sc, sl', cx.k, cx.n + 1⟩ elt f) (hs : ∀ env v, foldedSetIterable iter env v = pure v := by intro _ _; rfl) :
    SC G cx (.ListComp elt [⟨.Name x px, iter, [], 0⟩] scope pos) (compC cx.n it f) := by
  intro σ us σ' hf A env B Z0 Z locs s hA hE hAct use Q hQ
  unfold compC at hf
  split at hf
  · rename_i ts σ₁ e₁
    split at hf
    · rename_i hlen
      split at hf
      · rename_i us' σ₂ e₂
        cases hf
        obtain ⟨cl, hclos, hcl⟩ := clos_of hE ok
        obtain ⟨hkind, hnames⟩ := names_of ok
        show WP G A (comprehension _ _ _ _ _ false (eval iter env) use) Q s
        refine wpAny_comprehension_free rfl (hs env) hclos hkind hnames (wpAny_mono (hit _ _ _ e₁ A env B Z0 Z locs s hA hE hAct (fun v s₂ => ∃ h' tk Z' I ex St, Ev locs Z Z' s.heap h' ∧ Act G (Plus B h' ex) Z0 Z' locs σ₁ h' ∧ (∀ a ∈ ex, ∀ o, ¬ B a o) ∧ WalkT G A I ex Z' ts St ∧ St 0 h' ∧ v = .ref I ∧ s₂ = { s with heap := h', toks := tk }) fun h₁ tk₁ Z₁ I ex St hz act hex hlt W st => ⟨h₁, tk₁, Z₁, I, ex, St, hz, act, hex, W, st, rfl, rfl⟩) (fun v s₁ q => wpAny_mono q (fun it s₂ q => ?_) fun _ _ q => q.elim) fun _ _ q => q.elim)
        obtain ⟨h₁, tk₁, Z₁, I, ex, St, hz, act, hex, W, st, rfl, rfl⟩ := q
        exact comp_single (s₂ := { s with heap := h₁, toks := tk₁ }) (RR := fun acc C => compPost (model G.prog G.w) A (fun _ _ => False) use Q acc C) hA hE ok hcl hl hx he hAct.top hAct.z0 act hex W st hlen e₂ (hQ Z₁ _ hz ⟨_, _, rfl⟩)
      · cases hf
    · cases hf
  · cases hf

theorem SC.compP {elt iter : Expr} {scope : Scope} {x y : Str} {px py tp pos : Pos} {kk : Nat} {f : Sem1} {it : SemLP} {sl' : List (Str × Nat)} (hit : SI2 G cx iter it) (ok : compOk cx scope sl' [(x, cx.n), (y, cx.n + 1)] = true)
    (hl : isLC (scope.names.lookup x) = true) (hl' : scope.names.lookup y = some .local) (hxy : x ≠ y) (hx : sl'.lookup x = some cx.n) (hy : sl'.lookup y = some (cx.n + 1)) (he : SE G ⟨relabelS scope cx.sc, sl', cx.k, cx.n + 2⟩ elt f) (hs : ∀ env v, foldedSetIterable iter env v = pure v := by intro _ _; rfl) :
    SC G cx (.ListComp elt [⟨.Tuple [.Name x px, .Name y py] kk tp, iter, [], 0⟩] scope pos) (compPC cx.n it f) := by
  intro σ us σ' hf A env B Z0 Z locs s hA hE hAct use Q hQ
  unfold compPC at hf
  split at hf
  · rename_i ts σ₁ e₁
    split at hf
    · rename_i hlen
      split at hf
      · rename_i us' σ₂ e₂
        cases hf
        obtain ⟨cl, hclos, hcl⟩ := clos_of hE ok
        obtain ⟨hkind, hnames⟩ := names_of ok
        show WP G A (comprehension _ _ _ _ _ false (eval iter env) use) Q s
        refine wpAny_comprehension_free rfl (hs env) hclos hkind hnames (wpAny_mono (hit _ _ _ e₁ A env B Z0 Z locs s hA hE hAct (fun v s₂ => ∃ h' tk Z' I ex St Mid, Ev locs Z Z' s.heap h' ∧ Act G (Plus B h' ex) Z0 Z' locs σ₁ h' ∧ (∀ a ∈ ex, ∀ o, ¬ B a o) ∧ WalkP G A I ex Z' ts St Mid ∧ St 0 h' ∧ v = .ref I ∧ s₂ = { s with heap := h', toks := tk }) fun h₁ tk₁ Z₁ I ex St Mid hz act hex hlt W st => ⟨h₁, tk₁, Z₁, I, ex, St, Mid, hz, act, hex, W, st, rfl, rfl⟩) (fun v s₁ q => wpAny_mono q (fun it s₂ q => ?_) fun _ _ q => q.elim) fun _ _ q => q.elim)
        obtain ⟨h₁, tk₁, Z₁, I, ex, St, Mid, hz, act, hex, W, st, rfl, rfl⟩ := q
        exact comp_pair (s₂ := { s with heap := h₁, toks := tk₁ }) (RR := fun acc C => compPost (model G.prog G.w) A (fun _ _ => False) use Q acc C) hA hE ok hcl hl hl' hxy hx hy he hAct.top hAct.z0 act hex W st hlen e₂ (hQ Z₁ _ hz ⟨_, _, rfl⟩)
      · cases hf
    · cases hf
  · cases hf

noncomputable def ownC (f : SemL) : SemX := fun σ => match f σ with
  | some (us, σ₁) => some (.own us, σ₁)
  | none => none

theorem ns_noseq {h : Heap} {C : Addr} (hn : ∃ m, h.Ns C m) : ∃ o, h.get? C = some o ∧ ¬ IsSeq o := by
  obtain ⟨m, o, es, ep, ho, hd, _⟩ := hn
  exact ⟨o, ho, fun ⟨i, n, q⟩ => by rw [hd] at q; cases q⟩

theorem SX.comp {elt : Expr} {gens : List Comprehension} {scope : Scope} {pos : Pos} {f : SemL} (h : SC G cx (.ListComp elt gens scope pos) f) : SX G cx (.ListComp elt gens scope pos) (ownC f) := by
  intro σ sl σ' hf A env B Z0 Z locs s hA hE hAct Q hQ
  unfold ownC at hf
  split at hf
  · rename_i us σ₁ e₁
    cases hf
    rw [eval_ListComp]
    refine h _ _ _ e₁ A env B Z0 Z locs s hA hE hAct none Q fun Z₂ s₂ ev hs₂ => ?_
    obtain ⟨h₂, tk₂, rfl⟩ := hs₂
    intro D C h' tk Z' items ev' act' hpl' rd' hDb hC hCl hCB hDC
    obtain ⟨oC, hoC, hCs⟩ := ns_noseq hC
    obtain ⟨m, hm⟩ := hC
    refine ⟨m, hm, fun h'' hs => ?_⟩
    have ko : ∀ b o, b ≠ C → h'.get? b = some o → h''.get? b = some o := fun b o hb q => (hs.2 b hb).trans q
    have act₂ : Act G (Plus B h' [D]) Z0 Z' locs σ' h'' := act'.change ko (fun o q => q.elim (hCB o) fun z => hDC (by rw [List.mem_singleton.mp z.1])) ⟨oC, hoC, hCs⟩ hCl
    have hpl'' : h''.PlainList D items := hpl'.at fun o q => ko D o hDC q
    obtain ⟨oD, hoD, _⟩ := isList_seq hpl'
    refine hQ h'' tk Z' (.ref D) [D] ((ev.trans ev').trans ⟨Sub.refl _, fun i ℓ v hl hv => hv.keep fun o q => ko _ o (hCl i ℓ hl) q⟩) ?_ (fun a ha => by rw [List.mem_singleton.mp ha]; exact hDb) ⟨D, items, rfl, rfl, hpl'', rd'⟩
    exact act₂.step hAct.top hAct.z0 (fun a ha => by rw [List.mem_singleton.mp ha]; exact ⟨by rw [hoD]; rfl, hDb⟩) fun _ _ _ q => q
  · cases hf

theorem SS.assignComp {x : Str} {p pos cp : Pos} {elt : Expr} {gens : List Comprehension} {scope : Scope} {i : Nat} {f : SemL} (hv : SC G cx (.ListComp elt gens scope cp) f) (hx : cx.sl.lookup x = some i)
    (hs : ∀ env : Env, env.scope = cx.sc → swapsWith (.ListComp elt gens scope cp) (some (.Name x p)) pos.line env = pure true) :
    SS G cx (.Assign [.Name x p] (.ListComp elt gens scope cp) pos) (assignC i (ownC f)) := by
  intro σ t σ' hf A env B Z0 Z locs s hA hE hAct Q hQ
  unfold assignC ownC at hf
  split at hf
  · rename_i sl σ₁ e₁
    split at e₁
    · rename_i us σ₂ e₂
      cases e₁
      cases hf
      rw [exec_Assign_Name_used _ _ _ _ (hs env hE.sc)]
      refine wpAny_bind (wpAny_standAt (wpAny_bind ?_))
      show WP G A (do let _ ← comprehension (.ListComp elt gens scope cp) scope env (firstIterPos gens cp) (newList []) (firstAsync gens) (firstIter gens env) (some (PySem.assign (.Name x p) env))) _ s
      refine wpAny_bind (wpAny_mono (hv _ _ _ e₂ A env B Z0 Z locs s hA hE hAct (some (PySem.assign (.Name x p) env)) (fun _ s' => Q .next s') fun Z₂ s₂ ev hs₂ => ?_) (fun _ s' hq => wpAny_pure (wpAny_pure hq)) fun _ _ e => e)
      obtain ⟨h₂, tk₂, rfl⟩ := hs₂
      intro D C h' tk Z' items ev' act' hpl' rd' hDb hC hCl hCB hDC
      obtain ⟨oC, hoC, hCs⟩ := ns_noseq hC
      obtain ⟨m, hm⟩ := hC
      show WP G A (PySem.assign (.Name x p) env (.ref D)) _ _
      refine wpAny_assign_Name (store_ok (s := { s with heap := h', toks := tk }) hE act' hx fun h₃ tk₃ ℓ hl st => ?_)
      have hCℓ : C ≠ ℓ.addr := fun q => hCl i ℓ hl q.symm
      refine ⟨m, hm.at fun o q => (st.same.2 C hCℓ).trans q, fun h'' hs => ?_⟩
      have hsv : SlotVal Z' h' (.own us) (.ref D) [D] := ⟨D, items, rfl, rfl, hpl', rd'⟩
      have act₃ := act'.storeVal hAct.top hAct.z0 (fun a ha => ⟨hsv.held a ha, fun o => by rw [List.mem_singleton.mp ha]; exact hDb o⟩) hsv hl st
      have hoC₃ : h₃.get? C = some oC := (st.same.2 C hCℓ).trans hoC
      refine hQ h'' _ Z' .next (ev.trans ev').sub (act₃.change (C := C) (fun b o hb q => (hs.2 b hb).trans q) hCB ⟨oC, hoC₃, hCs⟩ hCl) trivial
    · cases e₁
  · cases hf
end
end Mine

namespace Mine
open PySem PySem.W PyProof.Rows PySem.Calls
theorem zipIdx_lookup : ∀ {vs : List Str} {n i : Nat} {x : Str}, (vs.zipIdx n).lookup x = some i → n ≤ i ∧ vs[i - n]? = some x
  | [], n, i, x, h => by simp at h
  | v :: vs, n, i, x, h => by
    rw [List.zipIdx_cons, List.lookup_cons] at h
    cases hb : x == v with
    | true => rw [hb] at h; cases h; refine ⟨Nat.le_refl _, ?_⟩; rw [Nat.sub_self, beq_iff_eq.mp hb]; rfl
    | false =>
      rw [hb] at h
      obtain ⟨h1, h2⟩ := zipIdx_lookup h
      refine ⟨by omega, ?_⟩
      have : i - n = (i - (n + 1)) + 1 := by omega
      rw [this]; exact h2

noncomputable def frameLocs (scope : Scope) (vs : List Str) (L : Addr) : Nat → Option Loc := fun i => match vs[i]? with
  | some x => tgLoc scope L x
  | none => none

theorem bindL_skip {kindOf : Str → Option NameKind} {x : Str} : ∀ {binds : List (Str × Value)} {m : Str → Option Value}, (∀ p ∈ binds, p.1 ≠ x) → bindL kindOf binds m x = m x
  | [], m, _ => rfl
  | (n, v) :: r, m, h => by
    unfold bindL
    rw [bindL_skip fun p hp => h p (List.mem_cons_of_mem _ hp)]
    have hn : x ≠ n := fun e => h (n, v) List.mem_cons_self e.symm
    split
    · simp only [if_neg hn]
    · rfl
theorem bindC_skip {kindOf : Str → Option NameKind} {x : Str} : ∀ {binds : List (Str × Value)} {m : Str → Option Value}, (∀ p ∈ binds, p.1 ≠ x) → bindC kindOf binds m x = m x
  | [], m, _ => rfl
  | (n, v) :: r, m, h => by
    unfold bindC
    rw [bindC_skip fun p hp => h p (List.mem_cons_of_mem _ hp)]
    have hn : x ≠ n := fun e => h (n, v) List.mem_cons_self e.symm
    split
    · rfl
    · simp only [if_neg hn]
theorem bindL_at {kindOf : Str → Option NameKind} {x : Str} {v : Value} (hk : kindOf x = some .local) : ∀ {ps : List Str} {vals : List Value} {i : Nat} {m : Str → Option Value}, ps.Nodup → ps[i]? = some x → vals[i]? = some v → bindL kindOf (ps.zip vals) m x = some v
  | [], _, _, _, _, h, _ => by simp at h
  | _ :: _, [], _, _, _, _, h => by simp at h
  | p :: ps, u :: vals, 0, m, hd, h1, h2 => by
    simp at h1 h2; subst h1 h2
    show bindL kindOf ((p, u) :: ps.zip vals) m p = _
    unfold bindL
    rw [bindL_skip fun q hq => ?_, if_pos hk]
    · simp
    · have := List.of_mem_zip hq
      intro e; rw [e] at this
      exact (List.nodup_cons.mp hd).1 this.1
  | p :: ps, u :: vals, i + 1, m, hd, h1, h2 => by
    show bindL kindOf ((p, u) :: ps.zip vals) m x = _
    unfold bindL
    exact bindL_at hk (List.nodup_cons.mp hd).2 (by simpa using h1) (by simpa using h2)
theorem bindC_at {kindOf : Str → Option NameKind} {x : Str} {v : Value} (hk : kindOf x = some .cell) : ∀ {ps : List Str} {vals : List Value} {i : Nat} {m : Str → Option Value}, ps.Nodup → ps[i]? = some x → vals[i]? = some v → bindC kindOf (ps.zip vals) m x = some v
  | [], _, _, _, _, h, _ => by simp at h
  | _ :: _, [], _, _, _, _, h => by simp at h
  | p :: ps, u :: vals, 0, m, hd, h1, h2 => by
    simp at h1 h2; subst h1 h2
    show bindC kindOf ((p, u) :: ps.zip vals) m p = _
    unfold bindC
    rw [bindC_skip fun q hq => ?_, if_neg (by rw [hk]; decide)]
    · simp
    · have := List.of_mem_zip hq
      intro e; rw [e] at this
      exact (List.nodup_cons.mp hd).1 this.1
  | p :: ps, u :: vals, i + 1, m, hd, h1, h2 => by
    show bindC kindOf ((p, u) :: ps.zip vals) m x = _
    unfold bindC
    exact bindC_at hk (List.nodup_cons.mp hd).2 (by simpa using h1) (by simpa using h2)

/-- what is given as an argument -/
noncomputable def ArgIs (Z : Zone) (h : Heap) : Slot → Value → List Addr → Prop
  | .fro t, v, as => as = [] ∧ Rd Z t v
  | .own ts, v, as => ∃ a items, as = [a] ∧ v = .ref a ∧ h.PlainList a items ∧ RdL Z ts items.toList
  | .box xs k, v, as => ∃ a b t, ∃ items : List Value, as = [a, b] ∧ a ≠ b ∧ v = .ref a ∧ h.PlainList a #[.ref b, .int k t] ∧ h.PlainList b items.toArray ∧ IntsAre items xs
  | .un, _, _ => False
  | .ext _, _, _ => False
theorem ArgIs.slot {Z : Zone} {h : Heap} {sl : Slot} {v : Value} {as : List Addr} {ℓ : Loc} (x : ArgIs Z h sl v as) (hl : LocIs h ℓ (some v)) : SlotOk Z h (some ℓ) sl as := by
  cases sl with
  | un => exact x.elim
  | ext xs => exact x.elim
  | fro t => exact ⟨x.1, ℓ, v, rfl, hl, x.2⟩
  | own ts => obtain ⟨a, items, e, rfl, p, r⟩ := x; exact ⟨a, items, ℓ, e, rfl, hl, p, r⟩
  | box xs k => obtain ⟨a, b, t, items, e, hne, rfl, p, q, r⟩ := x; exact ⟨a, b, t, ℓ, items, e, hne, rfl, hl, p, q, r⟩
theorem ArgIs.keep {Z : Zone} {h h' : Heap} {sl : Slot} {v : Value} {as : List Addr} (x : ArgIs Z h sl v as) (k : ∀ a ∈ as, ∀ o, h.get? a = some o → h'.get? a = some o) : ArgIs Z h' sl v as := by
  cases sl with
  | un => exact x.elim
  | ext xs => exact x.elim
  | fro t => exact x
  | own ts => obtain ⟨a, items, e, rfl, p, r⟩ := x; exact ⟨a, items, e, rfl, p.at (k a (by simp [e])), r⟩
  | box xs k' => obtain ⟨a, b, t, items, e, hne, rfl, p, q, r⟩ := x; exact ⟨a, b, t, items, e, hne, rfl, p.at (k a (by simp [e])), q.at (k b (by simp [e])), r⟩
theorem ArgIs.seqs {Z : Zone} {h : Heap} {sl : Slot} {v : Value} {as : List Addr} (x : ArgIs Z h sl v as) : ∀ a ∈ as, (h.get? a).isSome := fun a ha => by
  cases sl with
  | un => exact x.elim
  | ext xs => exact x.elim
  | fro t => rw [x.1] at ha; cases ha
  | own ts => obtain ⟨b, items, e, _, ⟨n, p⟩, r⟩ := x; rw [e] at ha; rw [List.mem_singleton.mp ha, p]; rfl
  | box xs k =>
    obtain ⟨b, c, t, items, e, hne, _, ⟨n, p⟩, ⟨m, q⟩, r⟩ := x
    rw [e] at ha
    rcases List.mem_cons.mp ha with rfl | ha
    · rw [p]; rfl
    · rw [List.mem_singleton.mp ha, q]; rfl

/-- the base of a call: the caller's heap but for what is given away -/
noncomputable def Behind (h : Heap) (hole : List Addr) : Zone := fun a o => a ∉ hole ∧ h.get? a = some o

section
variable {G : Glo}

theorem frame_inj {scope : Scope} {vs : List Str} {L : Addr} {cs : List (Str × Addr)} (hcs : cs = cellsFrom (L + 1) scope.names []) (ap : cs.Pairwise fun x y => x.2 ≠ y.2) (hd : vs.Nodup) {i j : Nat} {ℓ : Loc} (h1 : frameLocs scope vs L i = some ℓ) (h2 : frameLocs scope vs L j = some ℓ) : i = j := by
  unfold frameLocs at h1 h2
  split at h1
  · rename_i x hx
    split at h2
    · rename_i y hy
      have hxy : x = y := by
        unfold tgLoc at h1 h2
        rw [← hcs] at h1 h2
        split at h1
        · cases h1
          split at h2
          · cases h2; rfl
          · obtain ⟨c, _, q⟩ := Option.map_eq_some_iff.mp h2; cases q
          · cases h2
        · obtain ⟨c, hc, rfl⟩ := Option.map_eq_some_iff.mp h1
          split at h2
          · cases h2
          · obtain ⟨c', hc', q⟩ := Option.map_eq_some_iff.mp h2
            cases q
            exact name_of_addr ap (mem_of_lookup hc) (mem_of_lookup hc')
          · cases h2
        · cases h1
      subst hxy
      exact (List.getElem?_inj (List.getElem?_eq_some_iff.mp hx).1 hd).mp (hx.trans hy.symm)
    · cases h2
  · cases h1

theorem frame_env {F : FRec} {k : Nat} {vs : List Str} {pm code doc : Value} {L a : Addr} (hk : F.scope.kind = .function) (hlc : ∀ x ∈ vs, isLC (F.scope.names.lookup x) = true) :
    EnvOk ⟨F.scope, vs.zipIdx, k, vs.length⟩ (callEnvC (docDef F.name F.params F.body F.scope pm code doc) L a) (frameLocs F.scope vs L) := by
  refine ⟨rfl, hk, rfl, rfl, fun x i hx => ?_, fun i hi => ?_⟩
  · obtain ⟨_, h2⟩ := zipIdx_lookup hx
    rw [Nat.sub_zero] at h2
    have hm : x ∈ vs := List.mem_of_getElem? h2
    have e : frameLocs F.scope vs L i = tgLoc F.scope L x := by unfold frameLocs; rw [h2]
    have hl := hlc x hm
    unfold isLC at hl
    simp only [Bool.or_eq_true, beq_iff_eq] at hl
    rcases hl with h | h
    · refine .inl ⟨h, ?_⟩
      rw [e]; unfold tgLoc; rw [h]; rfl
    · obtain ⟨c, hc⟩ := Option.isSome_iff_exists.mp (PySem.W.cellsFrom_some F.scope.names (L + 1) [] (x := x) (.inl h))
      refine .inr ⟨c, .inl h, hc, ?_⟩
      rw [e]; unfold tgLoc; rw [h]; dsimp only; rw [hc]; rfl
  · show frameLocs F.scope vs L i = none
    unfold frameLocs
    rw [List.getElem?_eq_none hi]

theorem frame_act {F : FRec} {k : Nat} {vs ps : List Str} {pm code doc : Value} {a : Addr} {Z : Zone} {s s₁ : Shared} {sl : Slot} {v : Value} {as : List Addr} {ts : List T} {vals : List Value} {extra : Nat}
    (hlc : ∀ x ∈ vs, isLC (F.scope.names.lookup x) = true) (hd : vs.Nodup) (hps : ps <+: vs) (hlen : (v :: vals).length = ps.length) (gr : Grows G.hT s.heap) (hT : ∀ b ∈ as, G.hT.get? b = none) (hz : ∀ a o, Z a o → s.heap.get? a = some o ∧ IsSeq o) (hza : ∀ b ∈ as, ∀ o, ¬ Z b o)
    (harg : ArgIs Z s.heap sl v as) (rd : RdL Z ts vals)
    (x : InCallC s (callEnvC (docDef F.name F.params F.body F.scope pm code doc) s.heap.objs.size a).locals (bindL (callEnvC (docDef F.name F.params F.body F.scope pm code doc) s.heap.objs.size a).kindOf (ps.zip (v :: vals)) fun _ => none) (callEnvC (docDef F.name F.params F.body F.scope pm code doc) s.heap.objs.size a).cells
        (bindC (callEnvC (docDef F.name F.params F.body F.scope pm code doc) s.heap.objs.size a).kindOf (ps.zip (v :: vals)) fun _ => none) s₁) :
    Act G (Behind s.heap as) Z Z (frameLocs F.scope vs s.heap.objs.size) (sl :: (ts.map Slot.fro ++ List.replicate extra .un)) s₁.heap := by
  have keep := x.toInCall.keep
  have nd : ps.Nodup := hps.sublist.nodup hd
  have atv : ∀ i y w, ps[i]? = some y → (v :: vals)[i]? = some w → ∃ ℓ, frameLocs F.scope vs s.heap.objs.size i = some ℓ ∧ LocIs s₁.heap ℓ (some w) := by
    intro i y w hy hw
    obtain ⟨tl, htl⟩ := hps
    have hv : vs[i]? = some y := by rw [← htl, List.getElem?_append_left (List.getElem?_eq_some_iff.mp hy).1]; exact hy
    have hl := hlc y (List.mem_of_getElem? hv)
    unfold isLC at hl
    simp only [Bool.or_eq_true, beq_iff_eq] at hl
    have e : frameLocs F.scope vs s.heap.objs.size i = tgLoc F.scope s.heap.objs.size y := by unfold frameLocs; rw [hv]
    rcases hl with h | h
    · refine ⟨.loc s.heap.objs.size y, by rw [e]; unfold tgLoc; rw [h], _, x.toInCall.ns, bindL_at h nd hy hw⟩
    · obtain ⟨c, hc⟩ := Option.isSome_iff_exists.mp (PySem.W.cellsFrom_some F.scope.names (s.heap.objs.size + 1) [] (x := y) (.inl h))
      refine ⟨.cell c, by rw [e]; unfold tgLoc; rw [h]; dsimp only; rw [hc]; rfl, ?_⟩
      have q := x.cell y c hc
      rw [bindC_at (kindOf := (callEnvC (docDef F.name F.params F.body F.scope pm code doc) s.heap.objs.size a).kindOf) h nd hy hw] at q
      exact q
  exact {
    top := fun b o e => ⟨fun hb => (by rw [hT b hb] at e; cases e), gr b o e⟩
    base := fun b o hb => keep b o hb.2
    zone := fun b o hb => ⟨keep b o (hz b o hb).1, (hz b o hb).2⟩
    z0 := fun b o hb => ⟨fun hm => hza b hm o hb, (hz b o hb).1⟩
    zold := fun b o hb => .inl hb
    inj := fun i j ℓ h1 h2 => frame_inj rfl x.apart hd h1 h2
    loc := fun i ℓ e => by
      have : (∃ v, LocIs s₁.heap ℓ v) ∧ s.heap.objs.size ≤ ℓ.addr := by
        unfold frameLocs at e
        split at e
        · unfold tgLoc at e
          split at e
          · cases e; exact ⟨⟨_, _, x.toInCall.ns, rfl⟩, Nat.le_refl _⟩
          · obtain ⟨c, hc, rfl⟩ := Option.map_eq_some_iff.mp e
            exact ⟨⟨_, x.cell _ c hc⟩, Nat.le_of_lt (x.above _ c (mem_of_lookup hc))⟩
          · cases e
        · cases e
      refine ⟨this.1, fun o q => ?_⟩
      exact Nat.lt_irrefl _ (Nat.lt_of_lt_of_le (Heap.lt_size q.2) this.2)
    sl := by
      refine ⟨fun i => if i = 0 then as else [], fun i q e => ?_, fun i b hb => ?_, fun i j b hi hj => ?_⟩
      · cases i with
        | zero =>
          simp at e; subst e
          have h0 : ∃ y, ps[0]? = some y := by
            cases ps with
            | nil => simp at hlen
            | cons y _ => exact ⟨y, rfl⟩
          obtain ⟨y, hy⟩ := h0
          obtain ⟨ℓ, hl, hv⟩ := atv 0 y v hy rfl
          rw [hl]
          exact (harg.keep fun b _ o q => keep b o q).slot hv
        | succ i =>
          show SlotOk Z s₁.heap _ q (if i + 1 = 0 then as else [])
          rw [if_neg (by omega)]
          rw [List.getElem?_cons_succ] at e
          have rl := rd.length
          rcases Nat.lt_or_ge i ts.length with h | h
          · rw [List.getElem?_append_left (by simpa using h), List.getElem?_map] at e
            obtain ⟨t, ht, rfl⟩ := Option.map_eq_some_iff.mp e
            obtain ⟨w, hw, hr⟩ := rd.get ht
            have hi : i + 1 < ps.length := by rw [← hlen, List.length_cons, ← rl]; omega
            obtain ⟨ℓ, hl, hv⟩ := atv (i + 1) ps[i + 1] w (List.getElem?_eq_getElem hi) (by simpa using hw)
            exact ⟨rfl, ℓ, w, hl, hv, hr⟩
          · rw [List.getElem?_append_right (by simpa using h)] at e
            have := List.getElem?_eq_some_iff.mp e
            obtain ⟨h1, h2⟩ := this
            rw [List.getElem_replicate] at h2
            subst h2; rfl
      · dsimp only at hb
        split at hb
        · have hs := harg.seqs b hb
          obtain ⟨o, ho⟩ := Option.isSome_iff_exists.mp hs
          exact ⟨by rw [keep b o ho]; rfl, hza b hb, fun p q => q.1 hb⟩
        · cases hb
      · dsimp only at hi hj
        split at hi
        · split at hj
          · omega
          · cases hj
        · cases hi }

/-- a function's answer, from its body's -/
noncomputable def funC (np extra : Nat) (b : SemS) : List T → Option T
  | [] => none
  | t :: ts => if (ts.length + 1 == np) = true then (match b (.fro t :: (ts.map Slot.fro ++ List.replicate extra .un)) with
    | some (.ret u, _) => some u
    | some (.next, _) => some .none
    | none => none) else none

/-- what is fixed of a function's text -/
structure FunOk (F : FRec) (vs ps : List Str) : Prop where
  kind : F.scope.kind = .function
  co : F.scope.isCoroutine = false
  gen : F.scope.isGenerator = false
  lc : (vs.all fun x => isLC (F.scope.names.lookup x)) = true
  nd : vs.Nodup
  pre : ps <+: vs
  bind : ∀ pm code doc (vals : List Value), vals.length = ps.length → bindArgs (docDef F.name F.params F.body F.scope pm code doc) ⟨vals, []⟩ = pure (ps.zip vals)

theorem call_body {F : FRec} {k extra : Nat} {b : SemS} {vs ps : List Str} {Z : Zone} {A : Around} {s : Shared} {fa : Addr} {o : Obj} {pm code doc : Value} {sl : Slot} {v : Value} {as : List Addr} {ts : List T} {vals : List Value} {out : Out} {σ' : List Slot}
    (ok : GloOk G) (fo : FunOk F vs ps) (hb : SSs G ⟨F.scope, vs.zipIdx, k, vs.length⟩ F.body b) (ho : G.hT.get? fa = some o) (hdt : o.data = .func (docDef F.name F.params F.body F.scope pm code doc)) (hcr : G.hT.CodeRec code F.name)
    (hlen : (v :: vals).length = ps.length) (hA : AOk (k + 1) A) (gr : Grows G.hT s.heap) (hT : ∀ b ∈ as, G.hT.get? b = none) (hz : ∀ a o, Z a o → s.heap.get? a = some o ∧ IsSeq o) (hza : ∀ b ∈ as, ∀ o, ¬ Z b o) (harg : ArgIs Z s.heap sl v as) (rd : RdL Z ts vals)
    (hf : b (sl :: (ts.map Slot.fro ++ List.replicate extra .un)) = some (out, σ')) {Q : Value → Shared → Prop}
    (hQ : ∀ h' tk Z' locs u, Sub Z Z' → Act G (Behind s.heap as) Z Z' locs σ' h' → Rd Z' (match out with | .ret t => t | .next => .none) u → Q u { s with heap := h', toks := tk }) : WP G A (call (.ref fa) (v :: vals)) Q s := by
  have hlc : ∀ x ∈ vs, isLC (F.scope.names.lookup x) = true := List.all_eq_true.mp fo.lc
  refine wpAny_call (codeAny_call_cells (fd := docDef F.name F.params F.body F.scope pm code doc) (body := F.body) (binds := ps.zip (v :: vals)) (by have := hA.depth; omega) (gr _ _ ho) hdt (ok.nolimit.keeps gr) (hcr.keeps gr) rfl (fo.bind _ _ _ _ hlen) rfl (fun x hx => ?_) (fun s₁ x => ?_) fo.co fo.gen fo.kind)
  · have hm : x.1 ∈ vs := fo.pre.subset (List.of_mem_zip (a := x.1) (b := x.2) hx).1
    have hl := hlc _ hm
    unfold isLC at hl
    simp only [Bool.or_eq_true, beq_iff_eq] at hl
    rcases hl with h | h
    · exact .inl h
    · exact .inr ⟨h, PySem.W.cellsFrom_some F.scope.names _ [] (.inl h)⟩
  · have act := frame_act (G := G) (k := k) (extra := extra) hlc fo.nd fo.pre hlen gr hT hz hza harg rd x
    obtain ⟨h₁, tk₁, e⟩ := x.toInCall.same
    refine wpAny_mono (hb _ _ _ hf _ _ _ _ _ _ s₁ (hA.deeper _) (frame_env fo.kind hlc) act (fun fl s' => Q (match fl with | .ret v => v | _ => .none) s') fun h' tk Z' fl hz' act' hfl => ?_) (fun fl s' q => q) fun _ _ q => q.elim
    rw [e]
    cases out with
    | next => rw [hfl.nextIs]; exact hQ h' tk Z' _ _ hz' act' .none
    | ret t => obtain ⟨u, rfl, hu⟩ := hfl.retIs; exact hQ h' tk Z' _ _ hz' act' hu

theorem fun_ok {F : FRec} {k extra : Nat} {b : SemS} {vs ps : List Str} (ok : GloOk G) (hat : FnAt G F) (fo : FunOk F vs ps) (hb : SSs G ⟨F.scope, vs.zipIdx, k, vs.length⟩ F.body b) : CallP G F.name (k + 1) (funC ps.length extra b) := by
  obtain ⟨fa, o, pm, code, doc, hm, ho, hdt, hcr⟩ := hat
  refine ⟨fa, o, _, hm, ho, hdt, fun ts t hf A Z vs' s hA gr hz rd Q hQ => ?_⟩
  cases rd with
  | nil => cases hf
  | cons r rs =>
    rename_i t₀ v ts vals
    simp only [funC] at hf
    split at hf
    · rename_i hl
      have fin : ∀ out σ', b (.fro t₀ :: (ts.map Slot.fro ++ List.replicate extra .un)) = some (out, σ') → t = (match out with | .ret t => t | .next => .none) → WP G A (call (.ref fa) (v :: vals)) Q s := by
        intro out σ' e ht
        refine call_body ok fo hb ho hdt hcr (by rw [List.length_cons, ← rs.length]; simpa using hl) hA gr (fun _ hb => nomatch hb) hz (fun _ hb => nomatch hb) (sl := .fro t₀) (as := []) ⟨rfl, r⟩ rs e fun h' tk Z' locs u hz' act hu => ?_
        refine hQ h' tk Z' u hz' (fun b p q => act.base b p ⟨by simp, q⟩) act.zone (fun b p q => ?_) (ht ▸ hu)
        rcases act.zold b p q with h | h
        · exact .inl h
        · right
          cases e : s.heap.get? b with
          | none => rfl
          | some o' => exact absurd ⟨by simp, e⟩ (h o')
      split at hf
      · rename_i u σ' e; cases hf; exact fin _ _ e rfl
      · rename_i σ' e; cases hf; exact fin _ _ e rfl
      · cases hf
    · cases hf
end
end Mine

namespace Mine
open PySem PySem.W PyProof.Rows PySem.Calls
abbrev Pr : Program := PySem.Challenge.pw_oj0007_01
noncomputable def frec (i : Nat) : FRec := match Pr.main.body[i]? with
  | some (.FunctionDef name args body _ _ _ scope _ _ _) => ⟨name, args, body, scope⟩
  | _ => ⟨"", ⟨[], [], none, [], [], none, []⟩, [], Pr.main.scope⟩
noncomputable def defsAt : List Nat := [1, 2, 4, 5, 6, 7, 8, 9, 10, 11, 12, 13, 14, 15, 16, 17, 18, 19, 21, 22, 23, 24, 25, 27, 28, 29, 30, 31, 32, 33, 34, 35, 36, 38, 39, 40, 41, 42, 44, 45, 46, 47, 48, 49, 50, 51, 52]
/-- what is known of the world of the program -/
structure En (G : Glo) : Prop where
  ok : GloOk G
  len : Bi G "len" (.builtin "len")
  max : Bi G "max" (.builtin "max")
  min : Bi G "min" (.builtin "min")
  abs : Bi G "abs" (.builtin "abs")
  int : Bi G "int" (.type "int")
  list : Bi G "list" (.type "list")
  range : Bi G "range" (.type "range")
  enumerate : Bi G "enumerate" (.type "enumerate")
  zip : Bi G "zip" (.type "zip")
  sorted : Bi G "sorted" (.builtin "sorted")
  fn : ∀ i ∈ defsAt, FnAt G (frec i)
end Mine

namespace Mine
open PySem PySem.W PyProof.Rows PySem.Calls
section
open PySem.AutoSeq1 (wpAny_loadPart')
open PySem.MeetsSeq PySem.MeetsSeq2 PySem.MeetsSeq3 PySem.SeqRoads2 PySem.SeqAt

noncomputable def LtAt (A : Around) (s : Shared) (y x : Value) (b : Bool) : Prop :=
  ∀ (prog : Program) (w : World) (E : Value → Shared → Prop) (Q : Value → Shared → Prop), Q (.bool b) s → wpAny (model prog w) A (richCompare .Lt y x) Q E s
noncomputable def lexR (e lt : Nat → Bool) (fin : Bool) : Nat → Nat → Bool
  | 0, _ => fin
  | k + 1, i => if e i then lexR e lt fin k (i + 1) else lt i

theorem lt_loopAt (l b : Addr) (items items2 : Array Value) (n n2 : Nat) (dd dd2 : Option Addr) (sl sl2 : Array (Option Value)) (e lt : Nat → Bool) (k : Nat) :
    ∀ i : Nat, min items.size items2.size - i = k → Meets (Builtin.«list.__eq__.loop» ⟨[.ref l, .ref b, rawInt i, rawInt 0], []⟩)
      (fun A R s => s.heap.get? l = some { cls := .type "list", dict := dd, data := .seq items n, slots := sl } ∧ s.heap.get? b = some { cls := .type "list", dict := dd2, data := .seq items2 n2, slots := sl2 } ∧
        (∀ j (h1 : j < items.size) (h2 : j < items2.size), EqAt A.in1 s items[j] items2[j] (e j)) ∧ (∀ j (h1 : j < items.size) (h2 : j < items2.size), e j = false → LtAt A.in1 s items[j] items2[j] (lt j)) ∧
        R (.ok (.ret (.bool (lexR e lt (decide (items.size < items2.size)) k i)))) s) := by
  induction k with
  | zero =>
    intro i hk prog w A R s h
    obtain ⟨hp, g, d, tk, os⟩ := s; obtain ⟨hl, hb, he, hlt, h⟩ := h
    wp_walk using wpAny_loadPart' hl, wpAny_loadPart' hb
    rcases Nat.lt_or_ge i items.size with h1 | h1
    · have hi1 : items[((i : Nat) : Int).toNat]? = some items[i] := by simp [h1]
      have hi2 : items2[((i : Nat) : Int).toNat]? = none := by simp; omega
      rw [hi1, hi2]
      wp_walk using wpAny_loadPart' hl, wpAny_loadPart' hb
      show R (.ok (.ret (.bool (decide (items.size < items2.size))))) _
      simpa [lexR] using h
    · have hi1 : items[((i : Nat) : Int).toNat]? = none := by simp; omega
      rw [hi1]
      wp_walk using wpAny_loadPart' hl, wpAny_loadPart' hb
      show R (.ok (.ret (.bool (decide (items.size < items2.size))))) _
      simpa [lexR] using h
  | succ k ih =>
    intro i hk prog w A R s h
    obtain ⟨hp, g, d, tk, os⟩ := s; obtain ⟨hl, hb, he, hlt, h⟩ := h
    wp_walk using wpAny_loadPart' hl, wpAny_loadPart' hb
    have hlt1 : i < items.size := by omega
    have hlt2 : i < items2.size := by omega
    have hi1 : items[((i : Nat) : Int).toNat]? = some items[i] := by simp [hlt1]
    have hi2 : items2[((i : Nat) : Int).toNat]? = some items2[i] := by simp [hlt2]
    have hc : ((i : Int) + 1) = ((i + 1 : Nat) : Int) := by push_cast; rfl
    unfold lexR at h
    rw [hi1, hi2]
    refine wpAny_bind (he i hlt1 hlt2 prog w _ _ ?_)
    cases hb' : e i with
    | true =>
      rw [hb'] at h
      wp_walk
      rw [hc]
      exact ⟨plainId_quiet plain_eq_loop _, codeAny_builtin entry_eq_loop (by
        rw [Around.under_plainId plain_eq_loop _]
        exact ih (i + 1) (by omega) prog w A R _ ⟨hl, hb, he, hlt, by simpa using h⟩)⟩
    | false =>
      rw [hb'] at h
      wp_walk using wpAny_loadPart' hl, wpAny_loadPart' hb
      rw [hi1, hi2]
      refine wpAny_bind (hlt i hlt1 hlt2 hb' prog w _ _ ?_)
      wp_walk
      simpa using h

theorem list_ltAt (l b : Addr) (items items2 : Array Value) (n n2 : Nat) (dd dd2 : Option Addr) (sl sl2 : Array (Option Value)) (e lt : Nat → Bool) :
    Meets (Builtin.«list.__lt__» ⟨[.ref l, .ref b], []⟩)
      (fun A R s => s.heap.get? l = some { cls := .type "list", dict := dd, data := .seq items n, slots := sl } ∧ s.heap.get? b = some { cls := .type "list", dict := dd2, data := .seq items2 n2, slots := sl2 } ∧
        (∀ j (h1 : j < items.size) (h2 : j < items2.size), EqAt A.in1 s items[j] items2[j] (e j)) ∧ (∀ j (h1 : j < items.size) (h2 : j < items2.size), e j = false → LtAt A.in1 s items[j] items2[j] (lt j)) ∧
        R (.ok (.ret (.bool (lexR e lt (decide (items.size < items2.size)) (min items.size items2.size) 0)))) s) := by
  intro prog w A R s h
  obtain ⟨hp, g, d, tk, os⟩ := s; obtain ⟨hl, hb, he, hlt, h⟩ := h
  have f3 := AutoSeq1.sub_list_list
  wp_walk using wpAny_loadPart' hl, wpAny_loadPart' hb
  exact ⟨plainId_quiet plain_eq_loop _, codeAny_builtin entry_eq_loop (by
    rw [Around.under_plainId plain_eq_loop _]
    exact lt_loopAt l b items items2 n n2 dd dd2 sl sl2 e lt _ 0 rfl prog w A R _ ⟨hl, hb, he, hlt, by simpa using h⟩)⟩

theorem tuple_ltAt (l b : Addr) (items items2 : Array Value) (n n2 : Nat) (dd dd2 : Option Addr) (sl sl2 : Array (Option Value)) (e lt : Nat → Bool) :
    Meets (Builtin.«tuple.__lt__» ⟨[.ref l, .ref b], []⟩)
      (fun A R s => s.heap.get? l = some { cls := .type "tuple", dict := dd, data := .seq items n, slots := sl } ∧ s.heap.get? b = some { cls := .type "tuple", dict := dd2, data := .seq items2 n2, slots := sl2 } ∧
        (∀ j (h1 : j < items.size) (h2 : j < items2.size), EqAt A.in1 s items[j] items2[j] (e j)) ∧ (∀ j (h1 : j < items.size) (h2 : j < items2.size), e j = false → LtAt A.in1 s items[j] items2[j] (lt j)) ∧
        R (.ok (.ret (.bool (lexR e lt (decide (items.size < items2.size)) (min items.size items2.size) 0)))) s) :=
  .of_wp fun prog w A R s h => by
    obtain ⟨hp, g, d, tk, os⟩ := s; obtain ⟨hl, hb, he, hlt, h⟩ := h
    have f2 := AutoSeq1.sub_tuple_tuple
    have hZ : (items.toList.zip items2.toList).length = min items.size items2.size := by simp
    wp_walk using wpAny_loadPart' hl, wpAny_loadPart' hb, wpAny_forIn_list _ (fun rest b s' => b.1 = none ∧ s' = ⟨hp, g, d, tk, os⟩ ∧ ∃ i, rest = (items.toList.zip items2.toList).drop i ∧
      R (.ok (.ret (.bool (lexR e lt (decide (items.size < items2.size)) (min items.size items2.size - i) i)))) ⟨hp, g, d, tk, os⟩) _
    case turn =>
      rintro ⟨y, x⟩ rest b s' ⟨hb', rfl, i, hz, hR⟩
      have hlt' : i < (items.toList.zip items2.toList).length := by
        rcases Nat.lt_or_ge i (items.toList.zip items2.toList).length with h' | h'
        · exact h'
        · rw [List.drop_of_length_le h'] at hz; cases hz
      have hm : i < min items.size items2.size := hZ ▸ hlt'
      have h1 : i < items.size := Nat.lt_of_lt_of_le hm (Nat.min_le_left _ _)
      have h2 : i < items2.size := Nat.lt_of_lt_of_le hm (Nat.min_le_right _ _)
      rw [List.drop_eq_getElem_cons hlt'] at hz
      injection hz with hyx hrest
      have hy : y = items[i] := by have := congrArg Prod.fst hyx; simpa using this
      have hx : x = items2[i] := by have := congrArg Prod.snd hyx; simpa using this
      subst hy hx
      have hd : min items.size items2.size - i = (min items.size items2.size - (i + 1)) + 1 := by omega
      rw [hd] at hR
      unfold lexR at hR
      refine wpAny_bind (he i h1 h2 prog w _ _ ?_)
      cases hy : e i with
      | true =>
        rw [hy] at hR
        wp_walk
        exact ⟨rfl, rfl, i + 1, hrest, by simpa using hR⟩
      | false =>
        rw [hy] at hR
        have hl' := hlt i h1 h2 hy
        unfold LtAt at hl'
        generalize richCompare .Lt items[i] items2[i] = m at hl' ⊢
        wp_walk
        refine hl' prog w _ _ ?_
        wp_walk
        exact ⟨_, rfl, by simpa using hR⟩
    case fin =>
      rintro ⟨b1, b2⟩ s' ⟨hb', rfl, i, hz, hR⟩
      simp only at hb'
      subst hb'
      have hge : min items.size items2.size ≤ i := by
        rcases Nat.lt_or_ge i (items.toList.zip items2.toList).length with h' | h'
        · rw [List.drop_eq_getElem_cons h'] at hz; cases hz
        · exact hZ ▸ h'
      rw [Nat.sub_eq_zero_of_le hge] at hR
      wp_walk
      exact ⟨_, rfl, by simpa [lexR, Builtin.Tuple.tupleCompareSizes] using hR⟩
    case h =>
      exact ⟨rfl, rfl, 0, rfl, by simpa using h⟩

section
variable {A : Around} {s : Shared}
theorem LtAt.int_int (a : Int) (t : Tok) (b : Int) (u : Tok) : LtAt A s (.int a t) (.int b u) (decide (a < b)) := fun prog w E Q h => by
  show wpAny _ _ (compareOp .Lt _ _) _ _ _
  exact PySem.P.lt_int h
theorem LtAt.lists {l b : Addr} {items items2 : Array Value} {e lt : Nat → Bool} (hl : s.heap.IsList l items) (hb : s.heap.IsList b items2) (hu : A.units < cLine)
    (he : ∀ j (h1 : j < items.size) (h2 : j < items2.size), EqAt A.in1 s items[j] items2[j] (e j)) (hlt : ∀ j (h1 : j < items.size) (h2 : j < items2.size), e j = false → LtAt A.in1 s items[j] items2[j] (lt j)) :
    LtAt A s (.ref l) (.ref b) (lexR e lt (decide (items.size < items2.size)) (min items.size items2.size) 0) := fun prog w E Q h => by
  obtain ⟨⟨cls, dd, data, sl⟩, ho, hc, n, hd⟩ := id hl
  obtain ⟨⟨cls2, dd2, data2, sl2⟩, ho2, hc2, n2, hd2⟩ := id hb
  simp only at hc hd hc2 hd2
  subst hc hd hc2 hd2
  exact richCompare_meets_room (op := .Lt) ⟨_, ho, rfl⟩ ⟨_, ho2, rfl⟩ F.slot_list_lt F.entry_list_lt (F.args_list_lt_2 _ _) (list_ltAt l b items items2 n n2 dd dd2 sl sl2 e lt)
    ⟨ho, ho2, he, hlt, show Value.bool (lexR e lt (decide (items.size < items2.size)) (min items.size items2.size) 0) ≠ Value.notImplemented ∧ Q (.bool (lexR e lt (decide (items.size < items2.size)) (min items.size items2.size) 0)) s from ⟨(fun x => nomatch x), h⟩⟩ hu
theorem LtAt.tuples {l b : Addr} {items items2 : Array Value} {e lt : Nat → Bool} (hl : s.heap.IsTuple l items) (hb : s.heap.IsTuple b items2) (hu : A.units < cLine)
    (he : ∀ j (h1 : j < items.size) (h2 : j < items2.size), EqAt A.in1 s items[j] items2[j] (e j)) (hlt : ∀ j (h1 : j < items.size) (h2 : j < items2.size), e j = false → LtAt A.in1 s items[j] items2[j] (lt j)) :
    LtAt A s (.ref l) (.ref b) (lexR e lt (decide (items.size < items2.size)) (min items.size items2.size) 0) := fun prog w E Q h => by
  obtain ⟨⟨cls, dd, data, sl⟩, ho, hc, n, hd⟩ := id hl
  obtain ⟨⟨cls2, dd2, data2, sl2⟩, ho2, hc2, n2, hd2⟩ := id hb
  simp only at hc hd hc2 hd2
  subst hc hd hc2 hd2
  exact richCompare_meets_room (op := .Lt) ⟨_, ho, rfl⟩ ⟨_, ho2, rfl⟩ F.slot_tuple_lt F.entry_tuple_lt (F.args_tuple_lt_2 _ _) (tuple_ltAt l b items items2 n n2 dd dd2 sl sl2 e lt)
    ⟨ho, ho2, he, hlt, show Value.bool (lexR e lt (decide (items.size < items2.size)) (min items.size items2.size) 0) ≠ Value.notImplemented ∧ Q (.bool (lexR e lt (decide (items.size < items2.size)) (min items.size items2.size) 0)) s from ⟨(fun x => nomatch x), h⟩⟩ hu
end
end
end Mine

namespace Mine
open PySem PySem.W PyProof.Rows PySem.Calls
noncomputable def ltInts (a b : List Int) : Bool := lexR (fun j => a.getD j 0 == b.getD j 0) (fun j => decide (a.getD j 0 < b.getD j 0)) (decide (a.length < b.length)) (min a.length b.length) 0
noncomputable def eqK : T → T → Option Bool
  | .int a, .int b => some (a == b)
  | .list xs, .list ys => (match intsOf xs, intsOf ys with | some a, some b => some (eqInts a b) | _, _ => none)
  | .tup [.int a, .list xs], .tup [.int b, .list ys] => (match intsOf xs, intsOf ys with | some c, some d => some ((a == b) && eqInts c d) | _, _ => none)
  | _, _ => none
noncomputable def ltK : T → T → Option Bool
  | .int a, .int b => some (decide (a < b))
  | .list xs, .list ys => (match intsOf xs, intsOf ys with | some a, some b => some (ltInts a b) | _, _ => none)
  | .tup [.int a, .list xs], .tup [.int b, .list ys] => (match intsOf xs, intsOf ys with | some c, some d => some (if (a == b) = true then (if eqInts c d = true then false else ltInts c d) else decide (a < b)) | _, _ => none)
  | _, _ => none
noncomputable def keyLT : T → T → Option Bool
  | .tup [p, q], .tup [p', q'] => (match eqK p p' with
    | some true => (match eqK q q' with
      | some true => some false
      | some false => ltK q q'
      | none => none)
    | some false => ltK p p'
    | none => none)
  | _, _ => none

section
variable {Z : Zone} {s : Shared} {A : Around}

theorem ints_same : ∀ {xs ys : List T} {vs : List Value} {a b : List Int}, intsOf xs = some a → intsOf ys = some b → RdL Z xs vs → RdL Z ys vs → a = b := by
  intro xs ys vs a b ha hb ra rb
  obtain ⟨l1, g1⟩ := intsOf_get ha ra
  obtain ⟨l2, g2⟩ := intsOf_get hb rb
  refine List.ext_getElem (by omega) fun j h1 h2 => ?_
  obtain ⟨t, e1⟩ := g1 j (by omega) h1
  obtain ⟨u, e2⟩ := g2 j (by omega) h2
  rw [e1] at e2; injection e2

theorem getD_int (a : List Int) (j : Nat) (h : j < a.length) : a.getD j 0 = a[j] := by rw [List.getD_eq_getElem?_getD, List.getElem?_eq_getElem h]; rfl

theorem listAt {t : List T} {v : Value} (hz : ∀ a o, Z a o → s.heap.get? a = some o) (r : Rd Z (.list t) v) : ∃ l items n, v = .ref l ∧ s.heap.get? l = some { cls := .type "list", data := .seq items n } ∧ RdL Z t items.toList := by
  cases r with
  | list z l => exact ⟨_, _, _, rfl, hz _ _ z, l⟩
theorem tupAt {t : List T} {v : Value} (hz : ∀ a o, Z a o → s.heap.get? a = some o) (r : Rd Z (.tup t) v) : ∃ l o items n, v = .ref l ∧ s.heap.get? l = some o ∧ o.cls = .type "tuple" ∧ o.data = .seq items n ∧ RdL Z t items.toList := by
  cases r with
  | tup z c d l => exact ⟨_, _, _, _, rfl, hz _ _ z, c, d, l⟩

theorem listEq_at {xs ys : List T} {a b : List Int} {va vb : Value} (hz : ∀ a o, Z a o → s.heap.get? a = some o) (ha : intsOf xs = some a) (hb : intsOf ys = some b) (ra : Rd Z (.list xs) va) (rb : Rd Z (.list ys) vb) (hu : A.units < cLine) :
    PySem.SeqAt.EqAt A s va vb (eqInts a b) := by
  obtain ⟨l₁, ia, n₁, rfl, h1, la⟩ := listAt hz ra
  obtain ⟨l₂, ib, n₂, rfl, h2, lb⟩ := listAt hz rb
  by_cases hne : l₁ = l₂
  · subst hne
    rw [h1] at h2; cases h2
    have : eqInts a b = true := eqInts_iff.mpr (ints_same ha hb la lb)
    rw [this]; exact PySem.SeqAt.EqAt.same _
  · refine PySem.SeqAt.EqAt.of_refs hne ?_
    obtain ⟨sa, sb, he⟩ := eqAt_ints ha hb la lb (A := A.in1) (s := s)
    have k1 : s.heap.IsList l₁ ia := ⟨_, h1, rfl, _, rfl⟩
    have k2 : s.heap.IsList l₂ ib := ⟨_, h2, rfl, _, rfl⟩
    by_cases hsz : ia.size = ib.size
    · have := PySem.SeqAt.RcAt.lists k1 k2 hsz hu he
      rw [sa, ← eqInts_all (by omega)] at this; exact this
    · rw [eqInts_len (by omega)]
      exact PySem.SeqAt.RcAt.lists_lengths k1 k2 (by simpa using hsz) hu

theorem listLt_at {xs ys : List T} {a b : List Int} {va vb : Value} (hz : ∀ a o, Z a o → s.heap.get? a = some o) (ha : intsOf xs = some a) (hb : intsOf ys = some b) (ra : Rd Z (.list xs) va) (rb : Rd Z (.list ys) vb) (hu : A.units < cLine) :
    LtAt A s va vb (ltInts a b) := by
  obtain ⟨l₁, ia, n₁, rfl, h1, la⟩ := listAt hz ra
  obtain ⟨l₂, ib, n₂, rfl, h2, lb⟩ := listAt hz rb
  obtain ⟨sa, sb, he⟩ := eqAt_ints ha hb la lb (A := A.in1) (s := s)
  have k1 : s.heap.IsList l₁ ia := ⟨_, h1, rfl, _, rfl⟩
  have k2 : s.heap.IsList l₂ ib := ⟨_, h2, rfl, _, rfl⟩
  obtain ⟨_, g1⟩ := intsOf_get ha la
  obtain ⟨_, g2⟩ := intsOf_get hb lb
  have := LtAt.lists (lt := fun j => decide (a.getD j 0 < b.getD j 0)) k1 k2 hu he fun j h1 h2 _ => by
    obtain ⟨t, e1⟩ := g1 j (by rwa [Array.length_toList]) (by omega)
    obtain ⟨u, e2⟩ := g2 j (by rwa [Array.length_toList]) (by omega)
    rw [Array.getElem_toList] at e1 e2
    rw [e1, e2, ← getD_int a j (by omega), ← getD_int b j (by omega)]
    exact LtAt.int_int _ _ _ _
  rw [sa, sb] at this
  exact this

theorem pair_of {t u : T} {items : Array Value} (h : RdL Z [t, u] items.toList) : ∃ v w, items = #[v, w] ∧ Rd Z t v ∧ Rd Z u w := by
  obtain ⟨v, w, e, r1, r2⟩ := two_of h
  exact ⟨v, w, by rw [← Array.toArray_toList (xs := items), e], r1, r2⟩

theorem pairEq_at {a b : Int} {xs ys : List T} {c d : List Int} {va vb : Value} (hz : ∀ a o, Z a o → s.heap.get? a = some o) (hc : intsOf xs = some c) (hd : intsOf ys = some d) (ra : Rd Z (.tup [.int a, .list xs]) va) (rb : Rd Z (.tup [.int b, .list ys]) vb) (hu : A.units + 1 < cLine) :
    PySem.SeqAt.EqAt A s va vb ((a == b) && eqInts c d) := by
  obtain ⟨l₁, o₁, ia, n₁, rfl, h1, c1, d1, la⟩ := tupAt hz ra
  obtain ⟨l₂, o₂, ib, n₂, rfl, h2, c2, d2, lb⟩ := tupAt hz rb
  obtain ⟨v₁, w₁, rfl, r1, q1⟩ := pair_of la
  obtain ⟨v₂, w₂, rfl, r2, q2⟩ := pair_of lb
  by_cases hne : l₁ = l₂
  · subst hne
    rw [h1] at h2; cases h2
    rw [d1] at d2; injection d2 with d2 _; injection d2 with d2
    injection d2 with e1 d2; injection d2 with e2 _
    subst e1 e2
    cases r1; cases r2
    obtain ⟨l, i1, m1, rfl, k1, x1⟩ := listAt hz q1
    obtain ⟨l', i2, m2, e, k2, x2⟩ := listAt hz q2
    cases e
    rw [k1] at k2; cases k2
    rw [eqInts_iff.mpr (ints_same hc hd x1 x2)]
    simp only [beq_self_eq_true, Bool.and_self]
    exact PySem.SeqAt.EqAt.same _
  · refine PySem.SeqAt.EqAt.of_refs hne ?_
    have t1 : s.heap.IsTuple l₁ #[v₁, w₁] := ⟨_, h1, c1, _, d1⟩
    have t2 : s.heap.IsTuple l₂ #[v₂, w₂] := ⟨_, h2, c2, _, d2⟩
    have hu' : A.in1.units < cLine := hu
    have := PySem.SeqAt.RcAt.tuples (e := fun j => if j = 0 then a == b else eqInts c d) t1 t2 (Nat.lt_of_succ_lt hu) fun j k1 k2 => by
      match j with
      | 0 =>
        cases r1; cases r2
        exact PySem.SeqAt.EqAt.int_int _ _ _ _
      | 1 => exact listEq_at hz hc hd q1 q2 hu'
    simpa [List.range, List.range.loop] using this
theorem pairLt_at {a b : Int} {xs ys : List T} {c d : List Int} {va vb : Value} (hz : ∀ a o, Z a o → s.heap.get? a = some o) (hc : intsOf xs = some c) (hd : intsOf ys = some d) (ra : Rd Z (.tup [.int a, .list xs]) va) (rb : Rd Z (.tup [.int b, .list ys]) vb) (hu : A.units + 1 < cLine) :
    LtAt A s va vb (if (a == b) = true then (if eqInts c d = true then false else ltInts c d) else decide (a < b)) := by
  obtain ⟨l₁, o₁, ia, n₁, rfl, h1, c1, d1, la⟩ := tupAt hz ra
  obtain ⟨l₂, o₂, ib, n₂, rfl, h2, c2, d2, lb⟩ := tupAt hz rb
  obtain ⟨v₁, w₁, rfl, r1, q1⟩ := pair_of la
  obtain ⟨v₂, w₂, rfl, r2, q2⟩ := pair_of lb
  have t1 : s.heap.IsTuple l₁ #[v₁, w₁] := ⟨_, h1, c1, _, d1⟩
  have t2 : s.heap.IsTuple l₂ #[v₂, w₂] := ⟨_, h2, c2, _, d2⟩
  have hu' : A.in1.units < cLine := hu
  have := LtAt.tuples (e := fun j => if j = 0 then a == b else eqInts c d) (lt := fun j => if j = 0 then decide (a < b) else ltInts c d) t1 t2 (Nat.lt_of_succ_lt hu) (fun j k1 k2 => by
      match j with
      | 0 =>
        cases r1; cases r2
        exact PySem.SeqAt.EqAt.int_int _ _ _ _
      | 1 => exact listEq_at hz hc hd q1 q2 hu') fun j k1 k2 _ => by
      match j with
      | 0 =>
        cases r1; cases r2
        exact LtAt.int_int _ _ _ _
      | 1 => exact listLt_at hz hc hd q1 q2 hu'
  simpa [lexR] using this

theorem eqK_at {t u : T} {b : Bool} {va vb : Value} (h : eqK t u = some b) (hz : ∀ a o, Z a o → s.heap.get? a = some o) (ra : Rd Z t va) (rb : Rd Z u vb) (hu : A.units + 1 < cLine) : PySem.SeqAt.EqAt A s va vb b := by
  unfold eqK at h
  split at h
  · cases h; cases ra; cases rb; exact PySem.SeqAt.EqAt.int_int _ _ _ _
  · split at h
    · rename_i e1 e2; cases h; exact listEq_at hz e1 e2 ra rb (Nat.lt_of_succ_lt hu)
    · cases h
  · split at h
    · rename_i e1 e2; cases h; exact pairEq_at hz e1 e2 ra rb hu
    · cases h
  · cases h
theorem ltK_at {t u : T} {b : Bool} {va vb : Value} (h : ltK t u = some b) (hz : ∀ a o, Z a o → s.heap.get? a = some o) (ra : Rd Z t va) (rb : Rd Z u vb) (hu : A.units + 1 < cLine) : LtAt A s va vb b := by
  unfold ltK at h
  split at h
  · cases h; cases ra; cases rb; exact LtAt.int_int _ _ _ _
  · split at h
    · rename_i e1 e2; cases h; exact listLt_at hz e1 e2 ra rb (Nat.lt_of_succ_lt hu)
    · cases h
  · split at h
    · rename_i e1 e2; cases h; exact pairLt_at hz e1 e2 ra rb hu
    · cases h
  · cases h

/-! the kind of the keys -/
noncomputable def headK : T → Option Bool
  | .tup (.int _ :: _) => some true
  | .tup (.tup _ :: _) => some false
  | _ => none
noncomputable def kindK (b : Bool) : List T → Bool
  | [] => true
  | t :: ts => (headK t == some b) && kindK b ts
noncomputable def kindT (b : Bool) : Value := if b = true then .type "int" else .type "tuple"

theorem kindK_firsts {b : Bool} (hz : ∀ a o, Z a o → s.heap.get? a = some o) {M : Model} : ∀ {ts : List T} {vs : List Value}, kindK b ts = true → RdL Z ts vs → ∃ fs, KatTups s.heap vs fs ∧ fs.length = ts.length ∧ ∀ v ∈ fs, Looks M s.heap (typeOf v) (kindT b)
  | [], _, _, .nil => ⟨[], .nil, rfl, fun _ h => nomatch h⟩
  | t :: ts, _, h, .cons r rs => by
    simp only [kindK, Bool.and_eq_true, beq_iff_eq] at h
    obtain ⟨fs, k1, k2, k3⟩ := kindK_firsts hz (M := M) h.2 rs
    have hh := h.1
    unfold headK at hh
    split at hh
    · rename_i i rest
      injection hh with hh; subst hh
      obtain ⟨l, o, items, n, rfl, ho, hc, hd, hl⟩ := tupAt hz r
      obtain ⟨v, hv, hr⟩ := hl.get (i := 0) (t := .int i) rfl
      cases hr with
      | int _ tk =>
        refine ⟨.int i tk :: fs, .cons ho hc hd (by simpa using hv) k1, by simp [k2], fun v hv => ?_⟩
        rcases List.mem_cons.mp hv with rfl | hv
        · exact .now
        · exact k3 v hv
    · rename_i u rest
      injection hh with hh; subst hh
      obtain ⟨l, o, items, n, rfl, ho, hc, hd, hl⟩ := tupAt hz r
      obtain ⟨v, hv, hr⟩ := hl.get (i := 0) (t := .tup u) rfl
      obtain ⟨l', o', items', n', rfl, ho', hc', hd', hl'⟩ := tupAt hz hr
      refine ⟨.ref l' :: fs, .cons ho hc hd (by simpa using hv) k1, by simp [k2], fun v hv => ?_⟩
      rcases List.mem_cons.mp hv with rfl | hv
      · have : Looks M s.heap (typeOf (.ref l')) o'.cls := (Looks.ld ho').andThen .now
        rw [hc'] at this; exact this
      · exact k3 v hv
    · cases hh

theorem keyLT_ok {prog : Program} {w : World} {E : Value → Shared → Prop} {b c : Bool} {t u : T} {v w' : Value} (h : keyLT t u = some c) (hk : headK t = some b) (hk' : headK u = some b) (hz : ∀ a o, Z a o → s.heap.get? a = some o) (ra : Rd Z t v) (rb : Rd Z u w') (hu : A.units + 1 < cLine)
    {Q : Bool → Shared → Prop} (hQ : Q c s) : wpAny (model prog w) A (keyLt' (tuples' b) v w') Q E s := by
  unfold keyLT at h
  split at h
  · rename_i p q p' q'
    obtain ⟨l₁, o₁, ia, n₁, rfl, h1, c1, d1, la⟩ := tupAt hz ra
    obtain ⟨l₂, o₂, ib, n₂, rfl, h2, c2, d2, lb⟩ := tupAt hz rb
    obtain ⟨v₁, w₁, rfl, r1, q1⟩ := pair_of la
    obtain ⟨v₂, w₂, rfl, r2, q2⟩ := pair_of lb
    refine kat_lt h1 d1 h2 d2 ?_
    show KatLex prog w A b (decide (2 < 2)) Q [(v₁, v₂), (w₁, w₂)] 0 s
    refine kat_cons ?_
    split at h
    · rename_i e1
      refine eqK_at e1 hz r1 r2 hu prog w _ _ (kat_yes (kat_cons ?_))
      split at h
      · rename_i e2
        cases h
        refine eqK_at e2 hz q1 q2 hu prog w _ _ (kat_yes (kat_nil ?_))
        exact hQ
      · rename_i e2
        refine eqK_at e2 hz q1 q2 hu prog w _ _ (kat_no ?_)
        have : (b && 0 + 1 == 0) = false := by cases b <;> rfl
        rw [this]
        exact kat_one _ _ (ltK_at h hz q1 q2 hu prog w _ _ hQ)
      · cases h
    · rename_i e1
      refine eqK_at e1 hz r1 r2 hu prog w _ _ (kat_no ?_)
      cases b with
      | true =>
        unfold headK at hk hk'
        split at hk
        · rename_i i rest e
          injection e with e; injection e with e _; subst e
          split at hk'
          · rename_i i' rest' e'
            injection e' with e'; injection e' with e' _; subst e'
            simp only [ltK] at h
            cases h
            cases r1; cases r2
            exact oneLt_int hQ
          · cases hk'
          · cases hk'
        · cases hk
        · cases hk
      | false => exact kat_one _ _ (ltK_at h hz r1 r2 hu prog w _ _ hQ)
    · cases h
  · cases h

/-! the sort's run over answers -/
noncomputable def runK {α : Type} (cmp : Nat → Nat → Option Bool) : KasT α → Option α
  | .ret a => some a
  | .ask i j k => match cmp i j with
    | some b => runK cmp (k b)
    | none => none
theorem runK_ok {α : Type} {cmp : Nat → Nat → Option Bool} {ask : Nat → Nat → (Bool → Shared → Prop) → Shared → Prop} {s : Shared} (h : ∀ i j b, cmp i j = some b → ∀ C : Bool → Shared → Prop, C b s → ask i j C s) {G : α → Shared → Prop} :
    ∀ (t : KasT α) (a : α), runK cmp t = some a → G a s → t.kasWp ask G s
  | .ret a, _, e, hg => by cases e; exact hg
  | .ask i j k, a, e, hg => by
    unfold runK at e
    split at e
    · rename_i b eb
      exact h i j b eb _ (runK_ok h (k b) a e hg)
    · cases e
end
end Mine

namespace Mine
open PySem PySem.W PyProof.Rows PySem.Calls
noncomputable def mapO (f : T → Option T) : List T → Option (List T)
  | [] => some []
  | t :: ts => match f t with
    | some u => (match mapO f ts with | some us => some (u :: us) | none => none)
    | none => none
theorem mapO_get {f : T → Option T} : ∀ {ts us : List T}, mapO f ts = some us → us.length = ts.length ∧ ∀ (i : Nat) (t : T), ts[i]? = some t → ∃ u, f t = some u ∧ us[i]? = some u
  | [], us, h => by cases h; exact ⟨rfl, fun i t h => by simp at h⟩
  | t :: ts, us, h => by
    unfold mapO at h
    split at h
    · rename_i u e
      split at h
      · rename_i us' e'
        cases h
        obtain ⟨k1, k2⟩ := mapO_get e'
        refine ⟨by simp [k1], fun i x hx => ?_⟩
        cases i with
        | zero => simp at hx; subst hx; exact ⟨u, e, rfl⟩
        | succ i => simpa using k2 i x (by simpa using hx)
      · cases h
    · cases h

noncomputable def sortT (key : List T → Option T) (b : Bool) (ts : List T) : Option (List T) :=
  if ts.length < 64 then (match mapO (fun t => key [t]) ts with
    | some ks => if ts.length < 2 then some ts else (if kindK b ks = true then (match runK (fun i j => keyLT (ks.getD i .none) (ks.getD j .none)) (kas_sort ts.length) with
      | some p => some (p.toList.map fun i => ts.getD i .none)
      | none => none) else none)
    | none => none) else none

theorem RdL.pick {Z : Zone} {ts : List T} {vs : List Value} (h : RdL Z ts vs) : ∀ (l : List Nat), RdL Z (l.map fun i => ts.getD i .none) (l.map fun i => vs.getD i Value.none)
  | [] => .nil
  | i :: l => by
    refine .cons ?_ (RdL.pick h l)
    show Rd Z (ts.getD i T.none) (vs.getD i Value.none)
    rw [List.getD_eq_getElem?_getD, List.getD_eq_getElem?_getD]
    cases e : ts[i]? with
    | some t => obtain ⟨v, hv, hr⟩ := h.get e; rw [hv]; exact hr
    | none =>
      have : vs[i]? = none := by
        rw [List.getElem?_eq_none_iff] at e ⊢
        rw [← h.length]; exact e
      rw [this]; exact .none

section
variable {prog : Program} {w : World} {A : Around} {E : Value → Shared → Prop} {s : Shared}

theorem tail_ok {a kS : Addr} {e1 e : Nat} {keys : Array Value} {st : SortSt} {out : List Value} {P : PySem.Fin → Shared → Prop} (hne : kS ≠ a) (ho : s.heap.get? a = some (seqObj "list" #[] e1)) (hk : s.heap.get? kS = some (seqObj "list" keys e)) (hks : keys.size < 64) (hout : (arrOf st).map (·.2) = List.toArray out) (hz : out.length < 64) (hf : failedOf st = none)
    (h : ∀ h' c, (∀ b o, b ≠ a → b ≠ kS → s.heap.get? b = some o → h'.get? b = some o) → h'.get? a = some (seqObj "list" out.toArray c) → P (.done (.ret .none)) { s with heap := h' }) :
    wpAny (model prog w) A (ksk_tail a false e1 (.ref kS) st) P E s := by
  have s1 := Heap.SameBut.update s.heap kS (Obj.mapSeq fun _ => (#[] : Array Value))
  have ha1 : (s.heap.update kS (Obj.mapSeq fun _ => (#[] : Array Value))).get? a = some (seqObj "list" #[] e1) := (s1.2 a hne.symm).trans ho
  have s2 := Heap.SameBut.update (s.heap.update kS (Obj.mapSeq fun _ => (#[] : Array Value))) a (Obj.mapSeq fun _ => List.toArray out)
  obtain ⟨c2, hc2⟩ : ∃ c2, ((s.heap.update kS (Obj.mapSeq fun _ => (#[] : Array Value))).update a (Obj.mapSeq fun _ => List.toArray out)).get? a = some (seqObj "list" (List.toArray out) c2) := ⟨_, get?_update_seq ha1 fun _ => List.toArray out⟩
  unfold ksk_tail
  try dsimp only
  rw [hout]
  refine wpAny_bind (listUpdate_at hk rfl ?_ (by rw [sizeLine_eq]; omega) (Nat.zero_le _))
  refine wpAny_bind (wpAny_letGo ?_)
  refine wpAny_bind (seqEpoch_at ha1 rfl ?_)
  simp only [Bool.false_eq_true, if_false]
  refine wpAny_bind (listUpdate_at ha1 rfl ?_ (Nat.zero_le _) (by rw [List.size_toArray, sizeLine_eq]; omega))
  rw [hf]
  simp only [bne_self_eq_false, Bool.false_eq_true, if_false]
  exact wpAny_pure (h _ c2 (fun b o h1 h2 q => (s2.2 b h1).trans ((s1.2 b h2).trans q)) hc2)
end

section
variable {G : Glo}

noncomputable def CallAt (G : Glo) (fa : Addr) (k : Nat) (f : List T → Option T) : Prop :=
  ∀ ts t, f ts = some t → ∀ A Z vs s, AOk k A → Grows G.hT s.heap → (∀ a o, Z a o → s.heap.get? a = some o ∧ IsSeq o) → RdL Z ts vs →
  ∀ Q : Value → Shared → Prop, (∀ h' tk Z' v, Sub Z Z' → Grows s.heap h' → (∀ a o, Z' a o → h'.get? a = some o ∧ IsSeq o) → (∀ a o, Z' a o → Z a o ∨ s.heap.get? a = none) → Rd Z' t v → Q v { s with heap := h', toks := tk }) →
    WP G A (call (.ref fa) vs) Q s

/-- the keys laid up -/
inductive KInv (kS : Addr) (Z : Zone) (ks : List T) (s : Shared) (i : Nat) (s' : Shared) : Prop
  | mk (h' : Heap) (tk : Nat) (Z' : Zone) (kvs : Array Value) (e : Nat) (hs : s' = { s with heap := h', toks := tk }) (keep : ∀ b o, b ≠ kS → s.heap.get? b = some o → h'.get? b = some o) (hkS : h'.get? kS = some (seqObj "list" kvs e)) (hzz : Sub Z Z')
    (hz' : ∀ a o, Z' a o → h'.get? a = some o ∧ IsSeq o) (hZ' : ∀ o, ¬ Z' kS o) (hkk : RdL Z' (ks.take i) kvs.toList)
inductive KTurn (Z' : Zone) (h' : Heap) (kt : T) (s : Shared) (v : Value) (s'' : Shared) : Prop
  | mk (h'' : Heap) (tk'' : Nat) (Z'' : Zone) (hs : s'' = { s with heap := h'', toks := tk'' }) (q1 : Sub Z' Z'') (q2 : Grows h' h'') (q3 : ∀ a o, Z'' a o → h''.get? a = some o ∧ IsSeq o) (q4 : ∀ a o, Z'' a o → Z' a o ∨ h'.get? a = none) (q5 : Rd Z'' kt v)
theorem rest_ok {A : Around} {E : Value → Shared → Prop} {s : Shared} {k : Nat} {key : List T → Option T} {b : Bool} {fa a kS : Addr} {e1 : Nat} {ts us : List T} {vs : List Value} {Z : Zone} {P : PySem.Fin → Shared → Prop} (hc : CallAt G fa k key) (hA : AOk k A) (gr : Grows G.hT s.heap) (hz : ∀ a o, Z a o → s.heap.get? a = some o ∧ IsSeq o) (rd : RdL Z ts vs)
    (ho : s.heap.get? a = some (seqObj "list" #[] e1)) (hk : s.heap.get? kS = some (seqObj "list" #[] 0)) (hne : kS ≠ a) (hZk : ∀ o, ¬ Z kS o) (hTk : G.hT.get? kS = none) (h : sortT key b ts = some us)
    (hP : ∀ h' tk out c, (∀ b o, b ≠ a → b ≠ kS → s.heap.get? b = some o → h'.get? b = some o) → h'.get? a = some (seqObj "list" (List.toArray out) c) → RdL Z us out → P (.done (.ret .none)) { s with heap := h', toks := tk }) :
    wpAny (model G.prog G.w) A (ksk_rest a (.ref fa) false vs.toArray e1 (.ref kS)) P E s := by
  have hlen := rd.length
  unfold sortT at h
  split at h
  · rename_i h64
    split at h
    · rename_i ks hks
      obtain ⟨hkl, hkg⟩ := mapO_get hks
      unfold ksk_rest
      refine wpAny_bind (wpAny_rule ?_)
      first
        | rw [List.forIn_toArray]
        | (rw [← Array.forIn_toList]; simp only [List.toList_toArray])
        | rw [← Array.forIn_toList]
      refine wpAny_bind (ksk_fold (KInv kS Z ks s) vs 0 s
        ⟨s.heap, s.toks, Z, #[], 0, rfl, fun _ _ _ q => q, hk, Sub.refl _, hz, hZk, by simpa using RdL.nil⟩ ?step ?done)
      case step =>
        rintro j x s' hx ⟨h', tk, Z', kvs, e, rfl, keep, hkS, hzz, hz', hZ', hkk⟩
        simp only [Nat.zero_add] at hkk ⊢
        have hj : j < vs.length := (List.getElem?_eq_some_iff.mp hx).1
        have htj : ts[j]? = some ts[j] := List.getElem?_eq_getElem (by omega)
        obtain ⟨kt, hkt, hkj⟩ := hkg j _ htj
        obtain ⟨v', hv', hr⟩ := rd.get htj
        rw [hx] at hv'; cases hv'
        have hsz : kvs.size ≤ 63 := by
          have h1 := size_of hkk
          rw [List.length_take] at h1
          omega
        refine wpAny_bind (wpAny_attempt (wpAny_mono (hc _ _ hkt A Z' [x] { s with heap := h', toks := tk } hA (fun b o q => keep b o (fun e => by rw [e, hTk] at q; cases q) (gr b o q)) hz' (.cons (hr.mono hzz) .nil)
          (KTurn Z' h' kt s)
          fun h'' tk'' Z'' v q1 q2 q3 q4 q5 => ⟨h'', tk'', Z'', rfl, q1, q2, q3, q4, q5⟩) (fun v s'' q => ?_) fun _ _ hF => hF.elim))
        obtain ⟨h'', tk'', Z'', rfl, q1, q2, q3, q4, q5⟩ := q
        try dsimp only
        have nk := q2 _ _ hkS
        have s1 := Heap.SameBut.update h'' kS (Obj.mapSeq (·.push v))
        obtain ⟨c2, hc2⟩ : ∃ c2, (h''.update kS (Obj.mapSeq (·.push v))).get? kS = some (seqObj "list" (kvs.push v) c2) := ⟨_, get?_update_seq nk (·.push v)⟩
        have ek : ks.take (j + 1) = ks.take j ++ [kt] := by rw [List.take_add_one, hkj]; simp
        have hZ'' : ∀ o, ¬ Z'' kS o := fun o q => (q4 kS o q).elim (hZ' o) fun e => by rw [hkS] at e; cases e
        refine wpAny_bind (listUpdate_at nk rfl ?_ (by rw [sizeLine_eq]; omega) (Nat.le_trans (Nat.le_of_eq (Array.size_push ..)) (by rw [sizeLine_eq]; omega)))
        refine wpAny_pure ⟨rfl, _, _, Z'', kvs.push v, c2, rfl, fun b o hb q => (s1.2 b hb).trans (q2 _ _ (keep b o hb q)), hc2, hzz.trans q1, fun b o q => ⟨(s1.2 b (fun e => hZ'' o (e ▸ q))).trans (q3 b o q).1, (q3 b o q).2⟩, hZ'', ?_⟩
        rw [ek, Array.toList_push]
        exact (hkk.mono q1).append (.cons q5 .nil)
      case done =>
        rintro s' ⟨h', tk, Z', kvs, e, rfl, keep, hkS, hzz, hz', hZ', hkk⟩
        have e3 : ks.take (0 + vs.length) = ks := List.take_of_length_le (by omega)
        rw [e3] at hkk
        have hsz : kvs.size = vs.length := by have := size_of hkk; omega
        have hoa := keep a _ hne.symm ho
        try dsimp only
        refine wpAny_bind (listItems_at hkS rfl ?_)
        unfold ksk_end
        simp only [Bool.false_eq_true, if_false]
        split at h
        · rename_i h2
          cases h
          have h2' : vs.toArray.size < 2 := by rw [List.size_toArray]; omega
          rw [if_pos h2', if_pos h2']
          refine wpAny_bind (wpAny_pure ?_)
          rw [StateT.run_pure]
          refine wpAny_bind (wpAny_pure ?_)
          try dsimp only
          refine tail_ok (st := SortSt.mk' general' (kvs.zip vs.toArray) #[] 7 none) (out := vs) hne hoa hkS (by omega) ?_ (by omega) rfl fun h3 c k1 k2 => hP h3 _ vs c (fun b o n1 n2 q => k1 b o n1 n2 (keep b o n2 q)) k2 rd
          show (kvs.zip vs.toArray).map (·.2) = vs.toArray
          apply Array.toList_inj.mp
          rw [Array.toList_map, Array.toList_zip]
          simp only [List.toList_toArray]
          exact List.map_snd_zip (Nat.le_of_eq (by simp [hsz]))
        · rename_i h2
          split at h
          · rename_i hkind
            split at h
            · rename_i p hrun
              cases h
              have h2' : ¬ vs.toArray.size < 2 := by rw [List.size_toArray]; omega
              rw [if_neg h2', if_neg h2']
              have hzo : ∀ a o, Z' a o → ({ s with heap := h', toks := tk } : Shared).heap.get? a = some o := fun a o q => (hz' a o q).1
              obtain ⟨fs, t1, t2, t3⟩ := kindK_firsts (s := { s with heap := h', toks := tk }) (M := model G.prog G.w) hzo hkind hkk
              have ekv : kvs = kvs.toList.toArray := by simp
              rw [ekv]
              have hT : tuples' (kindT b != Value.type "tuple") = tuples' b := by cases b <;> rfl
              refine wpAny_bind (kat_kind (T := kindT b) t1 (by omega) t3 (by cases b <;> rfl) ?_)
              rw [hT]
              have hl2 : kvs.toList.length = vs.length := by rw [Array.length_toList]; exact hsz
              refine wpAny_bind (wpAny_mono (kat_run (A := A) (E := E) (κ := tuples' b) (Q := fun st' s' => ∃ q : Array Nat, arrOf st' = q.map (kas_item (kvs.toList.toArray.zip vs.toArray)) ∧ failedOf st' = none ∧ q = p ∧ q.size = vs.length ∧ s' = { s with heap := h', toks := tk })
                (G := fun q s' => q = p ∧ s' = { s with heap := h', toks := tk }) hl2 (by omega) (by omega) (fun q st' s' a1 a2 a3 a4 => ⟨q, a2, a3, a4.1, a1, a4.2⟩) ?_) ?_ fun _ _ x => x)
              · have hrun' : runK (fun i j => keyLT (ks.getD i .none) (ks.getD j .none)) (kas_sort vs.length) = some p := by rw [← hlen]; exact hrun
                refine runK_ok (cmp := fun i j => keyLT (ks.getD i .none) (ks.getD j .none)) (fun i j c hij C hC => ?_) (kas_sort vs.length) p hrun' ⟨rfl, rfl⟩
                have kinds : ∀ i, (∃ p q, ks.getD i .none = .tup [p, q]) → headK (ks.getD i .none) = some b ∧ Rd Z' (ks.getD i .none) (kvs.toList.getD i Value.none) := by
                  intro i ⟨p, q, hpq⟩
                  rw [List.getD_eq_getElem?_getD] at hpq ⊢
                  cases e : ks[i]? with
                  | none => rw [e] at hpq; cases hpq
                  | some t =>
                    obtain ⟨v, hv, hr⟩ := hkk.get e
                    rw [List.getD_eq_getElem?_getD, hv]
                    refine ⟨?_, hr⟩
                    have all : ∀ {l : List T} {i : Nat} {t : T}, kindK b l = true → l[i]? = some t → headK t = some b := by
                      intro l
                      induction l with
                      | nil => intro i t _ h; simp at h
                      | cons x r ih =>
                        intro i t h1 h2
                        simp only [kindK, Bool.and_eq_true, beq_iff_eq] at h1
                        cases i with
                        | zero => simp at h2; subst h2; exact h1.1
                        | succ i => exact ih h1.2 (by simpa using h2)
                    exact all hkind e
                have hij' := hij
                unfold keyLT at hij'
                split at hij'
                · rename_i p₁ q₁ p₂ q₂ x1 x2
                  obtain ⟨k1, r1⟩ := kinds i ⟨_, _, x1⟩
                  obtain ⟨k2, r2⟩ := kinds j ⟨_, _, x2⟩
                  have hu : A.units + 1 < cLine := by have := hA.units; have := cLine_is; omega
                  exact keyLT_ok (s := { s with heap := h', toks := tk }) hij k1 k2 hzo r1 r2 hu hC
                · cases hij'
              · rintro ⟨⟨⟩, st'⟩ s' ⟨q, har, hf, rfl, hq, rfl⟩
                try dsimp only
                have ho2 := kat_snds hl2 har
                refine tail_ok (s := { s with heap := h', toks := tk }) hne hoa hkS (by omega) ho2 (by rw [List.length_map, Array.length_toList]; omega) hf fun h3 c k1 k2 => hP h3 _ _ c (fun b o n1 n2 q => k1 b o n1 n2 (keep b o n2 q)) k2 (rd.pick _)
            · cases h
          · cases h
    · cases h
  · cases h
end
end Mine

namespace Mine
open PySem PySem.W PyProof.Rows PySem.Calls
section
variable {G : Glo} {cx : Cx}

theorem sorted_ok {A : Around} {E : Value → Shared → Prop} {s : Shared} {k : Nat} {key : List T → Option T} {b : Bool} {fa : Addr} {ts us : List T} {v : Value} {Z : Zone} {Q : Value → Shared → Prop} (hc : CallAt G fa k key) (hA : AOk (k + 2) A) (gr : Grows G.hT s.heap) (hz : ∀ a o, Z a o → s.heap.get? a = some o ∧ IsSeq o)
    (hr : Rd Z (.list ts) v) (h : sortT key b ts = some us)
    (hQ : ∀ h' tk D items, Grows s.heap h' → s.heap.get? D = none → h'.PlainList D items → RdL Z us items.toList → Q (.ref D) { s with heap := h', toks := tk }) :
    wpAny (model G.prog G.w) A (call (.builtin "sorted") [v] [(Str.ofString "key", .ref fa)]) Q E s := by
  obtain ⟨l, items, n, rfl, hl, rd⟩ := listAt (fun a o q => (hz a o q).1) hr
  generalize hvs : items.toList = vs at rd
  have hit : items = vs.toArray := by rw [← hvs]
  have h64 : vs.length < 64 := by
    have h' := h
    unfold sortT at h'
    split at h'
    · rename_i q; rw [← rd.length]; exact q
    · cases h'
  refine call_function_entry_kw kind_sorted plain_sorted entry_sorted (ksk_s1 _ _) ?_
  unfold Builtin.«sorted»
  refine wpAny_bind (m := checkCount "sorted" 1 1 _) (wpAny_pure ?_)
  have hl' : s.heap.IsList l vs.toArray := ⟨_, hl, rfl, n, by rw [hit]⟩
  refine wpAny_bind (collect_list hl' ?_ (by rw [sizeLine_eq]; omega))
  refine wpAny_bind (wpAny_newList ?_ (by rw [sizeLine_eq]; omega))
  have hsz : ((s.heap.push (seqObj "list" #[] 0)).update s.heap.objs.size (Obj.mapSeq (· ++ vs.toArray))).objs.size = s.heap.objs.size + 1 := by
    rw [Heap.size_update, size_push']
  have hoL : (((s.heap.push (seqObj "list" #[] 0)).update s.heap.objs.size (Obj.mapSeq (· ++ vs.toArray))).push (seqObj "list" vs.toArray 0)).get? (s.heap.objs.size + 1) = some (seqObj "list" vs.toArray 0) := by
    rw [← hsz]; exact Heap.get?_push_size _ rfl
  have keep : ∀ b o, s.heap.get? b = some o → (((s.heap.push (seqObj "list" #[] 0)).update s.heap.objs.size (Obj.mapSeq (· ++ vs.toArray))).push (seqObj "list" vs.toArray 0)).get? b = some o := fun b o q => by
    have hlt : b < s.heap.objs.size := Heap.lt_size q
    rw [Heap.get?_push_ne _ _ _ (by rw [hsz]; exact Nat.ne_of_lt (Nat.lt_succ_of_lt hlt)), Heap.get?_update_ne _ _ _ _ (Nat.ne_of_lt hlt), Heap.get?_push_ne _ _ _ (Nat.ne_of_lt hlt)]
    exact q
  show wpAny _ _ _ _ _ { s with heap := ((s.heap.push (seqObj "list" #[] 0)).update s.heap.objs.size (Obj.mapSeq (· ++ vs.toArray))).push (seqObj "list" vs.toArray 0) }
  rw [hsz]
  generalize hH : ((s.heap.push (seqObj "list" #[] 0)).update s.heap.objs.size (Obj.mapSeq (· ++ vs.toArray))).push (seqObj "list" vs.toArray 0) = H at hoL keep ⊢
  have hHs : H.objs.size = s.heap.objs.size + 2 := by rw [← hH, size_push', hsz]
  clear hH
  refine wpAny_bind (wpAny_holding (wpAny_call_entry_kw slot_list_sort ⟨_, hoL, rfl⟩ entry_list_sort ?body (ksk_l1 _ _)))
  case body =>
    show wpAny (model G.prog G.w) A.in1.in1 (Builtin.«list.sort» ⟨[.ref (s.heap.objs.size + 1)], [(Str.ofString "key", .ref fa)]⟩) _ _ _
    rw [ksk_t1]
    have hA' : AOk k A.in1.in1 := hA.in1.in1
    have s1 := Heap.SameBut.update H (s.heap.objs.size + 1) (Obj.mapSeq fun _ => (#[] : Array Value))
    obtain ⟨e1, ho1⟩ : ∃ e1, (H.update (s.heap.objs.size + 1) (Obj.mapSeq fun _ => (#[] : Array Value))).get? (s.heap.objs.size + 1) = some (seqObj "list" #[] e1) := ⟨_, get?_update_seq hoL fun _ => #[]⟩
    have hkS : ((H.update (s.heap.objs.size + 1) (Obj.mapSeq fun _ => (#[] : Array Value))).push (seqObj "tuple" vs.toArray 0)).objs.size = s.heap.objs.size + 3 := by rw [size_push', Heap.size_update, hHs]
    unfold ksk_tree
    refine wpAny_bind (listItems_at hoL rfl ?_)
    refine wpAny_bind (listUpdate_at hoL rfl ?_ (by rw [List.size_toArray, sizeLine_eq]; omega) (Nat.zero_le _))
    refine wpAny_bind (seqEpoch_at ho1 rfl ?_)
    refine wpAny_bind (wpAny_newTuple ?_ (by show vs.length ≤ _; rw [sizeLine_eq]; omega))
    refine wpAny_bind (wpAny_newList ?_ (Nat.zero_le _))
    refine wpAny_holding ?_
    show wpAny _ _ _ _ _ { s with heap := ((H.update (s.heap.objs.size + 1) (Obj.mapSeq fun _ => (#[] : Array Value))).push (seqObj "tuple" vs.toArray 0)).push (seqObj "list" #[] 0) }
    have hk := Heap.get?_push_size ((H.update (s.heap.objs.size + 1) (Obj.mapSeq fun _ => (#[] : Array Value))).push (seqObj "tuple" vs.toArray 0)) (o := seqObj "list" #[] 0) rfl
    have ho2 : (((H.update (s.heap.objs.size + 1) (Obj.mapSeq fun _ => (#[] : Array Value))).push (seqObj "tuple" vs.toArray 0)).push (seqObj "list" #[] 0)).get? (s.heap.objs.size + 1) = some (seqObj "list" #[] e1) := Heap.get?_push_of_some _ (Heap.get?_push_of_some _ ho1)
    have keep2 : ∀ b o, s.heap.get? b = some o → (((H.update (s.heap.objs.size + 1) (Obj.mapSeq fun _ => (#[] : Array Value))).push (seqObj "tuple" vs.toArray 0)).push (seqObj "list" #[] 0)).get? b = some o := fun b o q =>
      Heap.get?_push_of_some _ (Heap.get?_push_of_some _ ((s1.2 b (Nat.ne_of_lt (Nat.lt_succ_of_lt (Heap.lt_size q)))).trans (keep b o q)))
    show wpAny (model G.prog G.w) A.in1.in1 (ksk_rest (s.heap.objs.size + 1) (.ref fa) false vs.toArray e1 (.ref _)) _ _ _
    rw [hkS] at hk
    rw [hkS]
    have none3 : s.heap.get? (s.heap.objs.size + 3) = none := none_of_big (Nat.le_add_right _ _)
    refine rest_ok (s := { s with heap := ((H.update (s.heap.objs.size + 1) (Obj.mapSeq fun _ => (#[] : Array Value))).push (seqObj "tuple" vs.toArray 0)).push (seqObj "list" #[] 0) }) hc hA' (fun b o q => keep2 b o (gr b o q)) (fun a o q => ⟨keep2 a o (hz a o q).1, (hz a o q).2⟩) rd ho2 hk
      (Nat.ne_of_gt (Nat.lt_of_lt_of_le (Nat.lt_succ_self _) (Nat.le_succ _))) (fun o q => by have := (hz _ o q).1; rw [none3] at this; cases this) ?_ h fun h' tk out c k1 k2 k3 => ?_
    · cases e : G.hT.get? (s.heap.objs.size + 3) with
      | none => rfl
      | some o => have := gr _ _ e; rw [none3] at this; cases this
    · refine ⟨_, rfl, wpAny_pure ⟨_, rfl, ?_⟩⟩
      refine hQ h' tk (s.heap.objs.size + 1) (List.toArray out) (fun b o q => k1 b o (fun e => ?_) (fun e => ?_) (keep2 b o q)) (none_of_big (Nat.le_add_right _ _)) ⟨c, k2⟩ (by simpa using k3)
      · rw [e, none_of_big (Nat.le_add_right _ _)] at q; cases q
      · rw [e, none3] at q; cases q

noncomputable def sortX (key : List T → Option T) (b : Bool) (f : Sem1) : SemX := fun σ => match f σ with
  | some (.list ts, σ₁) => (match sortT key b ts with
    | some us => some (.own us, σ₁)
    | none => none)
  | _ => none

theorem CallP.at {x : Str} {k : Nat} {f : List T → Option T} (hc : CallP G x k f) : ∃ fa, G.mg x = some (.ref fa) ∧ CallAt G fa k f := let ⟨fa, _, _, h1, _, _, h2⟩ := hc; ⟨fa, h1, h2⟩

theorem SX.sorted {x kn : Str} {pf pos p kp : Pos} {e : Expr} {f : Sem1} {key : List T → Option T} {k : Nat} {b : Bool} (ok : GloOk G) (bi : Bi G x (.builtin "sorted")) (hc : CallP G kn k key) (hk : k + 2 ≤ cx.k) (hg : cx.sc.names.lookup x = some .globalImplicit) (hpf : plainName x = true)
    (hg' : cx.sc.names.lookup kn = some .globalImplicit) (hpf' : plainName kn = true) (he : SE G cx e f) (h1 : ∀ env pos, backTo pos (starEach [e] env) = [(false, eval e env)] := by intro _ _; rfl) :
    SX G cx (.Call (.Name x pf) [e] [⟨some (Str.ofString "key"), .Name kn p, kp⟩] pos) (sortX key b f) := by
  intro σ t σ' hf A env B Z0 Z locs s hA hE hAct Q hQ
  unfold sortX at hf
  split at hf
  · rename_i ts σ₁ e₁
    split at hf
    · rename_i us e₂
      cases hf
      obtain ⟨fa, hm, hcall⟩ := hc.at
      refine wpAny_Call_Name_kw (builtin_ok ok hE hAct hg hpf bi.miss bi.has ?_)
      refine callWith_kw ?_ (h1 env pos) (by rw [h1 env pos]; rfl)
      rw [h1 env pos]
      refine Calls.spliced_cons (he σ _ _ e₁ A env B Z0 Z locs s hA hE hAct _ fun h₁ tk₁ Z₁ v hz act rd => Calls.spliced_nil ?_)
      refine kws_cons (global_ok (s := { s with heap := h₁, toks := tk₁ }) ok hE act hg' hpf' hm ?_)
      refine kws_nil ?_
      show WP G A (call (.builtin "sorted") [v] [(Str.ofString "key", .ref fa)]) Q _
      refine sorted_ok (s := { s with heap := h₁, toks := tk₁ }) hcall (hA.le hk) (fun b p q => act.base b p (act.top b p q)) act.zone rd e₂ fun h' tk D items gr hn hp rd' => ?_
      obtain ⟨act', hb⟩ := fresh_ok act gr hn
      exact hQ h' tk Z₁ _ [D] (hz.trans (.grow (Sub.refl _) gr)) act' hb ⟨D, items, rfl, rfl, hp, rd'⟩
    · cases hf
  · cases hf
end
end Mine

namespace Mine
open PySem PySem.W PyProof.Rows PySem.Calls
section
variable {G : Glo} {cx : Cx}

/-! ev_but is in M11 -/
/-- statements that leave variable j where it stands -/
noncomputable def SR2 (G : Glo) (cx : Cx) (j : Nat) (run : Env → Sem Flow) (f : SemS) : Prop :=
  ∀ σ out σ', f σ = some (out, σ') → ∀ A env B Z0 Z locs s, AOk cx.k A → EnvOk cx env locs → Act G B Z0 Z locs σ s.heap →
  ∀ Q : Flow → Shared → Prop, (∀ h' tk Z' fl, Sub Z Z' → (∀ ℓ v, locs j = some ℓ → LocIs s.heap ℓ v → LocIs h' ℓ v) → Act G B Z0 Z' locs σ' h' → FlowIs Z' out fl → Q fl { s with heap := h', toks := tk }) → WP G A (run env) Q s


theorem SR2.nil {j : Nat} : SR2 G cx j (execs []) skipC := by
  intro σ out σ' hf A env B Z0 Z locs s hA hE hAct Q hQ
  cases hf
  exact wpAny_execs_nil (hQ s.heap s.toks Z .next (Sub.refl _) (fun _ _ _ q => q) hAct trivial)
theorem SR2.cons {j : Nat} {st : Stmt} {sts : List Stmt} {f g : SemS} (h : SR2 G cx j (exec st) f) (hs : SR2 G cx j (execs sts) g) : SR2 G cx j (execs (st :: sts)) (seqC f g) := by
  intro σ out σ' hf A env B Z0 Z locs s hA hE hAct Q hQ
  unfold seqC at hf
  split at hf
  · rename_i σ₁ e₁
    refine wpAny_execs_cons (h σ _ _ e₁ A env B Z0 Z locs s hA hE hAct _ fun h₁ tk₁ Z₁ fl hz y act hfl => ?_)
    rw [hfl.nextIs]
    exact hs _ _ _ hf A env B Z0 Z₁ locs _ hA hE act Q fun h₂ tk₂ Z₂ fl₂ hz₂ y₂ act₂ hfl₂ => hQ h₂ tk₂ Z₂ fl₂ (hz.trans hz₂) (fun ℓ v e q => y₂ ℓ v e (y ℓ v e q)) act₂ hfl₂
  · rename_i t σ₁ e₁
    cases hf
    refine wpAny_execs_cons (h σ _ _ e₁ A env B Z0 Z locs s hA hE hAct _ fun h₁ tk₁ Z₁ fl hz y act hfl => ?_)
    obtain ⟨v, rfl, hv⟩ := hfl.retIs
    exact hQ h₁ tk₁ Z₁ _ hz y act hv
  · cases hf
theorem SR2.if {j : Nat} {c : Expr} {a b : List Stmt} {pos : Pos} {fc : SemB} {f g : SemS} (hc : ST G cx c fc) (ha : SR2 G cx j (execs a) f) (hb : SR2 G cx j (execs b) g) : SR2 G cx j (exec (.If c a b pos)) (iffC fc f g) := by
  intro σ t σ' hf A env B Z0 Z locs s hA hE hAct Q hQ
  unfold iffC at hf
  split at hf
  · rename_i σ₁ e₁
    refine wpAny_If (hc σ _ _ e₁ A env B Z0 Z locs s hA hE hAct _ fun h₁ tk₁ Z₁ hz₁ act₁ => ?_)
    exact ha _ _ _ hf A env B Z0 Z₁ locs _ hA hE act₁ _ fun h₂ tk₂ Z₂ v₂ hz₂ y act₂ rd₂ => hQ h₂ tk₂ Z₂ v₂ (hz₁.sub.trans hz₂) (fun ℓ v e q => y ℓ v e (hz₁.stay j ℓ v e q)) act₂ rd₂
  · rename_i σ₁ e₁
    refine wpAny_If (hc σ _ _ e₁ A env B Z0 Z locs s hA hE hAct _ fun h₁ tk₁ Z₁ hz₁ act₁ => ?_)
    exact hb _ _ _ hf A env B Z0 Z₁ locs _ hA hE act₁ _ fun h₂ tk₂ Z₂ v₂ hz₂ y act₂ rd₂ => hQ h₂ tk₂ Z₂ v₂ (hz₁.sub.trans hz₂) (fun ℓ v e q => y ℓ v e (hz₁.stay j ℓ v e q)) act₂ rd₂
  · cases hf
theorem stay_ne {env : Env} {B Z0 Z : Zone} {locs : Nat → Option Loc} {σ : List Slot} {h : Heap} {j i : Nat} {ℓ : Loc} (hE : EnvOk cx env locs) (act : Act G B Z0 Z locs σ h) (hij : j = cx.n ∨ (j == i) = false) (hl : locs i = some ℓ) (e : locs j = some ℓ) : False := by
  rcases hij with rfl | hij
  · rw [hE.off _ (Nat.le_refl _)] at e; cases e
  · rw [act.inj j i ℓ e hl] at hij; simp at hij
theorem SR2.assignG {j : Nat} {x : Str} {p pos : Pos} {value : Expr} {i : Nat} {f : SemX} (hv : SX G cx value f) (hx : cx.sl.lookup x = some i) (hij : j = cx.n ∨ (j == i) = false) (hs : ∀ env, swapsWith value (some (.Name x p)) pos.line env = pure false := by intro _; rfl) :
    SR2 G cx j (exec (.Assign [.Name x p] value pos)) (assignC i f) := by
  intro σ t σ' hf A env B Z0 Z locs s hA hE hAct Q hQ
  unfold assignC at hf
  split at hf
  · rename_i sl σ₁ e₁
    cases hf
    refine wpAny_Assign_Name (hv σ _ _ e₁ A env B Z0 Z locs s hA hE hAct _ fun h₁ tk₁ Z₁ v as hz act hb hsv => ?_) (hs env)
    refine store_ok hE act hx fun h₂ tk₂ ℓ hl st => ?_
    exact hQ h₂ tk₂ Z₁ .next hz.sub (fun ℓ' v e q => st.other (fun e' => stay_ne hE act hij hl (e' ▸ e)) (hz.stay j ℓ' v e q)) (act.storeVal hAct.top hAct.z0 (fun a ha => ⟨hsv.held a ha, hb a ha⟩) hsv hl st) trivial
  · cases hf
theorem SR2.set {j : Nat} {x : Str} {p sp pos : Pos} {e value : Expr} {i : Nat} {fe : SemP} {fv : Sem1} (hv : SE G cx value fv) (hx : cx.sl.lookup x = some i) (hp : plainName x = true) (he : SP G cx e fe)
    (hs : ∀ env, swapsWith value (some (.Subscript (.Name x p) e sp)) pos.line env = pure false := by intro _; rfl) : SR2 G cx j (exec (.Assign [.Subscript (.Name x p) e sp] value pos)) (setC i fe fv) := by
  intro σ t σ' hf A env B Z0 Z locs s hA hE hAct Q hQ
  unfold setC at hf
  split at hf
  · rename_i t₁ σ₁ q₁
    split at hf
    · rename_i ts q₂
      split at hf
      · rename_i n q₃
        split at hf
        · rename_i hn
          split at hf
          · rename_i hle
            cases hf
            refine wpAny_Assign_Subscript (hv σ _ _ q₁ A env B Z0 Z locs s hA hE hAct _ fun h₁ tk₁ Z₁ v hz act rd => ?_) (hs env)
            obtain ⟨l, items, ℓ, hl, hv', hpl, hrl, fin⟩ := act.inPlace (ts' := ts.set n t₁) q₂
            have hsz := size_of hrl
            refine name_ok (s := { s with heap := h₁, toks := tk₁ }) hE hx hp hl hv' (he _ _ q₃ A env B Z0 Z₁ locs { s with heap := h₁, toks := tk₁ } hA hE act _ fun tk u => ?_)
            refine setItem_plain (s := { s with heap := h₁, toks := tk }) (j := n) hpl hle (by omega) fun h' hp' hs' => ?_
            refine hQ h' tk Z₁ .next hz.sub (fun ℓ' w e q => (stay_inPlace (Sub.refl Z₁) hpl hs').stay j ℓ' w e (hz.stay j ℓ' w e q)) (fin h' Z₁ _ act hs' hp' ?_) trivial
            simpa using hrl.set n rd
          · cases hf
        · cases hf
      · cases hf
    · cases hf
  · cases hf
/-- what stands between the turns of a for -/
inductive FInv (G : Glo) (B Z0 Z Z₁ : Zone) (locs : Nat → Option Loc) (jj : Nat) (ex : List Addr) (St : Nat → Heap → Prop) (ts : List T) (i : Nat) (fb : SemS) (s : Shared) (out : Out) (σ' : List Slot) (m : Nat) (s' : Shared) : Prop
  | mk (j : Nat) (h' : Heap) (tk : Nat) (Z' : Zone) (σ₂ : List Slot) (hm : m + j = ts.length) (hs : s' = { s with heap := h', toks := tk }) (hz' : Sub Z Z') (hz₁' : Sub Z₁ Z') (y' : ∀ ℓ v, locs jj = some ℓ → LocIs s.heap ℓ v → LocIs h' ℓ v) (act' : Act G (Plus B h' ex) Z0 Z' locs σ₂ h') (st' : St j h') (hf' : forC i fb (ts.drop j) σ₂ = some (out, σ'))
theorem SR2.forG {jj : Nat} {x : Str} {p pos : Pos} {iter : Expr} {b : List Stmt} {i : Nat} {f : SemL} {fb : SemS} (hi : SI G cx iter f) (hb : SR2 G cx jj (execs b) fb) (hx : cx.sl.lookup x = some i) (hij : jj = cx.n ∨ (jj == i) = false) (hs : ∀ env v, foldedSetIterable iter env v = pure v := by intro _ _; rfl) :
    SR2 G cx jj (exec (.For (.Name x p) iter b [] pos)) (forS i f fb) := by
  intro σ out σ' hf A env B Z0 Z locs s hA hE hAct Q hQ
  unfold forS at hf
  split at hf
  · rename_i ts σ₁ e₁
    refine wpAny_For (hi _ _ _ e₁ A env B Z0 Z locs s hA hE hAct _ fun h₁ tk₁ Z₁ I ex St hz act hex hlt W st => ?_) (hs env)
    refine codeAny_forLoop (FInv G B Z0 Z Z₁ locs jj ex St ts i fb s out σ') ?_ ts.length
      ⟨0, h₁, tk₁, Z₁, σ₁, by omega, rfl, hz.sub, Sub.refl _, fun ℓ v e q => hz.stay jj ℓ v e q, act, st, by simpa using hf⟩
    rintro m s' ⟨j, h', tk, Z', σ₂, hm, rfl, hz', hz₁', y', act', st', hf'⟩
    have top := hAct.top
    have z0 := hAct.z0
    cases hd : ts.drop j with
    | nil =>
      rw [hd] at hf'
      cases hf'
      have hj : j = ts.length := drop_nil_at hd hm
      subst hj
      refine wpAny_mono (W.done { s with heap := h', toks := tk } _ st' fun h₂ tk₂ k => ?_) (fun _ _ q => q) fun _ _ q => q.elim
      have al := W.alive _ _ st'
      have act₂ := (act'.step top z0 (fun a ha => ⟨al a ha, hex a ha⟩) k).drop top z0
      exact wpAny_execs_nil (hQ h₂ tk₂ Z' .next hz' (fun ℓ v e q => (ev_but act' (fun _ _ e => e) al k).stay jj ℓ v e (y' ℓ v e q)) act₂ trivial)
    | cons t rest =>
      rw [hd] at hf'
      have hlt : j < ts.length := drop_lt hd
      have ht : ts[j]? = some t := drop_at hd
      have hrest : ts.drop (j + 1) = rest := drop_rest hd
      refine wpAny_mono (W.item j t { s with heap := h', toks := tk } _ ht st' fun v h₂ tk₂ rd st₂ k => ?_) (fun _ _ q => q) fun _ _ q => q.elim
      have al := W.alive _ _ st'
      have act₂ := act'.step top z0 (fun a ha => ⟨al a ha, hex a ha⟩) k
      have al₂ := W.alive _ _ st₂
      have y₂ : ∀ ℓ v, locs jj = some ℓ → LocIs s.heap ℓ v → LocIs h₂ ℓ v := fun ℓ v e q => (ev_but act' (fun _ _ e => e) al k).stay jj ℓ v e (y' ℓ v e q)
      refine wpAny_assign_Name (wpAny_mono (store_ok (Q := fun _ s₃ => ∃ h₃ tk₃, s₃ = { s with heap := h₃, toks := tk₃ } ∧ Act G (Plus B h₂ ex) Z0 Z' locs (σ₂.set i (.fro t)) h₃ ∧ (∀ ℓ v, locs jj = some ℓ → LocIs s.heap ℓ v → LocIs h₃ ℓ v)) hE act₂ hx fun h₃ tk₃ ℓ hl st₃ => ⟨h₃, tk₃, rfl, act₂.storeFro hl st₃ (rd.mono hz₁'), fun ℓ' v e q => st₃.other (fun e' => stay_ne hE act₂ hij hl (e' ▸ e)) (y₂ ℓ' v e q)⟩) (fun _ s₃ q => ?_) fun _ _ q => q.elim)
      · obtain ⟨h₃, tk₃, rfl, act₃, y₃⟩ := q
        unfold forC at hf'
        split at hf'
        · rename_i σ₄ e₄
          refine wpAny_mono (hb _ _ _ e₄ A env _ Z0 Z' locs _ hA hE act₃ _ fun h₄ tk₄ Z₄ fl z₄ y₄ act₄ hfl => ?_) (fun _ _ q => q) fun _ _ q => q.elim
          rw [hfl.nextIs]
          have act₅ : Act G (Plus B h₄ ex) Z0 Z₄ locs σ₄ h₄ := act₄.step top z0 (fun a ha => ⟨al₂ a ha, hex a ha⟩) fun _ _ _ q => q
          refine ⟨m - 1, by omega, j + 1, h₄, tk₄, Z₄, σ₄, by omega, rfl, hz'.trans z₄, hz₁'.trans z₄, fun ℓ v e q => y₄ ℓ v e (y₃ ℓ v e q), act₅, ?_, by rw [hrest]; exact hf'⟩
          exact W.frame _ _ _ st₂ (fun b hb o q => act₄.base b o (.inr ⟨hb, q⟩)) (fun a o q _ => (act₄.zone a o (z₄ _ _ (hz₁' _ _ q))).1) fun a o q => (act₂.zone a o (hz₁' _ _ q)).1
        · rename_i r σ₄ e₄
          cases hf'
          refine wpAny_mono (hb _ _ _ e₄ A env _ Z0 Z' locs _ hA hE act₃ _ fun h₄ tk₄ Z₄ fl z₄ y₄ act₄ hfl => ?_) (fun _ _ q => q) fun _ _ q => q.elim
          obtain ⟨v', rfl, hv⟩ := hfl.retIs
          exact hQ h₄ tk₄ Z₄ _ (hz'.trans z₄) (fun ℓ v e q => y₄ ℓ v e (y₃ ℓ v e q)) (act₄.drop top z0) hv
        · cases hf'
  · cases hf

theorem SR2.assign {j : Nat} {x : Str} {p pos : Pos} {value : Expr} {i : Nat} {f : SemX} (hv : SX G cx value f) (hx : cx.sl.lookup x = some i) (hij : (j == i) = false) (hs : ∀ env, swapsWith value (some (.Name x p)) pos.line env = pure false := by intro _; rfl) :
    SR2 G cx j (exec (.Assign [.Name x p] value pos)) (assignC i f) := SR2.assignG hv hx (.inr hij) hs
theorem SR2.for {jj : Nat} {x : Str} {p pos : Pos} {iter : Expr} {b : List Stmt} {i : Nat} {f : SemL} {fb : SemS} (hi : SI G cx iter f) (hb : SR2 G cx jj (execs b) fb) (hx : cx.sl.lookup x = some i) (hij : (jj == i) = false) (hs : ∀ env v, foldedSetIterable iter env v = pure v := by intro _ _; rfl) :
    SR2 G cx jj (exec (.For (.Name x p) iter b [] pos)) (forS i f fb) := SR2.forG hi hb hx (.inr hij) hs
/-! a variable that is none leaves nothing to stand: the plain statements -/
theorem SR2.toSR {run : Env → Sem Flow} {f : SemS} (h : SR2 G cx cx.n run f) : SR G cx run f := fun σ out σ' hf A env B Z0 Z locs s hA hE hAct Q hQ =>
  h σ out σ' hf A env B Z0 Z locs s hA hE hAct Q fun h' tk Z' fl hz _ act hfl => hQ h' tk Z' fl hz act hfl
theorem SR.toSR2 {run : Env → Sem Flow} {f : SemS} (h : SR G cx run f) : SR2 G cx cx.n run f := fun σ out σ' hf A env B Z0 Z locs s hA hE hAct Q hQ =>
  h σ out σ' hf A env B Z0 Z locs s hA hE hAct Q fun h' tk Z' fl hz act hfl => hQ h' tk Z' fl hz (fun ℓ v e => by rw [hE.off _ (Nat.le_refl _)] at e; cases e) act hfl
theorem SSs.nil : SSs G cx [] skipC := SR2.toSR SR2.nil
theorem SSs.cons {st : Stmt} {sts : List Stmt} {f g : SemS} (h : SS G cx st f) (hs : SSs G cx sts g) : SSs G cx (st :: sts) (seqC f g) := SR2.toSR (SR2.cons h.toSR2 hs.toSR2)
theorem SS.if {c : Expr} {a b : List Stmt} {pos : Pos} {fc : SemB} {f g : SemS} (hc : ST G cx c fc) (ha : SSs G cx a f) (hb : SSs G cx b g) : SS G cx (.If c a b pos) (iffC fc f g) := SR2.toSR (SR2.if hc ha.toSR2 hb.toSR2)
theorem SS.assign {x : Str} {p pos : Pos} {value : Expr} {i : Nat} {f : SemX} (hv : SX G cx value f) (hx : cx.sl.lookup x = some i) (hs : ∀ env, swapsWith value (some (.Name x p)) pos.line env = pure false := by intro _; rfl) :
    SS G cx (.Assign [.Name x p] value pos) (assignC i f) := SR2.toSR (SR2.assignG hv hx (.inl rfl) hs)
theorem SS.set {x : Str} {p sp pos : Pos} {e value : Expr} {i : Nat} {fe : SemP} {fv : Sem1} (hv : SE G cx value fv) (hx : cx.sl.lookup x = some i) (hp : plainName x = true) (he : SP G cx e fe)
    (hs : ∀ env, swapsWith value (some (.Subscript (.Name x p) e sp)) pos.line env = pure false := by intro _; rfl) : SS G cx (.Assign [.Subscript (.Name x p) e sp] value pos) (setC i fe fv) := SR2.toSR (SR2.set hv hx hp he hs)
theorem SS.for {x : Str} {p pos : Pos} {iter : Expr} {b : List Stmt} {i : Nat} {f : SemL} {fb : SemS} (hi : SI G cx iter f) (hb : SSs G cx b fb) (hx : cx.sl.lookup x = some i) (hs : ∀ env v, foldedSetIterable iter env v = pure v := by intro _ _; rfl) :
    SS G cx (.For (.Name x p) iter b [] pos) (forS i f fb) := SR2.toSR (SR2.forG hi hb.toSR2 hx (.inl rfl) hs)

/-- arguments that are pure ints -/
noncomputable def SPL (G : Glo) (cx : Cx) (es : List Expr) (f : List Slot → Option (List Int)) : Prop :=
  ∀ pos σ is, f σ = some is → ∀ A env B Z0 Z locs s, AOk cx.k A → EnvOk cx env locs → Act G B Z0 Z locs σ s.heap →
  ∀ Q : List Value → Shared → Prop, (∀ tk vs, RdL Z (is.map .int) vs → Q vs { s with toks := tk }) → WP G A (spliced (backTo pos (starEach es env))) Q s
noncomputable def nilPL : List Slot → Option (List Int) := fun _ => some []
noncomputable def consPL (f : SemP) (g : List Slot → Option (List Int)) : List Slot → Option (List Int) := fun σ => match f σ with
  | some i => (match g σ with | some is => some (i :: is) | none => none)
  | none => none
theorem SPL.nil : SPL G cx [] nilPL := by
  intro pos σ t hf A env B Z0 Z locs s hA hE hAct Q hQ
  cases hf
  exact Calls.spliced_nil (hQ s.toks _ .nil)
theorem SPL.cons {e : Expr} {es : List Expr} {f : SemP} {g : List Slot → Option (List Int)} (he : SP G cx e f) (hes : SPL G cx es g) (hs : ∀ env, starEach (e :: es) env = (false, eval e env) :: starEach es env := by intro _; rfl) : SPL G cx (e :: es) (consPL f g) := by
  intro pos σ t hf A env B Z0 Z locs s hA hE hAct Q hQ
  unfold consPL at hf
  split at hf
  · rename_i i e₁
    split at hf
    · rename_i is e₂
      cases hf
      rw [hs]
      show WP G A (spliced ((false, eval e env) :: backTo pos (starEach es env))) Q s
      refine Calls.spliced_cons (he σ _ e₁ A env B Z0 Z locs s hA hE hAct _ fun tk t => ?_)
      exact hes pos _ _ e₂ A env B Z0 Z locs { s with toks := tk } hA hE hAct _ fun tk₂ vs rd => hQ tk₂ (.int i t :: vs) (.cons (.int _ _) rd)
    · cases hf
  · cases hf

/-- a call that only reads an owned list -/
noncomputable def borrowC (f : List T → Option T) (i : Nat) (fs : List Slot → Option (List Int)) : Sem1 := fun σ => match σ[i]? with
  | some (.own ts) => (match fs σ with
    | some is => (match f (.list ts :: is.map .int) with
      | some (.int r) => some (.int r, σ)
      | _ => none)
    | none => none)
  | _ => none
theorem SE.borrow {x fn : Str} {p pf pos : Pos} {es : List Expr} {i k : Nat} {f : List T → Option T} {fs : List Slot → Option (List Int)} (ok : GloOk G) (hc : CallP G fn k f) (hk : k ≤ cx.k) (hg : cx.sc.names.lookup fn = some .globalImplicit) (hpf : plainName fn = true) (hx : cx.sl.lookup x = some i) (hp : plainName x = true)
    (hes : SPL G cx es fs) (h1 : ∀ env, starEach (.Name x p :: es) env = (false, eval (.Name x p) env) :: starEach es env := by intro _; rfl) :
    SE G cx (.Call (.Name fn pf) (.Name x p :: es) [] pos) (borrowC f i fs) := by
  intro σ t σ' hf A env B Z0 Z locs s hA hE hAct Q hQ
  obtain ⟨fa, o, fd, hm, ho, hd, hcall⟩ := hc
  unfold borrowC at hf
  split at hf
  · rename_i ts e₁
    split at hf
    · rename_i is e₂
      split at hf
      · rename_i r e₃
        cases hf
        refine wpAny_Call_Name_kw (global_ok ok hE hAct hg hpf hm ?_)
        obtain ⟨Z', v, ℓ, hz, act, hl, hv, hr⟩ := hAct.freezeSlot e₁
        have gr : Grows G.hT s.heap := hAct.topGrows
        rw [h1]
        show WP G A (callWith pos (.ref fa) [] ((false, eval (.Name x p) env) :: backTo pos (starEach es env)) []) Q s
        refine Calls.callWith_function (fd := fd) (o := o) (Calls.evalArgs_plain (Calls.spliced_cons (name_ok hE hx hp hl hv (hes pos _ _ e₂ A env B Z0 Z locs s hA hE hAct _ fun tk vs rd => ?_))))
        refine ⟨⟨gr _ _ ho, hd⟩, ?_⟩
        exact hcall _ _ e₃ A Z' _ { s with toks := tk } (hA.le hk) gr act.zone (.cons hr (rd.mono hz)) Q fun h' tk' Z'' u _ gr' _ _ rd' => by
          cases rd'
          exact hQ h' tk' Z _ (.grow (Sub.refl _) gr') (hAct.grow gr') (.int _ _)
      · cases hf
    · cases hf
  · cases hf

/-- a call changes an owned list -/
theorem Act.mutate {B Z0 Z : Zone} {locs : Nat → Option Loc} {σ : List Slot} {h : Heap} {i : Nat} {ts : List T} (x : Act G B Z0 Z locs σ h) (hi : σ[i]? = some (.own ts)) :
    ∃ a items ℓ, locs i = some ℓ ∧ LocIs h ℓ (some (.ref a)) ∧ h.PlainList a items ∧ RdL Z ts items.toList ∧ (∀ o, ¬ Z a o) ∧ (∀ o, ¬ B a o) ∧ G.hT.get? a = none ∧
      ∀ (h' : Heap) (Z' : Zone) (items' : Array Value) (ts' : List T), (∀ b o, b ≠ a → h.get? b = some o → h'.get? b = some o) → Sub Z Z' → (∀ b o, Z' b o → h'.get? b = some o ∧ IsSeq o) → (∀ b o, Z' b o → Z b o ∨ h.get? b = none) → h'.PlainList a items' → RdL Z' ts' items'.toList → Act G B Z0 Z' locs (σ.set i (.own ts')) h' := by
  obtain ⟨ow, k1, k2, k3⟩ := x.sl
  obtain ⟨a, items, ℓ, e, hl, hv, hL, hr⟩ := k1 i _ hi
  have hm : a ∈ ow i := by rw [e]; simp
  obtain ⟨oa, hoa, hsa⟩ := isList_seq hL
  refine ⟨a, items, ℓ, hl, hv, hL, hr, (k2 i a hm).2.1, (k2 i a hm).2.2, ?_, fun h' Z' items' ts' ko hz hzz hn hL' hr' => ?_⟩
  · cases q : G.hT.get? a with
    | none => rfl
    | some o => exact absurd (x.top a o q) ((k2 i a hm).2.2 o)
  have kl : ∀ {ℓ : Loc} {v : Option Value}, LocIs h ℓ v → LocIs h' ℓ v := fun hv => hv.keep fun o q => ko _ o (fun z => seq_ne_loc hoa hsa hv z.symm) q
  exact {
    top := x.top
    base := fun b o hb => ko b o (fun q => (k2 i _ hm).2.2 o (q ▸ hb)) (x.base b o hb)
    zone := hzz
    z0 := x.z0
    zold := fun b o q => (hn b o q).elim (fun q => x.zold b o q) fun q => .inr fun o' hB => by have := x.base _ _ hB; rw [q] at this; cases this
    inj := x.inj
    loc := fun j ℓ₂ q => ⟨let ⟨v, hv⟩ := (x.loc j ℓ₂ q).1; ⟨v, kl hv⟩, (x.loc j ℓ₂ q).2⟩
    sl := by
      have hlt : i < σ.length := (List.getElem?_eq_some_iff.mp hi).1
      have hzo : ∀ j b, b ∈ ow j → ∀ o, ¬ Z' b o := fun j b hb o q => by
        rcases hn b o q with q | q
        · exact (k2 j b hb).2.1 o q
        · obtain ⟨o', ho'⟩ := Option.isSome_iff_exists.mp (k2 j b hb).1
          rw [q] at ho'; cases ho'
      refine ⟨ow, fun j s q => ?_, fun j b hb => ?_, k3⟩
      · by_cases hj : j = i
        · subst hj
          rw [List.getElem?_set_self hlt] at q; cases q
          exact ⟨a, items', ℓ, e, hl, kl hv, hL', hr'⟩
        · rw [List.getElem?_set_ne (Ne.symm hj)] at q
          exact ((k1 j s q).keep (fun ℓ _ v hv => kl hv) fun b hb o q' => ko b o (fun z => hj (k3 j i b hb (z ▸ hm))) q').zmono hz
      · refine ⟨?_, hzo j b hb, (k2 j b hb).2.2⟩
        by_cases hba : b = a
        · subst hba; obtain ⟨o', ho', _⟩ := isList_seq hL'; rw [ho']; rfl
        · obtain ⟨o', ho'⟩ := Option.isSome_iff_exists.mp (k2 j b hb).1
          rw [ko b o' hba ho']; rfl }

/-- the contract of a function that changes its first argument, a list, in place -/
inductive CallM (G : Glo) (x : Str) (k : Nat) (f : List T → List Int → Option (List T)) : Prop
  | mk (fa : Addr) (o : Obj) (fd : FuncData) (h1 : G.mg x = some (.ref fa)) (h2 : G.hT.get? fa = some o) (h3 : o.data = .func fd)
  (h4 : ∀ ts is us, f ts is = some us → ∀ A Z a items vs s, AOk k A → Grows G.hT s.heap → (∀ a o, Z a o → s.heap.get? a = some o ∧ IsSeq o) → G.hT.get? a = none → (∀ o, ¬ Z a o) → s.heap.PlainList a items → RdL Z ts items.toList → RdL Z (is.map .int) vs →
  ∀ Q : Value → Shared → Prop, (∀ h' tk Z' items', Sub Z Z' → (∀ b o, b ≠ a → s.heap.get? b = some o → h'.get? b = some o) → (∀ a o, Z' a o → h'.get? a = some o ∧ IsSeq o) → (∀ a o, Z' a o → Z a o ∨ s.heap.get? a = none) → h'.PlainList a items' → RdL Z' us items'.toList → Q .none { s with heap := h', toks := tk }) →
    WP G A (call (.ref fa) (.ref a :: vs)) Q s)

noncomputable def mutC (f : List T → List Int → Option (List T)) (i : Nat) (fs : List Slot → Option (List Int)) : SemS := fun σ => match σ[i]? with
  | some (.own ts) => (match fs σ with
    | some is => (match f ts is with
      | some us => some (.next, σ.set i (.own us))
      | none => none)
    | none => none)
  | _ => none
theorem SS.mutate {x fn : Str} {p pf cp pos : Pos} {es : List Expr} {i k : Nat} {f : List T → List Int → Option (List T)} {fs : List Slot → Option (List Int)} (ok : GloOk G) (hc : CallM G fn k f) (hk : k ≤ cx.k) (hg : cx.sc.names.lookup fn = some .globalImplicit) (hpf : plainName fn = true) (hx : cx.sl.lookup x = some i) (hp : plainName x = true)
    (hes : SPL G cx es fs) (h1 : ∀ env, starEach (.Name x p :: es) env = (false, eval (.Name x p) env) :: starEach es env := by intro _; rfl) :
    SS G cx (.Expr (.Call (.Name fn pf) (.Name x p :: es) [] cp) pos) (mutC f i fs) := by
  intro σ t σ' hf A env B Z0 Z locs s hA hE hAct Q hQ
  obtain ⟨fa, o, fd, hm, ho, hd, hcall⟩ := hc
  unfold mutC at hf
  split at hf
  · rename_i ts e₁
    split at hf
    · rename_i is e₂
      split at hf
      · rename_i us e₃
        cases hf
        have hi : interactive env = false := by unfold interactive; rw [hE.fn]; rfl
        refine wpAny_Expr ?_ hi rfl
        refine wpAny_Call_Name_kw (global_ok ok hE hAct hg hpf hm ?_)
        obtain ⟨a, items, ℓ, hl, hv, hpl, hr, hza, hba, hta, fin⟩ := hAct.mutate e₁
        have gr : Grows G.hT s.heap := hAct.topGrows
        rw [h1]
        show WP G A (callWith cp (.ref fa) [] ((false, eval (.Name x p) env) :: backTo cp (starEach es env)) []) _ s
        refine Calls.callWith_function (fd := fd) (o := o) (Calls.evalArgs_plain (Calls.spliced_cons (name_ok hE hx hp hl hv (hes cp _ _ e₂ A env B Z0 Z locs s hA hE hAct _ fun tk vs rd => ?_))))
        refine ⟨⟨gr _ _ ho, hd⟩, ?_⟩
        exact hcall _ _ _ e₃ A Z a items vs { s with toks := tk } (hA.le hk) gr hAct.zone hta hza hpl hr rd _ fun h' tk' Z' items' z1 k1 k2 k3 k4 k5 => hQ h' tk' Z' .next z1 (fin h' Z' items' us k1 z1 k2 k3 k4 k5) trivial
      · cases hf
    · cases hf
  · cases hf

end
end Mine

namespace Mine
open PySem PySem.W PyProof.Rows PySem.Calls
section
variable {G : Glo} {cx : Cx}

noncomputable def swapSub2 (w : Nat) (f : Sem1) (fi fj : SemP) : SemS := fun σ => match f σ with
  | some (.tup [t, u], σ₁) => (match σ₁[w]? with
    | some (.own ts) => (match fi σ₁ with
      | some (.ofNat n) => if n < ts.length then (if n ≤ 1000000 then (match fj (σ₁.set w (.own (ts.set n t))) with
        | some (.ofNat m) => if m < (ts.set n t).length then (if m ≤ 1000000 then some (.next, (σ₁.set w (.own (ts.set n t))).set w (.own ((ts.set n t).set m u))) else none) else none
        | _ => none) else none) else none
      | _ => none)
    | _ => none)
  | _ => none
theorem SS.swapSub {x y : Str} {p q sp sq tp pos : Pos} {k : Nat} {e₁ e₂ value : Expr} {w : Nat} {f : Sem1} {fi fj : SemP} (hv : SE G cx value f) (hx : cx.sl.lookup x = some w) (hp : plainName x = true) (hx' : cx.sl.lookup y = some w) (hp' : plainName y = true) (h₁ : SP G cx e₁ fi) (h₂ : SP G cx e₂ fj)
    (hn : ∀ env, (assignEach [.Subscript (.Name x p) e₁ sp, .Subscript (.Name y q) e₂ sq] env).map (·.2) = [PySem.assign (.Subscript (.Name x p) e₁ sp) env, PySem.assign (.Subscript (.Name y q) e₂ sq) env] := by intro _; rfl)
    (hl : ∀ env, (assignEach [.Subscript (.Name x p) e₁ sp, .Subscript (.Name y q) e₂ sq] env).length = 2 ∧ (assignEach [.Subscript (.Name x p) e₁ sp, .Subscript (.Name y q) e₂ sq] env).findIdx? (·.1) = none := by intro _; exact ⟨rfl, rfl⟩)
    (hs : ∀ env, swapsWithSole [.Tuple [.Subscript (.Name x p) e₁ sp, .Subscript (.Name y q) e₂ sq] k tp] value pos.line env = pure false := by intro _; rfl)
    (hw : ∀ env : Env, env.scope = cx.sc → swappedStores [.Tuple [.Subscript (.Name x p) e₁ sp, .Subscript (.Name y q) e₂ sq] k tp] value env = pure none) :
    SS G cx (.Assign [.Tuple [.Subscript (.Name x p) e₁ sp, .Subscript (.Name y q) e₂ sq] k tp] value pos) (swapSub2 w f fi fj) := by
  intro σ t σ' hf A env B Z0 Z locs s hA hE hAct Q hQ
  unfold swapSub2 at hf
  split at hf
  · rename_i t₁ t₂ σ₁ q₁
    split at hf
    · rename_i ts q₂
      split at hf
      · rename_i n q₃
        split at hf
        · rename_i hn1
          split at hf
          · rename_i hn2
            split at hf
            · rename_i m q₄
              split at hf
              · rename_i hm1
                split at hf
                · rename_i hm2
                  cases hf
                  refine PyProof.Rows.Assign_Tuple (hv σ _ _ q₁ A env B Z0 Z locs s hA hE hAct _ fun g₁ tk₁ Z₁ v hz act rd => ?_) (hs env) (hw env hE.sc)
                  obtain ⟨l, o, items, c, rfl, ho, hc, hd, hr⟩ := tupAt (s := { s with heap := g₁, toks := tk₁ }) (fun a o q => (act.zone a o q).1) rd
                  obtain ⟨v₁, v₂, rfl, r1, r2⟩ := pair_of hr
                  refine wpAny_assign_Tuple hA.handled ⟨o, ho, hc, c, hd⟩ (hl env).1 (hl env).2 fun g₂ hk => ?_
                  rw [hn]
                  have gr : Grows g₁ g₂ := fun b p q => hk b p (Nat.ne_of_lt (Heap.lt_size q)) q
                  have act₂ := act.grow gr
                  show WP G A (do holding [v₂] (PySem.assign (.Subscript (.Name x p) e₁ sp) env v₁); (do holding [] (PySem.assign (.Subscript (.Name y q) e₂ sq) env v₂); pure ())) _ _
                  refine wpAny_bind (wpAny_holding (kas_sub ?_))
                  refine setAt_ok (s := { s with heap := g₂, toks := tk₁ }) hA hE act₂ hx hp h₁ q₂ q₃ hn1 hn2 r1 fun g₃ tk₃ act₃ => ?_
                  refine wpAny_bind (wpAny_holding (kas_sub ?_))
                  have hlt : w < σ₁.length := (List.getElem?_eq_some_iff.mp q₂).1
                  refine setAt_ok (s := { s with heap := g₃, toks := tk₃ }) hA hE act₃ hx' hp' h₂ (List.getElem?_set_self hlt) q₄ hm1 hm2 r2 fun h₄ tk₄ act₄ => ?_
                  exact wpAny_pure (hQ h₄ tk₄ Z₁ .next hz.sub act₄ trivial)
                · cases hf
              · cases hf
            · cases hf
          · cases hf
        · cases hf
      · cases hf
    · cases hf
  · cases hf

/-! a comprehension with two sources -/
theorem compTurn_in (elt t0 i0 target iter : Expr) (scope : Scope) (pos : Pos) (it acc : Value) (env : Env) :
    compTurn (.ListComp elt [⟨t0, i0, [], 0⟩, ⟨target, iter, [], 0⟩] scope pos) 1 it acc env = (standAt iter.pos >>= fun _ => pyNext it >>= fun r => match r with
      | none => pure (.done .next)
      | some v => letOwnedTupleGo target it v >>= fun _ => PySem.assign target env v >>= fun _ =>
        (eval elt env >>= fun x => call (.builtin "list.append") [acc, x] >>= fun _ => pure ()) >>= fun _ =>
          again (.compLoop (.ListComp elt [⟨t0, i0, [], 0⟩, ⟨target, iter, [], 0⟩] scope pos) 1 it acc env)) := by rfl
theorem compTurn_out (elt t0 i0 target iter : Expr) (scope : Scope) (pos : Pos) (it acc : Value) (env : Env) :
    compTurn (.ListComp elt [⟨t0, i0, [], 0⟩, ⟨target, iter, [], 0⟩] scope pos) 0 it acc env = (standAt i0.pos >>= fun _ => pyNext it >>= fun r => match r with
      | none => pure (.done .next)
      | some v => letOwnedTupleGo t0 it v >>= fun _ => PySem.assign t0 env v >>= fun _ =>
        (eval iter env >>= fun x => standAt iter.pos >>= fun _ => foldedSetIterable iter env x >>= fun x => holding [x] (pyIter x) >>= fun it' => runOwn (.compStart (.ListComp elt [⟨t0, i0, [], 0⟩, ⟨target, iter, [], 0⟩] scope pos) 1 it' acc env) env >>= fun _ =>
          again (.compLoop (.ListComp elt [⟨t0, i0, [], 0⟩, ⟨target, iter, [], 0⟩] scope pos) 0 it acc env))) := by rfl
end
end Mine

namespace Mine
open PySem PySem.W PyProof.Rows PySem.Calls
section
variable {G : Glo} {cx : Cx}

theorem compLoop_in {A : Around} {R : Result → Shared → Prop} {s : Shared} {elt t0 i0 target iter : Expr} {scope : Scope} {pos : Pos} {it acc : Value} {env : Env} (I : Nat → Shared → Prop)
    (turn : ∀ n s, I n s → WP G A (pyNext it) (fun r s₁ => match r with
      | none => R (.ok .next) s₁
      | some v => WP G A (letOwnedTupleGo target it v) (fun _ s₂ => WP G A (PySem.assign target env v) (fun _ s₃ => WP G A (eval elt env) (fun x s₄ =>
          WP G A (call (.builtin "list.append") [acc, x]) (fun _ s₅ => ∃ m, m < n ∧ I m s₅) s₄) s₃) s₂) s₁) s)
    (n : Nat) (h : I n s) : codeAny (model G.prog G.w) A (.compLoop (.ListComp elt [⟨t0, i0, [], 0⟩, ⟨target, iter, [], 0⟩] scope pos) 1 it acc env) R s := by
  refine codeAny_loop rfl I (fun n s hI => ?_) n h
  show wpAny _ _ ((compTurn (.ListComp elt [⟨t0, i0, [], 0⟩, ⟨target, iter, [], 0⟩] scope pos) 1 it acc env).onRaise (fun x => do noteFrame x env; theTreesLotGoes x)) _ _ s
  refine wpAny_noted ?_
  rw [compTurn_in]
  refine wpAny_bind (wpAny_standAt (wpAny_bind (wpAny_mono (turn n s hI) (fun r s₁ h₁ => ?_) fun _ _ q => q.elim)))
  cases r with
  | none => exact wpAny_pure h₁
  | some v =>
    refine wpAny_bind (wpAny_mono h₁ (fun _ s₂ h₂ => ?_) fun _ _ q => q.elim)
    refine wpAny_bind (wpAny_mono h₂ (fun _ s₃ h₃ => wpAny_bind (wpAny_bind (wpAny_mono h₃ (fun x s₄ h₄ => wpAny_bind (wpAny_mono h₄
      (fun _ s₅ h₅ => wpAny_pure (wpAny_pure ⟨rfl, h₅⟩)) fun _ _ q => q.elim)) fun _ _ q => q.elim))) fun _ _ q => q.elim)

theorem comp_loop_in {A : Around} {cx' : Cx} {cenv : Env} {B Z0 Z₂ : Zone} {locs locs' : Nat → Option Loc} {D : Addr} {ex : List Addr} {f : Sem1} {t0 i0 target elt iter : Expr} {scope : Scope} {pos : Pos} {it : Value} {St : Nat → Heap → Prop} {gs : List (List Slot → List Slot)} {R : Result → Shared → Prop} {s : Shared} {us pre₀ : List T} {items₀ : Array Value} {σ σ₃ : List Slot}
    (hA : AOk cx'.k A) (hE' : EnvOk cx' cenv locs') (ho : ∀ i ℓ, locs i = some ℓ → locs' i = some ℓ) (he : SE G cx' elt f) (top : ∀ a o, G.hT.get? a = some o → B a o) (z0 : ∀ a o, Z0 a o → B a o)
    (hD : ∀ o, ¬ B D o) (hDex : D ∉ ex) (hex : ∀ a ∈ ex, ∀ o, ¬ B a o) (alive : ∀ i h, St i h → ∀ a ∈ ex, (h.get? a).isSome)
    (frame : ∀ i h h', St i h → (∀ b ∈ ex, ∀ o, h.get? b = some o → h'.get? b = some o) → (∀ a o, Z₂ a o → h.get? a = some o → h'.get? a = some o) → (∀ a o, Z₂ a o → h.get? a = some o) → St i h')
    (turn : TurnOk G A B Z0 Z₂ locs locs' D ex St target cenv it gs) (done : DoneOk G A B Z0 locs locs' D ex St it gs.length)
    (st : St 0 s.heap) (act : Act G (Plus B s.heap (D :: ex)) Z0 Z₂ locs' σ s.heap) (hpl : s.heap.PlainList D items₀) (rd₀ : RdL Z₂ pre₀ items₀.toList) (hlen₀ : pre₀.length ≤ 1000000) (hlen : gs.length ≤ 1000000) (hf : compG f gs σ = some (us, σ₃))
    (hR : ∀ h' tk Z' items, Ev locs Z₂ Z' s.heap h' → Act G (Plus B h' (D :: ex)) Z0 Z' locs' σ₃ h' → h'.PlainList D items → RdL Z' (pre₀ ++ us) items.toList → R (.ok .next) { s with heap := h', toks := tk }) :
    codeAny (model G.prog G.w) A (.compLoop (.ListComp elt [⟨t0, i0, [], 0⟩, ⟨target, iter, [], 0⟩] scope pos) 1 it (.ref D) cenv) R s :=
  comp_core (fun I turn n h => compLoop_in I turn n h) hA hE' ho he top z0 hD hDex hex alive frame turn done st act hpl rd₀ hlen₀ hlen hf hR
end
end Mine

namespace Mine
open PySem PySem.W PyProof.Rows PySem.Calls
section
variable {G : Glo} {cx : Cx}

theorem compStart_in {A : Around} {R : Result → Shared → Prop} {s : Shared} {elt t0 i0 target iter : Expr} {scope : Scope} {pos : Pos} {it acc : Value} {env : Env}
    (h0 : codeAny (model G.prog G.w) A (.compLoop (.ListComp elt [⟨t0, i0, [], 0⟩, ⟨target, iter, [], 0⟩] scope pos) 1 it acc env) R s)
    (h : WP G A (pyIter it) (fun it' s' => codeAny (model G.prog G.w) A (.compLoop (.ListComp elt [⟨t0, i0, [], 0⟩, ⟨target, iter, [], 0⟩] scope pos) 1 it' acc env) R s') s) :
    codeAny (model G.prog G.w) A (.compStart (.ListComp elt [⟨t0, i0, [], 0⟩, ⟨target, iter, [], 0⟩] scope pos) 1 it acc env) R s := by
  refine codeAny_of_tree ?_
  show wpAny _ _ ((compStart (.ListComp elt [⟨t0, i0, [], 0⟩, ⟨target, iter, [], 0⟩] scope pos) 1 it acc env).onRaise (fun x => do noteFrame x env; standAt theWindowsPlace)) _ _ s
  refine wpAny_notedAt ?_
  unfold compStart
  show wpAny _ _ (ask >>= _) _ _ s
  refine wpAny_bind (wpAny_askSetting (wpAny_ite ?_))
  split
  · first
      | exact wpAny_bind (wpAny_pure (wpAny_pure (And.intro rfl h0)))
      | exact wpAny_pure (And.intro rfl h0)
  · refine wpAny_bind (wpAny_rule ?_)
    show wpAny _ _ (standAt iter.pos >>= _) _ _ s
    exact wpAny_bind (wpAny_standAt (wpAny_bind (wpAny_mono h (fun it' s' h' => wpAny_pure (And.intro rfl h')) fun _ _ x => x.elim)))

theorem compLoop_out {A : Around} {R : Result → Shared → Prop} {s : Shared} {elt t0 i0 target iter : Expr} {scope : Scope} {pos : Pos} {it acc : Value} {env : Env} (I : Nat → Shared → Prop) (hs : ∀ v, foldedSetIterable iter env v = pure v)
    (turn : ∀ n s, I n s → WP G A (pyNext it) (fun r s₁ => match r with
      | none => R (.ok .next) s₁
      | some v => WP G A (letOwnedTupleGo t0 it v) (fun _ s₂ => WP G A (PySem.assign t0 env v) (fun _ s₃ => WP G A (eval iter env) (fun x s₄ => WP G A (pyIter x) (fun it' s₅ =>
          ∀ R' : Result → Shared → Prop, (∀ s₆, (∃ m, m < n ∧ I m s₆) → R' (.ok .next) s₆) → codeAny (model G.prog G.w) A (.compStart (.ListComp elt [⟨t0, i0, [], 0⟩, ⟨target, iter, [], 0⟩] scope pos) 1 it' acc env) R' s₅) s₄) s₃) s₂) s₁) s)
    (n : Nat) (h : I n s) : codeAny (model G.prog G.w) A (.compLoop (.ListComp elt [⟨t0, i0, [], 0⟩, ⟨target, iter, [], 0⟩] scope pos) 0 it acc env) R s := by
  refine codeAny_loop rfl I (fun n s hI => ?_) n h
  show wpAny _ _ ((compTurn (.ListComp elt [⟨t0, i0, [], 0⟩, ⟨target, iter, [], 0⟩] scope pos) 0 it acc env).onRaise (fun x => do noteFrame x env; theTreesLotGoes x)) _ _ s
  refine wpAny_noted ?_
  rw [compTurn_out]
  refine wpAny_bind (wpAny_standAt (wpAny_bind (wpAny_mono (turn n s hI) (fun r s₁ h₁ => ?_) fun _ _ q => q.elim)))
  cases r with
  | none => exact wpAny_pure h₁
  | some v =>
    refine wpAny_bind (wpAny_mono h₁ (fun _ s₂ h₂ => ?_) fun _ _ q => q.elim)
    refine wpAny_bind (wpAny_mono h₂ (fun _ s₃ h₃ => ?_) fun _ _ q => q.elim)
    refine wpAny_bind (wpAny_mono h₃ (fun x s₄ h₄ => ?_) fun _ _ q => q.elim)
    refine wpAny_bind (wpAny_standAt ?_)
    rw [hs]
    refine wpAny_bind (wpAny_pure ?_)
    refine wpAny_bind (wpAny_holding (wpAny_mono h₄ (fun it' s₅ h₅ => ?_) fun _ _ q => q.elim))
    refine wpAny_bind (wpAny_runOwn (h₅ _ fun s₆ h₆ => ?_))
    exact wpAny_pure ⟨rfl, h₆⟩

theorem plus_shift {B : Zone} {h h₃ : Heap} {D : Addr} {ex ex' : List Addr} (al : ∀ a ∈ D :: ex, (h.get? a).isSome) (k : ∀ a ∈ D :: ex, ∀ o, h.get? a = some o → h₃.get? a = some o) : Plus (Plus B h (D :: ex)) h₃ ex' = Plus (Plus B h₃ ex) h₃ (D :: ex') := by
  funext a o
  have back : ∀ {b}, b ∈ D :: ex → ∀ o, h₃.get? b = some o → h.get? b = some o := fun {b} hb o e => by
    obtain ⟨o', ho'⟩ := Option.isSome_iff_exists.mp (al b hb)
    rw [k b hb o' ho'] at e; rw [ho', e]
  refine propext ⟨fun q => ?_, fun q => ?_⟩
  · rcases q with (q | ⟨q1, q2⟩) | ⟨q1, q2⟩
    · exact .inl (.inl q)
    · have := k a q1 o q2
      rcases List.mem_cons.mp q1 with rfl | q1
      · exact .inr ⟨List.mem_cons_self, this⟩
      · exact .inl (.inr ⟨q1, this⟩)
    · exact .inr ⟨List.mem_cons_of_mem _ q1, q2⟩
  · rcases q with (q | ⟨q1, q2⟩) | ⟨q1, q2⟩
    · exact .inl (.inl q)
    · exact .inl (.inr ⟨List.mem_cons_of_mem _ q1, back (List.mem_cons_of_mem _ q1) o q2⟩)
    · rcases List.mem_cons.mp q1 with rfl | q1
      · exact .inl (.inr ⟨List.mem_cons_self, back List.mem_cons_self o q2⟩)
      · exact .inr ⟨q1, q2⟩
theorem plus_back {B : Zone} {h h₄ : Heap} {D : Addr} {ex : List Addr} (al : ∀ a ∈ ex, (h.get? a).isSome) (k : ∀ a ∈ ex, ∀ o, h.get? a = some o → h₄.get? a = some o) : Plus (Plus B h ex) h₄ [D] = Plus B h₄ (D :: ex) := by
  funext a o
  have back : ∀ {b}, b ∈ ex → ∀ o, h₄.get? b = some o → h.get? b = some o := fun {b} hb o e => by
    obtain ⟨o', ho'⟩ := Option.isSome_iff_exists.mp (al b hb)
    rw [k b hb o' ho'] at e; rw [ho', e]
  refine propext ⟨fun q => ?_, fun q => ?_⟩
  · rcases q with (q | ⟨q1, q2⟩) | ⟨q1, q2⟩
    · exact .inl q
    · exact .inr ⟨List.mem_cons_of_mem _ q1, k a q1 o q2⟩
    · exact .inr ⟨by rw [List.mem_singleton.mp q1]; exact List.mem_cons_self, q2⟩
  · rcases q with q | ⟨q1, q2⟩
    · exact .inl (.inl q)
    · rcases List.mem_cons.mp q1 with rfl | q1
      · exact .inr ⟨by simp, q2⟩
      · exact .inl (.inr ⟨q1, back q1 o q2⟩)

noncomputable def prodG (n : Nat) (it2 : SemL) (f : Sem1) : List T → SemL
  | [] => fun σ => some ([], σ)
  | t :: ts => fun σ => match it2 (σ.set n (.fro t)) with
    | some (ts', σ₁) => if ts'.length ≤ 1000000 then (match compG f (ts'.map fun t (σ : List Slot) => σ.set (n + 1) (.fro t)) σ₁ with
      | some (us, σ₂) => (match prodG n it2 f ts σ₂ with
        | some (vs, σ₃) => some (us ++ vs, σ₃)
        | none => none)
      | none => none) else none
    | none => none

/-- what stands between the turns, and after a turn's name is bound -/
inductive PInv (G : Glo) (B Z0 Z₂ : Zone) (locs locs' : Nat → Option Loc) (D : Addr) (ex : List Addr) (it2 : SemL) (f : Sem1) (St : Nat → Heap → Prop) (ts : List T) (n : Nat) (s : Shared) (us : List T) (σ₃ : List Slot) (m : Nat) (s' : Shared) : Prop
  | mk (j : Nat) (h' : Heap) (tk : Nat) (Z' : Zone) (σ₂ : List Slot) (items : Array Value) (pre us' : List T) (hm : m + j = ts.length) (hs : s' = { s with heap := h', toks := tk }) (hz' : Ev locs Z₂ Z' s.heap h') (act' : Act G (Plus B h' (D :: ex)) Z0 Z' locs' σ₂ h') (st' : St j h') (hpl' : h'.PlainList D items) (rd' : RdL Z' pre items.toList) (hus : us = pre ++ us') (hf' : prodG n it2 f (ts.drop j) σ₂ = some (us', σ₃))
inductive PTurn (G : Glo) (B Z0 Z' : Zone) (locs locs' : Nat → Option Loc) (D : Addr) (ex : List Addr) (σ₂ : List Slot) (S : Heap → Prop) (s : Shared) (h' : Heap) (s₃ : Shared) : Prop
  | mk (h₂ : Heap) (tk₂ : Nat) (hs : s₃ = { s with heap := h₂, toks := tk₂ }) (st₂ : S h₂) (act₂ : Act G (Plus B h₂ (D :: ex)) Z0 Z' locs' σ₂ h₂) (q2 : h₂.get? D = h'.get? D) (q3 : Ev locs Z' Z' h' h₂)
theorem prod_loop {A : Around} {cx' : Cx} {cenv : Env} {B Z0 Z₂ : Zone} {locs locs' : Nat → Option Loc} {D I : Addr} {ex : List Addr} {f : Sem1} {it2 : SemL} {i0 iter elt : Expr} {x y : Str} {px py : Pos} {scope : Scope} {pos : Pos} {St : Nat → Heap → Prop} {n : Nat} {R : Result → Shared → Prop} {s : Shared} {ts us : List T} {σ σ₃ : List Slot}
    (hA : AOk cx'.k A) (hE' : EnvOk cx' cenv locs') (ho : ∀ i ℓ, locs i = some ℓ → locs' i = some ℓ) (he : SE G cx' elt f) (hi2 : SI G cx' iter it2) (top : ∀ a o, G.hT.get? a = some o → B a o) (z0 : ∀ a o, Z0 a o → B a o)
    (hD : ∀ o, ¬ B D o) (hDex : D ∉ ex) (hex : ∀ a ∈ ex, ∀ o, ¬ B a o) (W : WalkT G A I ex Z₂ ts St) (hx : cx'.sl.lookup x = some n) (hy : cx'.sl.lookup y = some (n + 1)) (hi : locs n = none) (hi' : locs (n + 1) = none) (hs : ∀ v, foldedSetIterable iter cenv v = pure v)
    (st : St 0 s.heap) (act : Act G (Plus B s.heap (D :: ex)) Z0 Z₂ locs' σ s.heap) (hpl : s.heap.PlainList D #[]) (hlen : us.length ≤ 1000000) (hf : prodG n it2 f ts σ = some (us, σ₃))
    (hR : ∀ h' tk Z' items, Ev locs Z₂ Z' s.heap h' → Act G (Plus B h' (D :: ex)) Z0 Z' locs' σ₃ h' → h'.PlainList D items → RdL Z' us items.toList → R (.ok .next) { s with heap := h', toks := tk }) :
    codeAny (model G.prog G.w) A (.compLoop (.ListComp elt [⟨.Name x px, i0, [], 0⟩, ⟨.Name y py, iter, [], 0⟩] scope pos) 0 (.ref I) (.ref D) cenv) R s := by
  have T1 := turn_single (px := px) W hE' hx ho hi top z0 hD hDex hex
  have D1 := done_gen (n := ts.length) (I := I) W.alive (fun s Q st' hQ => W.done s Q st' hQ) ho top z0 hD hDex hex
  refine compLoop_out (PInv G B Z0 Z₂ locs locs' D ex it2 f St ts n s us σ₃) hs ?_ ts.length
    ⟨0, s.heap, s.toks, Z₂, σ, #[], [], us, by omega, rfl, Ev.refl _ _ _, act, st, hpl, .nil, rfl, by simpa using hf⟩
  rintro m s' ⟨j, h', tk, Z', σ₂, items, pre, us', hm, rfl, hz', act', st', hpl', rd', hus, hf'⟩
  cases hd : ts.drop j with
  | nil =>
    rw [hd] at hf'
    cases hf'
    have hj : j = ts.length := drop_nil_at hd hm
    subst hj
    refine wpAny_mono (D1 Z' _ { s with heap := h', toks := tk } st' act' ⟨items, hpl'⟩ (fun s'' => R (.ok .next) s'') fun h₂ tk₂ act₂ q2 q3 => ?_) (fun r s₁ q => ?_) fun _ _ q => q.elim
    · have hpl₂ : h₂.PlainList D items := by obtain ⟨n, hn⟩ := hpl'; exact ⟨n, q2.trans hn⟩
      exact hR h₂ tk₂ Z' items (hz'.trans q3) act₂ hpl₂ (by rw [hus, List.append_nil]; exact rd')
    · cases r with
      | none => exact q
      | some v => exact q.elim
  | cons t rest =>
    rw [hd] at hf'
    have hlt' : j < ts.length := drop_lt hd
    have ht : ts[j]? = some t := drop_at hd
    have hrest : ts.drop (j + 1) = rest := drop_rest hd
    unfold prodG at hf'
    split at hf'
    · rename_i ts₁ σ₄ e₄
      split at hf'
      · rename_i hl1
        split at hf'
        · rename_i us₁ σ₅ e₅
          split at hf'
          · rename_i us₂ σ₆ e₆
            cases hf'
            refine wpAny_mono (T1 j (fun σ => σ.set n (.fro t)) (by rw [List.getElem?_map, ht]; rfl) Z' σ₂ { s with heap := h', toks := tk } hz'.sub st' act' ⟨items, hpl'⟩
              (fun _ => PTurn G B Z0 Z' locs locs' D ex (σ₂.set n (.fro t)) (St (j + 1)) s h') fun h₂ tk₂ st₂ act₂ q2 q3 => ⟨h₂, tk₂, rfl, st₂, act₂, q2, q3⟩) (fun r s₁ q => ?_) fun _ _ q => q.elim
            cases r with
            | none => exact q.elim
            | some v =>
              refine wpAny_mono q (fun _ s₂ q => wpAny_mono q (fun _ s₃ q => ?_) fun _ _ q => q.elim) fun _ _ q => q.elim
              obtain ⟨h₂, tk₂, rfl, st₂, act₂, q2, q3⟩ := q
              have hpl₂ : h₂.PlainList D items := by obtain ⟨n, hn⟩ := hpl'; exact ⟨n, q2.trans hn⟩
              refine hi2 _ _ _ e₄ A cenv _ Z0 Z' locs' { s with heap := h₂, toks := tk₂ } hA hE' act₂ _ fun h₃ tk₃ Z₃ I' ex' St' ev₃ act₃ hex' hlt₃ W' st₃ R' hR' => ?_
              dsimp only at ev₃ act₃ hex' hlt₃ st₃
              obtain ⟨oD, hoD, _⟩ := isList_seq hpl₂
              have al₂ : ∀ a ∈ D :: ex, (h₂.get? a).isSome := fun a ha => by
                rcases List.mem_cons.mp ha with rfl | ha
                · rw [hoD]; rfl
                · exact W.alive _ _ st₂ a ha
              have k₃ : ∀ a ∈ D :: ex, ∀ o, h₂.get? a = some o → h₃.get? a = some o := fun a ha o q => act₃.base a o (.inl (.inr ⟨ha, q⟩))
              have act₃' : Act G (Plus (Plus B h₃ ex) h₃ (D :: ex')) Z0 Z₃ locs' σ₄ h₃ := by rw [← plus_shift al₂ k₃]; exact act₃
              have hpl₃ : h₃.PlainList D items := hpl₂.at fun o q => k₃ D List.mem_cons_self o q
              have hD₃ : ∀ o, ¬ Plus B h₃ ex D o := fun o q => q.elim (hD o) fun q => hDex q.1
              have hDex' : D ∉ ex' := fun q => hex' D q oD (.inr ⟨List.mem_cons_self, hoD⟩)
              have hex₃ : ∀ a ∈ ex', ∀ o, ¬ Plus B h₃ ex a o := fun a ha o q => by
                rcases q with q | ⟨q1, q2⟩
                · exact hex' a ha o (.inl q)
                · obtain ⟨o', ho'⟩ := Option.isSome_iff_exists.mp (al₂ a (List.mem_cons_of_mem _ q1))
                  exact hex' a ha o' (.inr ⟨List.mem_cons_of_mem _ q1, ho'⟩)
              have top₃ : ∀ a o, G.hT.get? a = some o → Plus B h₃ ex a o := fun a o q => .inl (top a o q)
              have z0₃ : ∀ a o, Z0 a o → Plus B h₃ ex a o := fun a o q => .inl (z0 a o q)
              have hlp : pre.length ≤ 1000000 := by have := congrArg List.length hus; simp at this; omega
              have loop : codeAny (model G.prog G.w) A (.compLoop (.ListComp elt [⟨.Name x px, i0, [], 0⟩, ⟨.Name y py, iter, [], 0⟩] scope pos) 1 (.ref I') (.ref D) cenv) R' { s with heap := h₃, toks := tk₃ } := by
                refine comp_loop_in (s := { s with heap := h₃, toks := tk₃ }) (cx' := cx') (B := Plus B h₃ ex) (Z0 := Z0) (Z₂ := Z₃) (locs := locs) (ex := ex') (St := St') (gs := ts₁.map fun t (σ : List Slot) => σ.set (n + 1) (.fro t)) hA hE' ho he top₃ z0₃ hD₃ hDex' hex₃ W'.alive W'.frame
                  (turn_single W' hE' hy ho hi' top₃ z0₃ hD₃ hDex' hex₃) (done_gen W'.alive (fun s Q st' hQ => W'.done s Q (by simpa using st') hQ) ho top₃ z0₃ hD₃ hDex' hex₃) st₃ act₃' hpl₃ (rd'.mono ev₃.sub) hlp (by simpa using hl1) e₅ ?_
                intro h₄ tk₄ Z₄ items₄ ev₄ act₄ hpl₄ rd₄
                dsimp only at ev₄ act₄
                have k₄ : ∀ a ∈ ex, ∀ o, h₃.get? a = some o → h₄.get? a = some o := fun a ha o q => act₄.base a o (.inl (.inr ⟨ha, q⟩))
                have al₃ : ∀ a ∈ ex, (h₃.get? a).isSome := fun a ha => by
                  obtain ⟨o, ho'⟩ := Option.isSome_iff_exists.mp (al₂ a (List.mem_cons_of_mem _ ha))
                  rw [k₃ a (List.mem_cons_of_mem _ ha) o ho']; rfl
                have act₅ : Act G (Plus B h₄ (D :: ex)) Z0 Z₄ locs' σ₅ h₄ := by
                  rw [← plus_back al₃ k₄]
                  exact act₄.dropTail top₃ z0₃
                have ev₃' : Ev locs Z' Z₃ h₂ h₃ := ⟨ev₃.sub, fun i ℓ v e q => ev₃.stay i ℓ v (ho i ℓ e) q⟩
                refine hR' _ ⟨m - 1, by omega, j + 1, h₄, tk₄, Z₄, σ₅, items₄, pre ++ us₁, us₂, by omega, rfl, ((hz'.trans q3).trans ev₃').trans ev₄, act₅, ?_, hpl₄, rd₄, by rw [hus]; simp, by rw [hrest]; exact e₆⟩
                have zz : ∀ a o, Z₂ a o → h₄.get? a = some o := fun a o q => (act₅.zone a o (ev₄.sub _ _ (ev₃.sub _ _ (hz'.sub _ _ q)))).1
                exact W.frame _ _ _ st₂ (fun b hb o q => k₄ b hb o (k₃ b (List.mem_cons_of_mem _ hb) o q)) (fun a o q _ => zz a o q) fun a o q => (act₂.zone a o (hz'.sub _ _ q)).1
              exact compStart_in loop (W'.self 0 _ _ st₃ loop)
          · cases hf'
        · cases hf'
      · cases hf'
    · cases hf'
end
end Mine

namespace Mine
open PySem PySem.W PyProof.Rows PySem.Calls
section
variable {G : Glo} {cx : Cx}

/-- from the source to the loop -/
theorem comp_enter2 {A : Around} {env : Env} {B Z0 Z₂ : Zone} {locs : Nat → Option Loc} {scope : Scope} {cl : List (Str × Addr)} {elt target iter : Expr} {g₂ : Comprehension} {pos : Pos} {σ₂ : List Slot} {s₂ : Shared} {I : Addr} {ex : List Addr}
    {RR : Value → Addr → Result → Shared → Prop} {E : Value → Shared → Prop}
    (act : Act G (Plus B s₂.heap ex) Z0 Z₂ locs σ₂ s₂.heap) (hexS : ∀ a ∈ ex, (s₂.heap.get? a).isSome) (self : ∀ h₄, Grows s₂.heap h₄ → ∀ (s : Shared) (Q : Value → Shared → Prop), s.heap = h₄ → Q (.ref I) s → WP G A (pyIter (.ref I)) Q s)
    (h : ∀ D C h₄, Grows s₂.heap h₄ → h₄.Ns C (fun _ => none) → CellsOk h₄ (C + 1) (cellsFrom (C + 1) scope.names []) → h₄.PlainList D #[] → (∀ o, ¬ B D o) → D ∉ ex → s₂.heap.objs.size ≤ D → D < C → (∀ a, D ≤ a → ∀ o, ¬ B a o) → (∀ a, D ≤ a → a ∉ ex) → Act G (Plus B h₄ (D :: ex)) Z0 Z₂ locs σ₂ h₄ →
      codeAny (model G.prog G.w) A (.compLoop (.ListComp elt [⟨target, iter, [], 0⟩, g₂] scope pos) 0 (.ref I) (.ref D) (compEnv' scope cl C env)) (RR (.ref D) C) { s₂ with heap := h₄ }) :
    wpAny (model G.prog G.w) A (newList []) (fun acc s₃ => wpAny (model G.prog G.w) A (newFunctionEnv scope env.globals cl [] env.qual none .none (some env)) (fun cenv s₄ =>
      codeAny (model G.prog G.w) A (.compStart (.ListComp elt [⟨target, iter, [], 0⟩, g₂] scope pos) 0 (.ref I) acc { cenv with scope := relabel scope env }) (RR acc cenv.locals) s₄) E s₃) E s₂ := by
  refine wpAny_newObj_type ?_ (by show (0 : Nat) ≤ sizeLine; exact Nat.zero_le _)
  obtain ⟨act₁, hDo, hDb⟩ := alloc_ok (o := { cls := .type "list", data := .seq ([] : List Value).toArray }) act rfl
  refine wpAny_mono (newCompEnv_ok (G := G) (s := { s₂ with heap := s₂.heap.push { cls := .type "list", data := .seq ([] : List Value).toArray } }) (Q := fun cenv s₄ => codeAny (model G.prog G.w) A (.compStart (.ListComp elt [⟨target, iter, [], 0⟩, g₂] scope pos) 0 (.ref I) (.ref s₂.heap.objs.size) { cenv with scope := relabel scope env }) (RR (.ref s₂.heap.objs.size) cenv.locals) s₄)
    fun h₄ cenv g₂ hn hcs hce hloc => ?_) (fun _ _ q => q) fun _ _ q => q.elim
  dsimp only at g₂ hn hcs hce hloc
  rw [hce, hloc]
  rw [Heap.size_push] at hn hcs ⊢
  have g : Grows s₂.heap h₄ := (Grows.push _ _).trans g₂
  have big : ∀ a, s₂.heap.objs.size ≤ a → ∀ o, ¬ Plus B s₂.heap ex a o := fun a ha o hb => by
    have := act.base _ _ hb
    rw [none_of_big ha] at this; cases this
  have bigB : ∀ a, s₂.heap.objs.size ≤ a → ∀ o, ¬ B a o := fun a ha o hb => big a ha o (.inl hb)
  have bigE : ∀ a, s₂.heap.objs.size ≤ a → a ∉ ex := fun a ha hm => by
    obtain ⟨o, ho⟩ := Option.isSome_iff_exists.mp (hexS a hm)
    exact big a ha o (.inr ⟨hm, ho⟩)
  have act₂ : Act G (Plus B h₄ (s₂.heap.objs.size :: ex)) Z0 Z₂ locs σ₂ h₄ := by
    have a1 := act.protect g [s₂.heap.objs.size] fun a ha => by rw [List.mem_singleton.mp ha]; exact size_none _
    rw [plus_grow hexS g, plus_plus] at a1
    exact a1
  have loop := h s₂.heap.objs.size (s₂.heap.objs.size + 1) h₄ g hn hcs ⟨_, g₂ _ _ hDo⟩ (bigB _ (Nat.le_refl _)) (bigE _ (Nat.le_refl _)) (Nat.le_refl _) (Nat.lt_succ_self _) bigB bigE act₂
  exact codeAny_compStart_list loop (wpAny_mono (self h₄ g _ (fun v s' => v = .ref I ∧ s' = { s₂ with heap := h₄ }) rfl ⟨rfl, rfl⟩) (fun v s' q => by obtain ⟨rfl, rfl⟩ := q; exact loop) fun _ _ q => q.elim)
theorem comp_prod {A : Around} {env : Env} {B Z0 Z₂ : Zone} {locs : Nat → Option Loc} {scope : Scope} {cl : List (Str × Addr)} {elt iter : Expr} {x y : Str} {px py pos : Pos} {f : Sem1} {sl' : List (Str × Nat)} {ts : List T} {us : List T} {σ₂ σ₃ : List Slot} {s₂ : Shared} {I : Addr} {ex : List Addr} {St : Nat → Heap → Prop} {it2 : SemL} {iter₂ : Expr}
    {RR : Value → Addr → Result → Shared → Prop} {E : Value → Shared → Prop} (hA : AOk cx.k A) (hE : EnvOk cx env locs) (ok : compOk cx scope sl' [(x, cx.n), (y, cx.n + 1)] = true) (hcl : ∀ x, (x, NameKind.free) ∈ scope.names → cl.lookup x = env.cells.lookup x)
    (hl : isLC (scope.names.lookup x) = true) (hl' : scope.names.lookup y = some .local) (hxy : x ≠ y) (hx : sl'.lookup x = some cx.n) (hy : sl'.lookup y = some (cx.n + 1)) (he : SE G ⟨relabelS scope cx.sc, sl', cx.k, cx.n + 2⟩ elt f) (hi2 : SI G ⟨relabelS scope cx.sc, sl', cx.k, cx.n + 2⟩ iter₂ it2) (hs₂ : ∀ env v, foldedSetIterable iter₂ env v = pure v) (top : ∀ a o, G.hT.get? a = some o → B a o) (z0 : ∀ a o, Z0 a o → B a o)
    (act : Act G (Plus B s₂.heap ex) Z0 Z₂ locs σ₂ s₂.heap) (hex : ∀ a ∈ ex, ∀ o, ¬ B a o) (W : WalkT G A I ex Z₂ ts St) (st : St 0 s₂.heap) (hlen : us.length ≤ 1000000)
    (hf : prodG cx.n it2 f ts σ₂ = some (us, σ₃)) (hR : CompEnd G B Z0 Z₂ locs ((σ₃.set (cx.n + 1) .un).set cx.n .un) us s₂ RR) :
    wpAny (model G.prog G.w) A (newList []) (fun acc s₃ => wpAny (model G.prog G.w) A (newFunctionEnv scope env.globals cl [] env.qual none .none (some env)) (fun cenv s₄ =>
      codeAny (model G.prog G.w) A (.compStart (.ListComp elt [⟨.Name x px, iter, [], 0⟩, ⟨.Name y py, iter₂, [], 0⟩] scope pos) 0 (.ref I) acc { cenv with scope := relabel scope env }) (RR acc cenv.locals) s₄) E s₃) E s₂ := by
  have hn : locs cx.n = none := hE.off _ (Nat.le_refl _)
  have hn₁ : locs (cx.n + 1) = none := hE.off _ (Nat.le_succ _)
  have zst : ∀ {h₄ : Heap}, Grows s₂.heap h₄ → St 0 h₄ := fun g => W.frame _ _ _ st (fun b _ o q => g b o q) (fun a o _ q => g a o q) fun a o q => (act.zone a o q).1
  refine comp_enter2 act (W.alive _ _ st) (fun h₄ g s Q e hq => W.self 0 s Q (e ▸ zst g) hq) fun D C h₄ g hns hcs hpl hDb hDex hDs hDC bigB bigE act₄ => ?_
  have hℓ' : tgLoc scope C y = some (.loc C y) := by unfold tgLoc; rw [hl']
  obtain ⟨ℓ, hℓ⟩ := tgLoc_some hl C
  obtain ⟨hv, hge⟩ := tgLoc_facts' hns hcs hℓ
  have hne : ℓ ≠ .loc C y := by
    unfold tgLoc at hℓ
    split at hℓ
    · cases hℓ; intro q; injection q with _ q; exact hxy q
    · obtain ⟨c, _, rfl⟩ := Option.map_eq_some_iff.mp hℓ; intro q; cases q
    · cases hℓ
  have old : ∀ j ℓ', locs j = some ℓ' → ℓ'.addr < D := fun j ℓ' e => Nat.lt_of_lt_of_le (loc_old act e) hDs
  have offB : ∀ {ℓ₁ : Loc}, C ≤ ℓ₁.addr → ∀ o, ¬ Plus B h₄ (D :: ex) ℓ₁.addr o := fun {ℓ₁} hc o q => by
    rcases q with q | ⟨q, _⟩
    · exact bigB _ (Nat.le_trans (Nat.le_of_lt hDC) hc) o q
    · rcases List.mem_cons.mp q with q | q
      · have h1 := Nat.lt_of_lt_of_le hDC hc
        have : ℓ₁.addr = D := q
        rw [this] at h1; exact Nat.lt_irrefl _ h1
      · exact bigE _ (Nat.le_trans (Nat.le_of_lt hDC) hc) q
  have ho₁ : ∀ i ℓ₁, locs i = some ℓ₁ → updL locs cx.n ℓ i = some ℓ₁ := fun i ℓ₁ e => by
    rw [updL_ne]; exact e
    rintro rfl; rw [hn] at e; cases e
  have hn₂ : updL locs cx.n ℓ (cx.n + 1) = none := by rw [updL_ne (by omega)]; exact hn₁
  have act₅ : Act G (Plus B h₄ (D :: ex)) Z0 Z₂ (updL locs cx.n ℓ) σ₂ h₄ := act₄.enter hn hv (offB hge) fun j ℓ' e q => by
    have := old j ℓ' e
    rw [q] at this
    exact Nat.lt_irrefl _ (Nat.lt_of_lt_of_le (Nat.lt_trans this hDC) hge)
  have act₆ : Act G (Plus B h₄ (D :: ex)) Z0 Z₂ (updL (updL locs cx.n ℓ) (cx.n + 1) (.loc C y)) σ₂ h₄ := act₅.enter hn₂ ⟨none, _, hns, rfl⟩ (offB (ℓ₁ := .loc C y) (Nat.le_refl _)) fun j ℓ' e q => by
    by_cases hj : j = cx.n
    · subst hj; rw [updL_same] at e; cases e; exact hne q
    · rw [updL_ne hj] at e
      have := old j ℓ' e
      rw [q] at this
      exact Nat.lt_irrefl _ (Nat.lt_trans this hDC)
  have ho : ∀ i ℓ₁, locs i = some ℓ₁ → updL (updL locs cx.n ℓ) (cx.n + 1) (.loc C y) i = some ℓ₁ := fun i ℓ₁ e => by
    rw [updL_ne]; exact ho₁ i ℓ₁ e
    rintro rfl; rw [hn₁] at e; cases e
  have hE' : EnvOk ⟨relabelS scope cx.sc, sl', cx.k, cx.n + 2⟩ (compEnv' scope cl C env) (updL (updL locs cx.n ℓ) (cx.n + 1) (.loc C y)) := by
    refine compEnvOk hE ok hcl (fun z i hz => ?_) ho fun i hi => ?_
    · rcases List.mem_cons.mp hz with e | hz
      · cases e; rw [updL_ne (by omega), updL_same, hℓ]
      · rw [List.mem_singleton] at hz; cases hz
        rw [updL_same, hℓ']
    · rw [updL_ne (by omega), updL_ne (by omega)]; exact hE.off i (by omega)
  refine prod_loop (G := G) (cx' := ⟨relabelS scope cx.sc, sl', cx.k, cx.n + 2⟩) (B := B) (Z0 := Z0) (Z₂ := Z₂) (locs := locs) (ex := ex) (St := St) hA hE' ho he hi2 top z0 hDb hDex hex W hx hy hn hn₁ (hs₂ _) (zst g) act₆ hpl hlen hf ?_
  intro h' tk Z' items ev act' hpl' rd'
  have hC : ∃ m, h'.Ns C m := by
    obtain ⟨v, m, hm, _⟩ := (act'.loc (cx.n + 1) _ updL_same).1
    exact ⟨m, hm⟩
  exact hR D C h' tk Z' items ((Ev.grow (Sub.refl _) g).trans ev) (((act'.leave hn₂).leave hn).dropTail top z0) hpl' rd' hDb hC (fun j ℓ e q => Nat.lt_irrefl _ (Nat.lt_trans (q ▸ old j ℓ e) hDC)) (bigB C (Nat.le_of_lt hDC)) (Nat.ne_of_lt hDC)


noncomputable def prodC (n : Nat) (it it2 : SemL) (f : Sem1) : SemL := fun σ => match it σ with
  | some (ts, σ₁) => (match prodG n it2 f ts σ₁ with
    | some (us, σ₂) => if us.length ≤ 1000000 then some (us, (σ₂.set (n + 1) .un).set n .un) else none
    | none => none)
  | none => none

theorem SC.prod {elt iter iter₂ : Expr} {scope : Scope} {x y : Str} {px py pos : Pos} {f : Sem1} {it it2 : SemL} {sl' : List (Str × Nat)} (hit : SI G cx iter it) (hi2 : SI G ⟨relabelS scope cx.sc, sl', cx.k, cx.n + 2⟩ iter₂ it2) (ok : compOk cx scope sl' [(x, cx.n), (y, cx.n + 1)] = true)
    (hl : isLC (scope.names.lookup x) = true) (hl' : scope.names.lookup y = some .local) (hxy : x ≠ y) (hx : sl'.lookup x = some cx.n) (hy : sl'.lookup y = some (cx.n + 1)) (he : SE G ⟨relabelS scope cx.sc, sl', cx.k, cx.n + 2⟩ elt f) (hs : ∀ env v, foldedSetIterable iter env v = pure v := by intro _ _; rfl) (hs₂ : ∀ env v, foldedSetIterable iter₂ env v = pure v := by intro _ _; rfl) :
    SC G cx (.ListComp elt [⟨.Name x px, iter, [], 0⟩, ⟨.Name y py, iter₂, [], 0⟩] scope pos) (prodC cx.n it it2 f) := by
  intro σ us σ' hf A env B Z0 Z locs s hA hE hAct use Q hQ
  unfold prodC at hf
  split at hf
  · rename_i ts σ₁ e₁
    split at hf
    · rename_i us' σ₂ e₂
      split at hf
      · rename_i hlen
        cases hf
        obtain ⟨cl, hclos, hcl⟩ := clos_of hE ok
        obtain ⟨hkind, hnames⟩ := names_of ok
        show WP G A (comprehension _ _ _ _ _ false (eval iter env) use) Q s
        refine wpAny_comprehension_free rfl (hs env) hclos hkind hnames (wpAny_mono (hit _ _ _ e₁ A env B Z0 Z locs s hA hE hAct (fun v s₂ => ∃ h' tk Z' I ex St, Ev locs Z Z' s.heap h' ∧ Act G (Plus B h' ex) Z0 Z' locs σ₁ h' ∧ (∀ a ∈ ex, ∀ o, ¬ B a o) ∧ WalkT G A I ex Z' ts St ∧ St 0 h' ∧ v = .ref I ∧ s₂ = { s with heap := h', toks := tk }) fun h₁ tk₁ Z₁ I ex St hz act hex hlt W st => ⟨h₁, tk₁, Z₁, I, ex, St, hz, act, hex, W, st, rfl, rfl⟩) (fun v s₁ q => wpAny_mono q (fun it s₂ q => ?_) fun _ _ q => q.elim) fun _ _ q => q.elim)
        obtain ⟨h₁, tk₁, Z₁, I, ex, St, hz, act, hex, W, st, rfl, rfl⟩ := q
        exact comp_prod (s₂ := { s with heap := h₁, toks := tk₁ }) (RR := fun acc C => compPost (model G.prog G.w) A (fun _ _ => False) use Q acc C) hA hE ok hcl hl hl' hxy hx hy he hi2 hs₂ hAct.top hAct.z0 act hex W st hlen e₂ (hQ Z₁ _ hz ⟨_, _, rfl⟩)
      · cases hf
    · cases hf
  · cases hf
end
end Mine

namespace Mine
open PySem PySem.W PyProof.Rows PySem.Calls
section
variable {G : Glo} {cx : Cx}

/-- a function that changes its first argument, from its body -/
noncomputable def mutF (np extra : Nat) (b : SemS) : List T → List Int → Option (List T) := fun ts is =>
  if (is.length + 1 == np) = true then (match b (.own ts :: ((is.map T.int).map Slot.fro ++ List.replicate extra .un)) with
    | some (.next, σ) => (match (σ : List Slot)[0]? with
      | some (Slot.own us) => some us
      | _ => none)
    | _ => none) else none


theorem mut_ok {F : FRec} {k extra : Nat} {b : SemS} {vs ps : List Str} (ok : GloOk G) (hat : FnAt G F) (fo : FunOk F vs ps) (hb : SR2 G ⟨F.scope, vs.zipIdx, k, vs.length⟩ 0 (execs F.body) b) : CallM G F.name (k + 1) (mutF ps.length extra b) := by
  obtain ⟨fa, o, pm, code, doc, hm, ho, hdt, hcr⟩ := hat
  refine ⟨fa, o, _, hm, ho, hdt, fun ts is us hf A Z a items vals s hA gr hz hTa hZa hpl rd rdv Q hQ => ?_⟩
  unfold mutF at hf
  split at hf
  · rename_i hl
    have hlen : (Value.ref a :: vals).length = ps.length := by rw [List.length_cons, ← rdv.length, List.length_map]; simpa using hl
    have hlc : ∀ x ∈ vs, isLC (F.scope.names.lookup x) = true := List.all_eq_true.mp fo.lc
    split at hf
    · rename_i σ' e
      split at hf
      · rename_i us' e0
        cases hf
        refine wpAny_call (codeAny_call_cells (fd := docDef F.name F.params F.body F.scope pm code doc) (body := F.body) (binds := ps.zip (.ref a :: vals)) (by have := hA.depth; omega) (gr _ _ ho) hdt (ok.nolimit.keeps gr) (hcr.keeps gr) rfl (fo.bind _ _ _ _ hlen) rfl (fun x hx => ?_) (fun s₁ x => ?_) fo.co fo.gen fo.kind)
        · have hm : x.1 ∈ vs := fo.pre.subset (List.of_mem_zip (a := x.1) (b := x.2) hx).1
          have hl := hlc _ hm
          unfold isLC at hl
          simp only [Bool.or_eq_true, beq_iff_eq] at hl
          rcases hl with h | h
          · exact .inl h
          · exact .inr ⟨h, PySem.W.cellsFrom_some F.scope.names _ [] (.inl h)⟩
        · have harg : ArgIs Z s.heap (.own ts) (.ref a) [a] := ⟨a, items, rfl, rfl, hpl, rd⟩
          have act := frame_act (G := G) (k := k) (extra := extra) hlc fo.nd fo.pre hlen gr (fun b hb => by rw [List.mem_singleton.mp hb]; exact hTa) hz (fun b hb => by rw [List.mem_singleton.mp hb]; exact hZa) harg rdv x
          obtain ⟨h₁, tk₁, e₁⟩ := x.toInCall.same
          have w0 : ∃ a₀ ℓ, frameLocs F.scope vs s.heap.objs.size 0 = some ℓ ∧ LocIs s₁.heap ℓ (some (.ref a₀)) ∧ a₀ = a := by
            obtain ⟨ow, k1, k2, k3⟩ := act.sl
            obtain ⟨a₀, items₀, ℓ, q1, q2, q3, q4, q5⟩ := k1 0 _ rfl
            refine ⟨a₀, ℓ, q2, q3, ?_⟩
            have : a₀ ∈ ow 0 := by rw [q1]; simp
            have hb := (k2 0 a₀ this).2.2
            have hs := (k2 0 a₀ this).1
            -- the first variable holds the argument
            cases ps with
            | nil => cases hlen
            | cons y ys =>
              obtain ⟨tl, et⟩ := fo.pre
              have hv : vs[0]? = some y := by rw [← et]; rfl
              have hl := hlc y (List.mem_of_getElem? hv)
              have ef : frameLocs F.scope vs s.heap.objs.size 0 = tgLoc F.scope s.heap.objs.size y := by unfold frameLocs; rw [hv]
              have nd : (y :: ys).Nodup := fo.pre.sublist.nodup fo.nd
              unfold isLC at hl
              simp only [Bool.or_eq_true, beq_iff_eq] at hl
              rcases hl with h | h
              · rw [ef] at q2; unfold tgLoc at q2; rw [h] at q2; cases q2
                exact q3.unique ⟨_, x.toInCall.ns, bindL_at (i := 0) h nd rfl rfl⟩
              · obtain ⟨c, hc⟩ := Option.isSome_iff_exists.mp (PySem.W.cellsFrom_some F.scope.names (s.heap.objs.size + 1) [] (x := y) (.inl h))
                rw [ef] at q2; unfold tgLoc at q2; rw [h] at q2; dsimp only at q2; rw [hc] at q2; cases q2
                have q := x.cell y c hc
                rw [bindC_at (kindOf := (callEnvC (docDef F.name F.params F.body F.scope pm code doc) s.heap.objs.size fa).kindOf) (i := 0) h nd rfl rfl] at q
                exact q3.unique q
          obtain ⟨a₀, ℓ, hl0, hv0, rfl⟩ := w0
          refine wpAny_mono (hb _ _ _ e _ _ _ _ _ _ s₁ (hA.deeper _) (frame_env fo.kind hlc) act (fun fl s' => Q (match fl with | .ret v => v | _ => .none) s') fun h' tk Z' fl hz' stay act' hfl => ?_) (fun fl s' q => q) fun _ _ q => q.elim
          rw [hfl.nextIs, e₁]
          obtain ⟨ow, k1, k2, k3⟩ := id act'.sl
          obtain ⟨a', items', ℓ', q1, q2, q3, q4, q5⟩ := k1 0 _ e0
          rw [hl0] at q2; cases q2
          have ea : a' = a₀ := q3.unique (stay _ _ hl0 hv0)
          subst ea
          have hm' : a' ∈ ow 0 := by rw [q1]; simp
          refine hQ h' tk Z' items' hz' (fun b p hb q => act'.base b p ⟨fun e => hb (List.mem_singleton.mp e), q⟩) act'.zone (fun b p q => ?_) q4 q5
          rcases act'.zold b p q with h | h
          · exact .inl h
          · right
            cases e' : s.heap.get? b with
            | none => rfl
            | some o' =>
              refine absurd ⟨fun hb => ?_, e'⟩ (h o')
              rw [List.mem_singleton.mp hb] at q
              exact (k2 0 a' hm').2.1 p q
      · cases hf
    · cases hf
  · cases hf
end
end Mine

namespace Mine
open PySem PySem.W PyProof.Rows PySem.Calls
section
variable {G : Glo} {cx : Cx}

theorem two_mem {a b c : Addr} (h : c ∈ [a, b]) : c = a ∨ c = b := by
  rcases List.mem_cons.mp h with h | h
  · exact .inl h
  · exact .inr (List.mem_singleton.mp h)

theorem box_alive {Z : Zone} {h h' : Heap} {a b : Addr} {oa ob : Obj} (za : ∀ o, ¬ Z a o) (zb : ∀ o, ¬ Z b o) (ha : h'.get? a = some oa) (hb : h'.get? b = some ob) : ∀ c ∈ [a, b], (c = a ∨ c = b ∨ h.get? c = none) ∧ (h'.get? c).isSome = true ∧ ∀ o, ¬ Z c o := fun c hc => by
  rcases two_mem hc with rfl | rfl
  · exact ⟨.inl rfl, by rw [ha]; rfl, za⟩
  · exact ⟨.inr (.inl rfl), by rw [hb]; rfl, zb⟩
/-- the box changes, by the owner's own doing or by a call -/
inductive BoxR (G : Glo) (B Z0 Z : Zone) (locs : Nat → Option Loc) (σ : List Slot) (h : Heap) (i : Nat) (xs : List Int) (k : Int) : Prop
  | mk (a b : Addr) (t : Tok) (items : List Value) (ℓ : Loc) (hl : locs i = some ℓ) (hv : LocIs h ℓ (some (.ref a))) (hne : a ≠ b) (hpa : h.PlainList a #[.ref b, .int k t]) (hpb : h.PlainList b items.toArray) (hI : IntsAre items xs) (hZ : ∀ c ∈ [a, b], ∀ o, ¬ Z c o) (hB : ∀ c ∈ [a, b], ∀ o, ¬ B c o) (hT : ∀ c ∈ [a, b], G.hT.get? c = none)
      (fin : ∀ (h' : Heap) (Z' : Zone) (sl' : Slot) (as' : List Addr), (∀ c o, c ≠ a → c ≠ b → h.get? c = some o → h'.get? c = some o) → Sub Z Z' → (∀ c o, Z' c o → h'.get? c = some o ∧ IsSeq o) → (∀ c o, Z' c o → Z c o ∨ h.get? c = none ∨ c ∈ [a, b]) → (∀ c ∈ as', (c = a ∨ c = b ∨ h.get? c = none) ∧ (h'.get? c).isSome = true ∧ ∀ o, ¬ Z' c o) →
        (LocIs h' ℓ (some (.ref a)) → SlotOk Z' h' (some ℓ) sl' as') → Act G B Z0 Z' locs (σ.set i sl') h')
theorem Act.boxStep {B Z0 Z : Zone} {locs : Nat → Option Loc} {σ : List Slot} {h : Heap} {i : Nat} {xs : List Int} {k : Int} (x : Act G B Z0 Z locs σ h) (hi : σ[i]? = some (.box xs k)) : BoxR G B Z0 Z locs σ h i xs k := by
  obtain ⟨ow, k1, k2, k3⟩ := x.sl
  obtain ⟨a, b, t, ℓ, items, e, hne, hl, hv, hpa, hpb, hI⟩ := k1 i _ hi
  have hm : ∀ c ∈ [a, b], c ∈ ow i := fun c hc => by rw [e]; exact hc
  obtain ⟨oa, hoa, hsa⟩ := isList_seq hpa
  obtain ⟨ob, hob, hsb⟩ := isList_seq hpb
  refine ⟨a, b, t, items, ℓ, hl, hv, hne, hpa, hpb, hI, fun c hc => (k2 i c (hm c hc)).2.1, fun c hc => (k2 i c (hm c hc)).2.2, fun c hc => ?_, fun h' Z' sl' as' ko hz hzz hn has hsl => ?_⟩
  · cases q : G.hT.get? c with
    | none => rfl
    | some o => exact absurd (x.top c o q) ((k2 i c (hm c hc)).2.2 o)
  have kc : ∀ c o, c ∉ [a, b] → h.get? c = some o → h'.get? c = some o := fun c o hc q => ko c o (fun z => hc (z ▸ List.mem_cons_self)) (fun z => hc (z ▸ by simp)) q
  have kl : ∀ {ℓ : Loc} {v : Option Value}, LocIs h ℓ v → LocIs h' ℓ v := fun hv => hv.keep fun o q => ko _ o (fun z => seq_ne_loc hoa hsa hv z.symm) (fun z => seq_ne_loc hob hsb hv z.symm) q
  have hlt : i < σ.length := (List.getElem?_eq_some_iff.mp hi).1
  have offB : ∀ c ∈ as', ∀ o, ¬ B c o := fun c hc o q => by
    rcases (has c hc).1 with e | e | e
    · exact (k2 i c (hm c (e ▸ List.mem_cons_self))).2.2 o q
    · exact (k2 i c (hm c (e ▸ by simp))).2.2 o q
    · rw [x.base _ _ q] at e; cases e
  have apart : ∀ c ∈ as', ∀ j, c ∈ ow j → j = i := fun c hc j hj => by
    rcases (has c hc).1 with e | e | e
    · exact k3 j i c hj (hm c (e ▸ List.mem_cons_self))
    · exact k3 j i c hj (hm c (e ▸ by simp))
    · obtain ⟨o', ho'⟩ := Option.isSome_iff_exists.mp (k2 j c hj).1
      rw [e] at ho'; cases ho'
  exact {
    top := x.top
    base := fun c o hB => kc c o (fun q => (k2 i c (hm c q)).2.2 o hB) (x.base c o hB)
    zone := hzz
    z0 := x.z0
    zold := fun c o q => by
      rcases hn c o q with q | q | q
      · exact x.zold c o q
      · exact .inr fun o' hB => by have := x.base _ _ hB; rw [q] at this; cases this
      · exact .inr fun o' hB => (k2 i c (hm c q)).2.2 o' hB
    inj := x.inj
    loc := fun j ℓ₂ q => ⟨let ⟨v, hv⟩ := (x.loc j ℓ₂ q).1; ⟨v, kl hv⟩, (x.loc j ℓ₂ q).2⟩
    sl := by
      have hzo : ∀ j c, j ≠ i → c ∈ ow j → ∀ o, ¬ Z' c o := fun j c hj hc o q => by
        rcases hn c o q with q | q | q
        · exact (k2 j c hc).2.1 o q
        rotate_left
        · exact hj (k3 j i c hc (hm c q))
        · obtain ⟨o', ho'⟩ := Option.isSome_iff_exists.mp (k2 j c hc).1
          rw [q] at ho'; cases ho'
      refine ⟨fun j => if j = i then as' else ow j, fun j s q => ?_, fun j c hc => ?_, fun j l c hj hl' => ?_⟩
      · by_cases hj : j = i
        · subst hj
          rw [List.getElem?_set_self hlt] at q; cases q
          dsimp only
          rw [if_pos rfl, hl]
          exact hsl (kl hv)
        · rw [List.getElem?_set_ne (Ne.symm hj)] at q
          dsimp only
          rw [if_neg hj]
          exact ((k1 j s q).keep (fun ℓ _ v hv => kl hv) fun c hc o q' => kc c o (fun z => hj (k3 j i c hc (hm c z))) q').zmono hz
      · dsimp only at hc
        by_cases hj : j = i
        · rw [if_pos hj] at hc
          exact ⟨(has c hc).2.1, (has c hc).2.2, offB c hc⟩
        · rw [if_neg hj] at hc
          refine ⟨?_, hzo j c hj hc, (k2 j c hc).2.2⟩
          obtain ⟨o', ho'⟩ := Option.isSome_iff_exists.mp (k2 j c hc).1
          rw [kc c o' (fun z => hj (k3 j i c hc (hm c z))) ho']; rfl
      · dsimp only at hj hl'
        by_cases hj' : j = i <;> by_cases hk' : l = i
        · rw [hj', hk']
        · rw [if_pos hj'] at hj; rw [if_neg hk'] at hl'
          exact absurd (apart c hj l hl') hk'
        · rw [if_neg hj'] at hj; rw [if_pos hk'] at hl'
          exact absurd (apart c hl' j hj) hj'
        · rw [if_neg hj'] at hj; rw [if_neg hk'] at hl'; exact k3 j l c hj hl' }

theorem Act.boxSame {B Z0 Z : Zone} {locs : Nat → Option Loc} {σ : List Slot} {h h' : Heap} {c : Addr} {items : Array Value} (x : Act G B Z0 Z locs σ h) (hp : h.PlainList c items) (hs : Heap.SameBut c h h') (hz : ∀ o, ¬ Z c o) : (∀ d o, Z d o → h'.get? d = some o ∧ IsSeq o) ∧ Ev locs Z Z h h' :=
  ⟨fun d o q => ⟨(hs.2 d fun e => hz o (e ▸ q)).trans (x.zone d o q).1, (x.zone d o q).2⟩, stay_inPlace (Sub.refl _) hp hs⟩

noncomputable def boxNumC (i : Nat) : Sem1 := fun σ => match σ[i]? with
  | some (.box _ k) => some (.int k, σ)
  | _ => none
theorem SE.boxNum {x : Str} {p p1 pos : Pos} {kk i : Nat} (hx : cx.sl.lookup x = some i) (hp : plainName x = true) : SE G cx (.Subscript (.Name x p) (.Constant (.int 1) kk p1) pos) (boxNumC i) := by
  intro σ t σ' hf A env B Z0 Z locs s hA hE hAct Q hQ
  unfold boxNumC at hf
  split at hf
  · rename_i xs k e
    cases hf
    obtain ⟨a, b, t, items, ℓ, hl, hv, hne, hpa, hpb, hI, hZ, hB, hT, fin⟩ := hAct.boxStep e
    refine Subscript_ (name_ok hE hx hp hl hv (wpAny_Constant_int ?_))
    refine tail_any (s := { s with toks := s.toks + 1 }) hpa.isList.typeIs slot_list_getitem.lookup ?_ rfl
    refine wpAny_getItem_list (s := { s with toks := s.toks + 1 }) hpa.isList (k := 1) (by decide) (by decide) (x := .int k t) rfl ?_
    exact hQ s.heap (s.toks + 1) Z _ (Ev.refl _ _ _) hAct (.int _ _)
  · cases hf

noncomputable def boxIncC (i : Nat) : SemS := fun σ => match σ[i]? with
  | some (.box xs k) => some (.next, σ.set i (.box xs (k + 1)))
  | _ => none
theorem SR2.boxInc {j : Nat} {x : Str} {p sp p1 p' sp' p1' bp p2 pos : Pos} {kk kk' kk2 i : Nat} (hx : cx.sl.lookup x = some i) (hp : plainName x = true)
    (hs : ∀ env, swapsWith (.BinOp (.Subscript (.Name x p') (.Constant (.int 1) kk' p1') sp') .Add (.Constant (.int 1) kk2 p2) bp) (some (.Subscript (.Name x p) (.Constant (.int 1) kk p1) sp)) pos.line env = pure false := by intro _; rfl) :
    SR2 G cx j (exec (.Assign [.Subscript (.Name x p) (.Constant (.int 1) kk p1) sp] (.BinOp (.Subscript (.Name x p') (.Constant (.int 1) kk' p1') sp') .Add (.Constant (.int 1) kk2 p2) bp) pos)) (boxIncC i) := by
  intro σ t σ' hf A env B Z0 Z locs s hA hE hAct Q hQ
  unfold boxIncC at hf
  split at hf
  · rename_i xs k e
    cases hf
    have hv : SE G cx (.BinOp (.Subscript (.Name x p') (.Constant (.int 1) kk' p1') sp') .Add (.Constant (.int 1) kk2 p2) bp) (binC addI (boxNumC i) (constC (.int 1))) := SE.bin addI_ok (SE.boxNum hx hp) SE.int
    have hval : binC addI (boxNumC i) (constC (.int 1)) σ = some (.int (k + 1), σ) := by unfold binC boxNumC; rw [e]; rfl
    refine wpAny_Assign_Subscript (hv σ _ _ hval A env B Z0 Z locs s hA hE hAct _ fun h₁ tk₁ Z₁ v hz act rd => ?_) (hs env)
    obtain ⟨a, b, t, items, ℓ, hl, hv, hne, hpa, hpb, hI, hZ, hB, hT, fin⟩ := act.boxStep e
    refine name_ok (s := { s with heap := h₁, toks := tk₁ }) hE hx hp hl hv (wpAny_Constant_int ?_)
    cases rd with
    | int _ tv =>
      refine setItem_plain (s := { s with heap := h₁, toks := tk₁ + 1 }) (j := 1) hpa (by omega) (by show 1 < 2; decide) fun h' hp' hs' => ?_
      obtain ⟨hzz, ev⟩ := act.boxSame hpa hs' (hZ a List.mem_cons_self)
      have hp2 : h'.PlainList a #[.ref b, .int (k + 1) tv] := hp'
      have hpb' : h'.PlainList b items.toArray := hpb.at fun o q => (hs'.2 b hne.symm).trans q
      obtain ⟨oa, hoa, _⟩ := isList_seq hp2
      obtain ⟨ob, hob, _⟩ := isList_seq hpb'
      refine hQ h' (tk₁ + 1) Z₁ .next hz.sub (fun ℓ' w q1 q2 => ev.stay j ℓ' w q1 (hz.stay j ℓ' w q1 q2)) (fin h' Z₁ (.box xs (k + 1)) [a, b] (fun c o n1 n2 q => (hs'.2 c n1).trans q) (Sub.refl _) hzz (fun c o q => .inl q) (box_alive (fun o => hZ a List.mem_cons_self o) (fun o => hZ b (by simp) o) hoa hob) fun hl' => ?_) trivial
      exact ⟨a, b, tv, ℓ, items, rfl, hne, rfl, hl', hp2, hpb', hI⟩
  · cases hf

theorem SR2.ret {j : Nat} {e : Expr} {pos : Pos} {f : Sem1} (h : SE G cx e f) : SR2 G cx j (exec (.Return (some e) pos)) (retC f) := by
  intro σ out σ' hf A env B Z0 Z locs s hA hE hAct Q hQ
  unfold retC at hf
  split at hf
  · rename_i t σ₁ e₁
    cases hf
    exact wpAny_Return_some (h σ _ _ e₁ A env B Z0 Z locs s hA hE hAct _ fun h₁ tk₁ Z₁ v hz act rd => hQ h₁ tk₁ Z₁ (.ret v) hz.sub (fun ℓ v e q => hz.stay j ℓ v e q) act rd)
  · cases hf

noncomputable def boxAnyC (i : Nat) : SemB := fun σ => match σ[i]? with
  | some (.box xs _) => if xs.length ≤ 1000000 then some (!xs.isEmpty, σ) else none
  | _ => none
theorem ST.boxAny {x : Str} {p sp p1 lp pos : Pos} {kk i : Nat} (hx : cx.sl.lookup x = some i) (hp : plainName x = true) (hm : behindInMarks .NotEq (.List [] lp) = false := by with_unfolding_all rfl) : ST G cx (.Compare (.Subscript (.Name x p) (.Constant (.int 0) kk p1) sp) [.NotEq] [.List [] lp] pos) (boxAnyC i) := by
  intro σ t σ' hf A env B Z0 Z locs s hA hE hAct Q hQ
  unfold boxAnyC at hf
  split at hf
  · rename_i xs k e
    split at hf
    · rename_i hle
      cases hf
      obtain ⟨a, b, t, items, ℓ, hl, hv, hne, hpa, hpb, hI, hZ, hB, hT, fin⟩ := hAct.boxStep e
      refine wpAny_isTrue_Compare1 (Subscript_ (name_ok hE hx hp hl hv (wpAny_Constant_int ?_))) hm
      refine tail_any (s := { s with toks := s.toks + 1 }) hpa.isList.typeIs slot_list_getitem.lookup ?_ rfl
      refine wpAny_getItem_list (s := { s with toks := s.toks + 1 }) hpa.isList (k := 0) (by decide) (by decide) (x := .ref b) rfl ?_
      refine List_ (Calls.spliced_nil (wpAny_newObj_type ?_ (by show (0 : Nat) ≤ sizeLine; exact Nat.zero_le _)))
      have act₂ := hAct.grow (Grows.push s.heap { cls := .type "list", data := .seq ([] : List Value).toArray })
      have hn : (s.heap.push { cls := .type "list", data := .seq ([] : List Value).toArray }).IsList s.heap.objs.size #[] := ⟨_, Heap.get?_push_size _ rfl, rfl, 0, rfl⟩
      have hb' : (s.heap.push { cls := .type "list", data := .seq ([] : List Value).toArray }).IsList b items.toArray := (hpb.at fun o q => Heap.get?_push_of_some _ q).isList
      have fin' : WP G A (richCompare .NotEq (.ref b) (.ref s.heap.objs.size)) (fun v s' => wpAny (model G.prog G.w) A (truthy v) Q (fun _ _ => False) s') { s with heap := s.heap.push { cls := .type "list", data := .seq ([] : List Value).toArray }, toks := s.toks + 1 } := by
        have hlen : items.length = xs.length := hI.length
        cases xs with
        | nil =>
          have hz : items = [] := List.length_eq_zero_iff.mp hlen
          subst hz
          refine PySem.SeqAt.RcNeAt.lists (e := fun _ => true) hb' hn rfl hA.room (fun j h1 _ => absurd h1 (Nat.not_lt_zero _)) G.prog G.w _ _ ?_
          exact wpAny_truthy_bool (hQ _ (s.toks + 1) Z (.grow (Sub.refl _) (Grows.push _ _)) act₂)
        | cons y r =>
          refine PySem.SeqAt.RcNeAt.lists_lengths hb' hn ?_ hA.room G.prog G.w _ _ ?_
          · simp [hlen]
          · exact wpAny_truthy_bool (hQ _ (s.toks + 1) Z (.grow (Sub.refl _) (Grows.push _ _)) act₂)
      exact fin'
    · cases hf
  · cases hf

noncomputable def boxPopC (i : Nat) : Sem1 := fun σ => match σ[i]? with
  | some (.box (x :: r) k) => if r.length + 1 ≤ 1000000 then some (.int x, σ.set i (.box r k)) else none
  | _ => none
theorem SE.boxPop {x : Str} {p sp p1 ap p2 pos : Pos} {kk kk2 i : Nat} (hx : cx.sl.lookup x = some i) (hp : plainName x = true) (hl : (ap.endLine == pos.line) = true)
    (hs1 : ∀ env, backTo pos (starEach [.Constant (.int 0) kk2 p2] env) = [(false, eval (.Constant (.int 0) kk2 p2) env)] := by intro _; rfl) (hfew : ∀ env, ((backTo pos (starEach [.Constant (.int 0) kk2 p2] env)).all (fun x => !x.1) && (backToKw pos (keywordEach [] env)).all (fun x => x.1.isSome)
      && decide ([Expr.Constant (.int 0) kk2 p2].length + ([] : List Keyword).length + (if ([] : List Keyword).isEmpty then 0 else 1) < 30)) = true := by intro _; rfl) :
    SE G cx (.Call (.Attribute (.Subscript (.Name x p) (.Constant (.int 0) kk p1) sp) "pop" ap) [.Constant (.int 0) kk2 p2] [] pos) (boxPopC i) := by
  intro σ t σ' hf A env B Z0 Z locs s hA hE hAct Q hQ
  unfold boxPopC at hf
  split at hf
  · rename_i y r k e
    split at hf
    · rename_i hle
      cases hf
      obtain ⟨a, b, t, items, ℓ, hloc, hv, hne, hpa, hpb, hI, hZ, hB, hT, fin⟩ := hAct.boxStep e
      obtain ⟨nb, hob⟩ := id hpb
      have hlen : items.length = (y :: r).length := hI.length
      cases hI with
      | cons _ ty hI' =>
        rename_i vs
        refine wpAny_Call_method rfl (hfew env) hl PySem.F.plainAttrs_list PySem.F.slot_list_pop PySem.F.type_list_pop (Subscript_ (name_ok hE hx hp hloc hv (wpAny_Constant_int ?_)))
        refine tail_any (s := { s with toks := s.toks + 1 }) hpa.isList.typeIs slot_list_getitem.lookup ?_ rfl
        refine wpAny_getItem_list (s := { s with toks := s.toks + 1 }) hpa.isList (k := 0) (by decide) (by decide) (x := .ref b) rfl ?_
        refine ⟨⟨_, hob, rfl⟩, fun c q => by cases q; exact ⟨_, hob, rfl⟩, ?_⟩
        rw [hs1]
        refine PySem.seqMethod1_meets PySem.F.slot_list_pop PySem.F.entry_list_pop (wpAny_Constant_int ⟨⟨_, hob, rfl⟩, PySem.F.args_list_pop_2 _ _, _, PySem.MeetsSeq.list_pop_at b (Value.int y ty :: vs).toArray nb 0 _ 0 (.int y ty) (by decide) (by unfold seqIndex?; simp) (by rfl) (by rw [List.size_toArray, hlen, sizeLine_eq, List.length_cons]; omega), hob, ?_⟩)
        have hs : Heap.SameBut b s.heap (s.heap.update b (Obj.mapSeq fun xs => xs.eraseIdxIfInBounds 0)) := Heap.SameBut.update ..
        have hp' : (s.heap.update b (Obj.mapSeq fun xs => xs.eraseIdxIfInBounds 0)).PlainList b ((Value.int y ty :: vs).toArray.eraseIdxIfInBounds 0) := ⟨_, PySem.IsL.update hob _⟩
        have hpb' : (s.heap.update b (Obj.mapSeq fun xs => xs.eraseIdxIfInBounds 0)).PlainList b vs.toArray := by
          have e : (Value.int y ty :: vs).toArray.eraseIdxIfInBounds 0 = vs.toArray := by
            apply Array.toList_inj.mp; simp
          rw [e] at hp'; exact hp'
        obtain ⟨hzz, ev⟩ := hAct.boxSame hpb hs (hZ b (by simp))
        have hpa' : (s.heap.update b (Obj.mapSeq fun xs => xs.eraseIdxIfInBounds 0)).PlainList a #[.ref b, .int k t] := hpa.at fun o q => (hs.2 a hne).trans q
        obtain ⟨oa, hoa, _⟩ := isList_seq hpa'
        obtain ⟨ob, hob', _⟩ := isList_seq hpb'
        refine hQ _ _ Z _ ev (fin _ Z (.box r k) [a, b] (fun c o n1 n2 q => (hs.2 c n2).trans q) (Sub.refl _) hzz (fun c o q => .inl q) (box_alive (fun o => hZ a List.mem_cons_self o) (fun o => hZ b (by simp) o) hoa hob') fun hl' => ?_) (.int _ _)
        exact ⟨a, b, t, ℓ, vs, rfl, hne, rfl, hl', hpa', hpb', hI'⟩
    · cases hf
  · cases hf
end
end Mine

namespace Mine
open PySem PySem.W PyProof.Rows PySem.Calls
section
variable {G : Glo} {cx : Cx}

theorem first_arg {F : FRec} {vs ps : List Str} {pm code doc : Value} {fa : Addr} {s s₁ : Shared} {v : Value} {vals : List Value} (fo : FunOk F vs ps) (hlen : (v :: vals).length = ps.length)
    (x : InCallC s (callEnvC (docDef F.name F.params F.body F.scope pm code doc) s.heap.objs.size fa).locals (bindL (callEnvC (docDef F.name F.params F.body F.scope pm code doc) s.heap.objs.size fa).kindOf (ps.zip (v :: vals)) fun _ => none) (callEnvC (docDef F.name F.params F.body F.scope pm code doc) s.heap.objs.size fa).cells
        (bindC (callEnvC (docDef F.name F.params F.body F.scope pm code doc) s.heap.objs.size fa).kindOf (ps.zip (v :: vals)) fun _ => none) s₁) :
    ∃ ℓ, frameLocs F.scope vs s.heap.objs.size 0 = some ℓ ∧ LocIs s₁.heap ℓ (some v) := by
  have hlc : ∀ x ∈ vs, isLC (F.scope.names.lookup x) = true := List.all_eq_true.mp fo.lc
  cases ps with
  | nil => cases hlen
  | cons y ys =>
    obtain ⟨tl, et⟩ := fo.pre
    have hv : vs[0]? = some y := by rw [← et]; rfl
    have hl := hlc y (List.mem_of_getElem? hv)
    have ef : frameLocs F.scope vs s.heap.objs.size 0 = tgLoc F.scope s.heap.objs.size y := by unfold frameLocs; rw [hv]
    have nd : (y :: ys).Nodup := fo.pre.sublist.nodup fo.nd
    unfold isLC at hl
    simp only [Bool.or_eq_true, beq_iff_eq] at hl
    rcases hl with h | h
    · exact ⟨.loc s.heap.objs.size y, by rw [ef]; unfold tgLoc; rw [h], _, x.toInCall.ns, bindL_at (i := 0) h nd rfl rfl⟩
    · obtain ⟨c, hc⟩ := Option.isSome_iff_exists.mp (PySem.W.cellsFrom_some F.scope.names (s.heap.objs.size + 1) [] (x := y) (.inl h))
      refine ⟨.cell c, by rw [ef]; unfold tgLoc; rw [h]; dsimp only; rw [hc]; rfl, ?_⟩
      have q := x.cell y c hc
      rw [bindC_at (kindOf := (callEnvC (docDef F.name F.params F.body F.scope pm code doc) s.heap.objs.size fa).kindOf) (i := 0) h nd rfl rfl] at q
      exact q

/-- the contract of the function that draws -/
inductive CallTk (G : Glo) (x : Str) (k : Nat) (f : List Int → Int → Int → Option (Int × List Int × Int)) : Prop
  | mk (fa : Addr) (o : Obj) (fd : FuncData) (h1 : G.mg x = some (.ref fa)) (h2 : G.hT.get? fa = some o) (h3 : o.data = .func fd)
  (h4 : ∀ xs kk m r xs' kk', f xs kk m = some (r, xs', kk') → ∀ A Z (a b : Addr) t (items : List Value) v s, AOk k A → Grows G.hT s.heap → (∀ a o, Z a o → s.heap.get? a = some o ∧ IsSeq o) → (∀ c ∈ [a, b], G.hT.get? c = none) → (∀ c ∈ [a, b], ∀ o, ¬ Z c o) → a ≠ b →
    s.heap.PlainList a #[.ref b, .int kk t] → s.heap.PlainList b items.toArray → IntsAre items xs → Rd Z (.int m) v →
  ∀ Q : Value → Shared → Prop, (∀ h' tk Z' b' t' (items' : List Value) u, Sub Z Z' → (∀ c o, c ≠ a → c ≠ b → s.heap.get? c = some o → h'.get? c = some o) → (∀ a o, Z' a o → h'.get? a = some o ∧ IsSeq o) → (∀ c o, Z' c o → Z c o ∨ s.heap.get? c = none ∨ c ∈ [a, b]) →
      a ≠ b' → (b' = a ∨ b' = b ∨ s.heap.get? b' = none) → (∀ c ∈ [a, b'], ∀ o, ¬ Z' c o) → h'.PlainList a #[.ref b', .int kk' t'] → h'.PlainList b' items'.toArray → IntsAre items' xs' → Rd Z' (.int r) u → Q u { s with heap := h', toks := tk }) →
    WP G A (call (.ref fa) [.ref a, v]) Q s)

noncomputable def takeOf (b : SemS) : List Int → Int → Int → Option (Int × List Int × Int) := fun xs k m => match b [.box xs k, .fro (.int m)] with
  | some (.ret (.int r), σ) => (match (σ : List Slot)[0]? with
    | some (Slot.box xs' k') => some (r, xs', k')
    | _ => none)
  | _ => none

theorem take_ok {F : FRec} {k : Nat} {b : SemS} {vs ps : List Str} (ok : GloOk G) (hat : FnAt G F) (fo : FunOk F vs ps) (hps : ps.length = 2) (hb : SR2 G ⟨F.scope, vs.zipIdx, k, vs.length⟩ 0 (execs F.body) b) : CallTk G F.name (k + 1) (takeOf b) := by
  obtain ⟨fa, o, pm, code, doc, hm, ho, hdt, hcr⟩ := hat
  refine ⟨fa, o, _, hm, ho, hdt, fun xs kk m r xs' kk' hf A Z a bb t items v s hA gr hz hTa hZa hne hpa hpb hI hv Q hQ => ?_⟩
  unfold takeOf at hf
  have hlen : (Value.ref a :: [v]).length = ps.length := by rw [hps]; rfl
  have hlc : ∀ x ∈ vs, isLC (F.scope.names.lookup x) = true := List.all_eq_true.mp fo.lc
  split at hf
  · rename_i r' σ' e
    split at hf
    · rename_i xs'' k'' e0
      cases hf
      refine wpAny_call (codeAny_call_cells (fd := docDef F.name F.params F.body F.scope pm code doc) (body := F.body) (binds := ps.zip (.ref a :: [v])) (by have := hA.depth; omega) (gr _ _ ho) hdt (ok.nolimit.keeps gr) (hcr.keeps gr) rfl (fo.bind _ _ _ _ hlen) rfl (fun x hx => ?_) (fun s₁ x => ?_) fo.co fo.gen fo.kind)
      · have hm : x.1 ∈ vs := fo.pre.subset (List.of_mem_zip (a := x.1) (b := x.2) hx).1
        have hl := hlc _ hm
        unfold isLC at hl
        simp only [Bool.or_eq_true, beq_iff_eq] at hl
        rcases hl with h | h
        · exact .inl h
        · exact .inr ⟨h, PySem.W.cellsFrom_some F.scope.names _ [] (.inl h)⟩
      · have harg : ArgIs Z s.heap (.box xs kk) (.ref a) [a, bb] := ⟨a, bb, t, items, rfl, hne, rfl, hpa, hpb, hI⟩
        have act := frame_act (G := G) (k := k) (extra := 0) (ts := [.int m]) hlc fo.nd fo.pre hlen gr hTa hz hZa harg (.cons hv .nil) x
        obtain ⟨h₁, tk₁, e₁⟩ := x.toInCall.same
        obtain ⟨ℓ, hl0, hv0⟩ := first_arg fo hlen x
        refine wpAny_mono (hb _ _ _ e _ _ _ _ _ _ s₁ (hA.deeper _) (frame_env fo.kind hlc) act (fun fl s' => Q (match fl with | .ret v => v | _ => .none) s') fun h' tk Z' fl hz' stay act' hfl => ?_) (fun fl s' q => q) fun _ _ q => q.elim
        obtain ⟨u, rfl, hu⟩ := hfl.retIs
        rw [e₁]
        obtain ⟨ow, k1, k2, k3⟩ := id act'.sl
        obtain ⟨a', b', t', ℓ', items', q1, q2, q3, q4, q5, q6, q7⟩ := k1 0 _ e0
        rw [hl0] at q3; cases q3
        have ea : a' = a := q4.unique (stay _ _ hl0 hv0)
        subst ea
        have hmem : ∀ c ∈ [a', b'], c ∈ ow 0 := fun c hc => by rw [q1]; exact hc
        refine hQ h' tk Z' b' t' items' u hz' (fun c p n1 n2 q => act'.base c p ⟨fun e => ?_, q⟩) act'.zone (fun c p q => ?_) q2 ?_ (fun c hc => (k2 0 c (hmem c hc)).2.1) q5 q6 q7 hu
        · rcases two_mem e with rfl | rfl
          · exact n1 rfl
          · exact n2 rfl
        · rcases act'.zold c p q with h | h
          · exact .inl h
          · by_cases hc : c ∈ [a', bb]
            · exact .inr (.inr hc)
            · right; left
              cases e' : s.heap.get? c with
              | none => rfl
              | some o' => exact absurd ⟨hc, e'⟩ (h o')
        · by_cases hc : b' ∈ [a', bb]
          · rcases two_mem hc with e | e
            · exact .inl e
            · exact .inr (.inl e)
          · right; right
            cases e' : s.heap.get? b' with
            | none => rfl
            | some o' => exact absurd ⟨hc, e'⟩ ((k2 0 b' (hmem b' (by simp))).2.2 o')
    · cases hf
  · cases hf

noncomputable def takeC (f : List Int → Int → Int → Option (Int × List Int × Int)) (i : Nat) (g : Sem1) : Sem1 := fun σ => match σ[i]? with
  | some (.box _ _) => (match g σ with
    | some (.int m, σ₁) => (match σ₁[i]? with
      | some (.box xs k) => (match f xs k m with
        | some (r, xs', k') => some (.int r, σ₁.set i (.box xs' k'))
        | none => none)
      | _ => none)
    | _ => none)
  | _ => none
theorem SE.take {x fn : Str} {p pf pos : Pos} {e : Expr} {i k : Nat} {f : List Int → Int → Int → Option (Int × List Int × Int)} {g : Sem1} (ok : GloOk G) (hc : CallTk G fn k f) (hk : k ≤ cx.k) (hg : cx.sc.names.lookup fn = some .globalImplicit) (hpf : plainName fn = true) (hx : cx.sl.lookup x = some i) (hp : plainName x = true)
    (he : SE G cx e g) (h1 : ∀ env pos, backTo pos (starEach [.Name x p, e] env) = [(false, eval (.Name x p) env), (false, eval e env)] := by intro _ _; rfl) :
    SE G cx (.Call (.Name fn pf) [.Name x p, e] [] pos) (takeC f i g) := by
  intro σ t σ' hf A env B Z0 Z locs s hA hE hAct Q hQ
  obtain ⟨fa, o, fd, hm, ho, hd, hcall⟩ := hc
  unfold takeC at hf
  split at hf
  · rename_i xs₀ k₀ e₀
    split at hf
    · rename_i m σ₁ e₁
      split at hf
      · rename_i xs kk e₂
        split at hf
        · rename_i r xs' kk' e₃
          cases hf
          refine wpAny_Call_Name_kw (global_ok ok hE hAct hg hpf hm ?_)
          obtain ⟨a, b, t, items, ℓ, hl, hv, _⟩ := hAct.boxStep e₀
          rw [h1]
          refine Calls.callWith_function (fd := fd) (o := o) (Calls.evalArgs_plain (Calls.spliced_cons (name_ok hE hx hp hl hv (Calls.spliced_cons (he σ _ _ e₁ A env B Z0 Z locs s hA hE hAct _ fun h₁ tk₁ Z₁ v hz act rd => Calls.spliced_nil ?_)))))
          have gr : Grows G.hT h₁ := fun b p q => act.base b p (act.top b p q)
          obtain ⟨a', b', t', items', ℓ', hl', hv', hne, hpa, hpb, hI, hZ, hB, hT, fin⟩ := act.boxStep e₂
          rw [hl] at hl'; cases hl'
          have ea := (hz.stay i ℓ _ hl hv).unique hv'
          subst ea
          refine ⟨⟨gr _ _ ho, hd⟩, ?_⟩
          refine hcall _ _ _ _ _ _ e₃ A Z₁ a b' t' items' v { s with heap := h₁, toks := tk₁ } (hA.le hk) gr act.zone hT hZ hne hpa hpb hI rd Q fun h' tk Z' b'' t'' items'' u z1 k1 k2 k3 k4 k5 k6 k7 k8 k9 hu => ?_
          dsimp only at k1 k3 k5
          obtain ⟨oa, hoa, hsa⟩ := isList_seq hpa
          obtain ⟨ob, hob, hsb⟩ := isList_seq hpb
          obtain ⟨oa', hoa', _⟩ := isList_seq k7
          obtain ⟨ob', hob', _⟩ := isList_seq k8
          refine hQ h' tk Z' u (hz.trans ⟨z1, fun j ℓ' w q1 q2 => q2.keep fun o q => k1 _ o (fun z => seq_ne_loc hoa hsa q2 z.symm) (fun z => seq_ne_loc hob hsb q2 z.symm) q⟩) (fin h' Z' (.box xs' kk') [a, b''] k1 z1 k2 k3 (fun c hc => ?_) fun hl' => ?_) hu
          · rcases two_mem hc with rfl | rfl
            · exact ⟨.inl rfl, by rw [hoa']; rfl, k6 _ hc⟩
            · exact ⟨k5, by rw [hob']; rfl, k6 _ hc⟩
          · exact ⟨a, b'', t'', ℓ, items'', rfl, k4, rfl, hl', k7, k8, k9⟩
        · cases hf
      · cases hf
    · cases hf
  · cases hf

/-- the contract of a function that is given the box for good -/
inductive CallB (G : Glo) (x : Str) (k : Nat) (f : List Int → Int → List Int → Option T) : Prop
  | mk (fa : Addr) (o : Obj) (fd : FuncData) (h1 : G.mg x = some (.ref fa)) (h2 : G.hT.get? fa = some o) (h3 : o.data = .func fd)
  (h4 : ∀ xs kk is u, f xs kk is = some u → ∀ A Z (a b : Addr) t (items : List Value) vals s, AOk k A → Grows G.hT s.heap → (∀ a o, Z a o → s.heap.get? a = some o ∧ IsSeq o) → (∀ c ∈ [a, b], G.hT.get? c = none) → (∀ c ∈ [a, b], ∀ o, ¬ Z c o) → a ≠ b →
    s.heap.PlainList a #[.ref b, .int kk t] → s.heap.PlainList b items.toArray → IntsAre items xs → RdL Z (is.map .int) vals →
  ∀ Q : Value → Shared → Prop, (∀ h' tk Z' w, Sub Z Z' → (∀ c o, c ≠ a → c ≠ b → s.heap.get? c = some o → h'.get? c = some o) → (∀ a o, Z' a o → h'.get? a = some o ∧ IsSeq o) → (∀ c o, Z' c o → Z c o ∨ s.heap.get? c = none ∨ c ∈ [a, b]) → Rd Z' u w → Q w { s with heap := h', toks := tk }) →
    WP G A (call (.ref fa) (.ref a :: vals)) Q s)
noncomputable def boxF (np extra : Nat) (b : SemS) : List Int → Int → List Int → Option T := fun xs k is =>
  if (is.length + 1 == np) = true then (match b (.box xs k :: ((is.map T.int).map Slot.fro ++ List.replicate extra .un)) with
    | some (.ret t, _) => some t
    | _ => none) else none
theorem box_ok {F : FRec} {k extra : Nat} {b : SemS} {vs ps : List Str} (ok : GloOk G) (hat : FnAt G F) (fo : FunOk F vs ps) (hb : SSs G ⟨F.scope, vs.zipIdx, k, vs.length⟩ F.body b) : CallB G F.name (k + 1) (boxF ps.length extra b) := by
  obtain ⟨fa, o, pm, code, doc, hm, ho, hdt, hcr⟩ := hat
  refine ⟨fa, o, _, hm, ho, hdt, fun xs kk is u hf A Z a bb t items vals s hA gr hz hTa hZa hne hpa hpb hI rdv Q hQ => ?_⟩
  unfold boxF at hf
  split at hf
  · rename_i hl
    split at hf
    · rename_i u' σ' e
      cases hf
      refine call_body ok fo hb ho hdt hcr (by rw [List.length_cons, ← rdv.length, List.length_map]; simpa using hl) hA gr hTa hz hZa (sl := .box xs kk) (as := [a, bb]) ⟨a, bb, t, items, rfl, hne, rfl, hpa, hpb, hI⟩ rdv e fun h' tk Z' locs w hz' act hu => ?_
      refine hQ h' tk Z' w hz' (fun c p n1 n2 q => act.base c p ⟨fun e => ?_, q⟩) act.zone (fun c p q => ?_) hu
      · rcases two_mem e with rfl | rfl
        · exact n1 rfl
        · exact n2 rfl
      · rcases act.zold c p q with h | h
        · exact .inl h
        · by_cases hc : c ∈ [a, bb]
          · exact .inr (.inr hc)
          · right; left
            cases e' : s.heap.get? c with
            | none => rfl
            | some o' => exact absurd ⟨hc, e'⟩ (h o')
    · cases hf
  · cases hf

noncomputable def drawnC (f : List Int → Int → List Int → Option T) (i : Nat) (g : List Slot → Option (List Int)) : Sem1 := fun σ => match σ[i]? with
  | some (.box xs k) => (match g σ with
    | some is => (match f xs k is with
      | some u => some (u, σ.set i .un)
      | none => none)
    | _ => none)
  | _ => none
theorem SE.drawn {x fn : Str} {p pf pos : Pos} {es : List Expr} {i k : Nat} {f : List Int → Int → List Int → Option T} {g : List Slot → Option (List Int)} (ok : GloOk G) (hc : CallB G fn k f) (hk : k ≤ cx.k) (hg : cx.sc.names.lookup fn = some .globalImplicit) (hpf : plainName fn = true) (hx : cx.sl.lookup x = some i) (hp : plainName x = true)
    (hes : SPL G cx es g) (h1 : ∀ env, starEach (.Name x p :: es) env = (false, eval (.Name x p) env) :: starEach es env := by intro _; rfl) :
    SE G cx (.Call (.Name fn pf) (.Name x p :: es) [] pos) (drawnC f i g) := by
  intro σ t σ' hf A env B Z0 Z locs s hA hE hAct Q hQ
  obtain ⟨fa, o, fd, hm, ho, hd, hcall⟩ := hc
  unfold drawnC at hf
  split at hf
  · rename_i xs kk e₁
    split at hf
    · rename_i is e₂
      split at hf
      · rename_i u e₃
        cases hf
        refine wpAny_Call_Name_kw (global_ok ok hE hAct hg hpf hm ?_)
        obtain ⟨a, b, t, items, ℓ, hl, hv, hne, hpa, hpb, hI, hZ, hB, hT, fin⟩ := hAct.boxStep e₁
        have gr : Grows G.hT s.heap := hAct.topGrows
        rw [h1]
        show WP G A (callWith pos (.ref fa) [] ((false, eval (.Name x p) env) :: backTo pos (starEach es env)) []) Q s
        refine Calls.callWith_function (fd := fd) (o := o) (Calls.evalArgs_plain (Calls.spliced_cons (name_ok hE hx hp hl hv (hes pos _ _ e₂ A env B Z0 Z locs s hA hE hAct _ fun tk vs rd => ?_))))
        refine ⟨⟨gr _ _ ho, hd⟩, ?_⟩
        obtain ⟨oa, hoa, hsa⟩ := isList_seq hpa
        obtain ⟨ob, hob, hsb⟩ := isList_seq hpb
        refine hcall _ _ _ _ e₃ A Z a b t items vs { s with toks := tk } (hA.le hk) gr hAct.zone hT hZ hne hpa hpb hI rd Q fun h' tk' Z' w z1 k1 k2 k3 hu => ?_
        refine hQ h' tk' Z' w ⟨z1, fun j ℓ' w q1 q2 => q2.keep fun o q => k1 _ o (fun z => seq_ne_loc hoa hsa q2 z.symm) (fun z => seq_ne_loc hob hsb q2 z.symm) q⟩ (fin h' Z' .un [] k1 z1 k2 k3 (fun c hc => nomatch hc) fun _ => rfl) hu
      · cases hf
    · cases hf
  · cases hf
end
end Mine

namespace Mine
open PySem PySem.W PyProof.Rows PySem.Calls
section
variable {G : Glo} {cx : Cx}

theorem ints_rd {Z : Zone} : ∀ {vs : List Value} {xs : List Int}, IntsAre vs xs → RdL Z (xs.map T.int) vs
  | _, _, .nil => .nil
  | _, _, .cons n t h => .cons (.int n t) (ints_rd h)
theorem rd_ints {Z : Zone} : ∀ {ts : List T} {vs : List Value} {xs : List Int}, intsOf ts = some xs → RdL Z ts vs → IntsAre vs xs
  | [], _, _, h, .nil => by cases h; exact .nil
  | .int i :: ts, _, _, h, .cons a b => by
    unfold intsOf at h
    split at h
    · rename_i is e
      cases h
      cases a with
      | int _ t => exact .cons i t (rd_ints e b)
    · cases h
  | .none :: _, _, _, h, _ => by unfold intsOf at h; cases h
  | .bool _ :: _, _, _, h, _ => by unfold intsOf at h; cases h
  | .list _ :: _, _, _, h, _ => by unfold intsOf at h; cases h
  | .tup _ :: _, _, _, h, _ => by unfold intsOf at h; cases h

noncomputable def sliceExtC (i : Nat) (fh : SemP) : SemX := fun σ => match σ[i]? with
  | some (.ext xs) => (match fh σ with
    | some h => if xs.length ≤ 1000000 then some (.own (sliceT (xs.map T.int) none (some h)), σ) else none
    | none => none)
  | _ => none
theorem SX.sliceExt {x : Str} {p sp pos : Pos} {e : Expr} {i : Nat} {fh : SemP} (hx : cx.sl.lookup x = some i) (hp : plainName x = true) (he : SP G cx e fh) : SX G cx (.Subscript (.Name x p) (.Slice none (some e) none sp) pos) (sliceExtC i fh) := by
  intro σ t σ' hf A env B Z0 Z locs s hA hE hAct Q hQ
  unfold sliceExtC at hf
  split at hf
  · rename_i xs e₀
    split at hf
    · rename_i h e₁
      split at hf
      · rename_i hsz
        cases hf
        obtain ⟨ow, k1, k2, k3⟩ := id hAct.sl
        obtain ⟨_, a, o, ℓ, items, n, hl, hv, hz, hc, hd, hI⟩ := k1 i _ e₀
        have ho := (hAct.zone _ _ hz).1
        have hr : RdL Z (xs.map T.int) items.toArray.toList := by simpa using ints_rd (Z := Z) hI
        have hz' : items.toArray.size = xs.length := by rw [List.size_toArray, hI.length]
        refine Subscript_ (name_ok hE hx hp hl hv ?_)
        have q0 : SPo G cx none none := trivial
        have q1 : SPo G cx (some e) (some fh) := he
        have q2 : partC (some fh) σ = some (some h) := by simp only [partC, e₁]
        refine wpAny_Slice (evalPart_ok q0 (show partC none σ = some none from rfl) hA hE hAct fun tk₂ v₂ p₂ => evalPart_ok (s := { s with toks := tk₂ }) q1 q2 hA hE hAct fun tk₃ v₃ p₃ => wpAny_pure ?_)
        have act₂ := hAct.grow (Grows.push s.heap { cls := .type "slice", data := .fields #[v₂, v₃, .none] })
        have hL : (s.heap.push { cls := .type "slice", data := .fields #[v₂, v₃, .none] }).IsList a items.toArray := ⟨o, Heap.get?_push_of_some _ ho, hc, n, hd⟩
        refine tail_any (s := { s with heap := s.heap.push { cls := .type "slice", data := .fields #[v₂, v₃, .none] }, toks := tk₃ }) (ops := [.ref s.heap.objs.size, .ref a]) hL.typeIs slot_list_getitem.lookup ?_ rfl
        refine wpAny_getItem_list_slice hL (Heap.IsSliceOf.new ..) p₂ p₃ .none (by simp) ?_ (by rw [hz', sizeLine_eq]; omega)
        obtain ⟨act₃, ho', hb⟩ := alloc_ok (o := { cls := .type "list", data := .seq (slicePick items.toArray none (some h) none) }) act₂ rfl
        exact hQ _ tk₃ Z _ [_] (.grow (Sub.refl _) ((Grows.push _ _).trans (Grows.push _ _))) act₃ (fun b hb' o => by rw [List.mem_singleton.mp hb']; exact hb o) ⟨_, _, rfl, rfl, ⟨_, ho'⟩, hr.slice none (some h)⟩
      · cases hf
    · cases hf
  · cases hf

theorem plus_swap {B : Zone} {h : Heap} {a b : Addr} : Plus B h [a, b] = Plus B h [b, a] := by
  funext c o
  refine propext ⟨fun q => q.imp id fun ⟨q1, q2⟩ => ⟨?_, q2⟩, fun q => q.imp id fun ⟨q1, q2⟩ => ⟨?_, q2⟩⟩
  · rcases two_mem q1 with rfl | rfl <;> simp
  · rcases two_mem q1 with rfl | rfl <;> simp

noncomputable def boxNewC (i : Nat) (f : SemX) (c : Int) : SemS := fun σ => match f σ with
  | some (.own ts, σ₁) => (match intsOf ts with
    | some xs => some (.next, σ₁.set i (.box xs c))
    | none => none)
  | _ => none
theorem SS.boxNew {x : Str} {p p1 lp pos : Pos} {e : Expr} {c : Int} {kk i : Nat} {f : SemX} (he : SX G cx e f) (hx : cx.sl.lookup x = some i) (hs1 : ∀ env, starEach [e, .Constant (.int c) kk p1] env = [(false, eval e env), (false, eval (.Constant (.int c) kk p1) env)] := by intro _; rfl)
    (hs : ∀ env, swapsWith (.List [e, .Constant (.int c) kk p1] lp) (some (.Name x p)) pos.line env = pure false := by intro _; rfl) : SS G cx (.Assign [.Name x p] (.List [e, .Constant (.int c) kk p1] lp) pos) (boxNewC i f c) := by
  intro σ t σ' hf A env B Z0 Z locs s hA hE hAct Q hQ
  unfold boxNewC at hf
  split at hf
  · rename_i ts σ₁ e₁
    split at hf
    · rename_i xs e₂
      cases hf
      refine wpAny_Assign_Name (List_ ?_) (hs env)
      rw [hs1]
      refine Calls.spliced_cons (he σ _ _ e₁ A env B Z0 Z locs s hA hE hAct _ fun h₁ tk₁ Z₁ v as hz act hb hsv => ?_)
      refine Calls.spliced_cons (wpAny_Constant_int (k := kk) (pos := p1) (Calls.spliced_nil ?_))
      obtain ⟨b, items, rfl, rfl, hpb, hr⟩ := hsv
      refine wpAny_newObj_type ?_ (by show (2 : Nat) ≤ sizeLine; rw [sizeLine_eq]; omega)
      have hbs : (h₁.get? b).isSome = true := by obtain ⟨o, ho, _⟩ := isList_seq hpb; rw [ho]; rfl
      have none₁ : h₁.get? h₁.objs.size = none := size_none h₁
      have gr := Grows.push h₁ { cls := .type "list", data := .seq [Value.ref b, .int c tk₁].toArray }
      have act₂ := act.protect gr [h₁.objs.size] fun d hd => by rw [List.mem_singleton.mp hd]; exact none₁
      have hne : h₁.objs.size ≠ b := fun q => by rw [← q, none₁] at hbs; cases hbs
      rw [plus_grow (fun d hd => by rw [List.mem_singleton.mp hd]; exact hbs) gr, plus_drop, plus_swap] at act₂
      have hpa : (h₁.push { cls := .type "list", data := .seq [Value.ref b, .int c tk₁].toArray }).PlainList h₁.objs.size #[.ref b, .int c tk₁] := ⟨_, Heap.get?_push_size _ rfl⟩
      have hpb₂ : (h₁.push { cls := .type "list", data := .seq [Value.ref b, .int c tk₁].toArray }).PlainList b items := hpb.at fun o q => gr _ _ q
      have hBa : ∀ o, ¬ B h₁.objs.size o := fun o q => by
        have := act.base _ _ (.inl q); rw [none₁] at this; cases this
      refine store_ok (s := { s with heap := h₁.push { cls := .type "list", data := .seq [Value.ref b, .int c tk₁].toArray }, toks := tk₁ + 1 }) hE act₂ hx fun h₃ tk₃ ℓ hl st => ?_
      obtain ⟨u, hu⟩ := st.was
      obtain ⟨oa, hoa, hsa⟩ := isList_seq hpa
      obtain ⟨ob, hob, hsb⟩ := isList_seq hpb₂
      refine hQ h₃ tk₃ Z₁ .next hz.sub (act₂.store hAct.top hAct.z0 (fun d hd => ?_) hl st ?_) trivial
      · rcases two_mem hd with rfl | rfl
        · exact ⟨oa, hoa, hsa, hBa⟩
        · exact ⟨ob, hob, hsb, hb _ (by simp)⟩
      · refine ⟨h₁.objs.size, b, tk₁, ℓ, items.toList, rfl, hne, rfl, st.here, hpa.at fun o q => (st.same.2 _ (seq_ne_loc hoa hsa hu)).trans q, ?_, rd_ints e₂ hr⟩
        have : items.toList.toArray = items := by simp
        rw [this]
        exact hpb₂.at fun o q => (st.same.2 _ (seq_ne_loc hob hsb hu)).trans q
    · cases hf
  · cases hf

/-- e₁[e₂], the place any expression -/
noncomputable def atI (f g : Sem1) : Sem1 := fun σ => match f σ with
  | some (.list ts, σ₁) => (match g σ₁ with
    | some (.int k, σ₂) => (match atT ts k with
      | some t => some (t, σ₂)
      | none => none)
    | _ => none)
  | _ => none
theorem SE.atI {a e : Expr} {pos : Pos} {f g : Sem1} (ha : SE G cx a f) (he : SE G cx e g)
    (hs : ∀ o j, subscripted e false o j = operate [o, j] (getItem o j) := by intro _ _; rfl) : SE G cx (.Subscript a e pos) (Mine.atI f g) := by
  intro σ t σ' hf A env B Z0 Z locs s hA hE hAct Q hQ
  unfold Mine.atI at hf
  split at hf
  · rename_i ts σ₁ e₁
    split at hf
    · rename_i k σ₂ e₂
      split at hf
      · rename_i u e₃
        cases hf
        refine Subscript_ (ha _ _ _ e₁ A env B Z0 Z locs s hA hE hAct _ fun h₁ tk₁ Z₁ va hz₁ act₁ rd₁ => ?_)
        refine he _ _ _ e₂ A env B Z0 Z₁ locs _ hA hE act₁ _ fun h₂ tk₂ Z₂ vb hz₂ act₂ rd₂ => ?_
        obtain ⟨l, items, n, rfl, ho, hr⟩ := listAt (s := { s with heap := h₂, toks := tk₂ }) (fun a o q => (act₂.zone a o q).1) (rd₁.mono hz₂.sub)
        cases rd₂
        exact getItem_ok (Z := Z₂) (s := { s with heap := h₂, toks := tk₂ }) ⟨_, ho, rfl, n, rfl⟩ hr e₃ (fun v hd => hQ h₂ tk₂ Z₂ v (hz₁.trans hz₂) act₂ hd) (hs _ _)
      · cases hf
    · cases hf
  · cases hf

theorem SE.atCall {a e : Expr} {es : List Expr} {kws : List Keyword} {p pos : Pos} {f g : Sem1} (ha : SE G cx a f) (he : SE G cx (.Call e es kws p) g) : SE G cx (.Subscript a (.Call e es kws p) pos) (Mine.atI f g) := SE.atI ha he (fun _ _ => rfl)
theorem SS.unpackSub {es : List Expr} {k : Nat} {tp pos sp : Pos} {a b : Expr} {is : List Nat} {f : Sem1} (hv : SE G cx (.Subscript a b sp) f) (hn : NamesAt cx es is) :
   SS G cx (.Assign [.Tuple es k tp] (.Subscript a b sp) pos) (unpackC is f) := SS.unpack hv hn (fun _ => rfl) (fun _ _ => rfl)
theorem SR.forget {run : Env → Sem Flow} {f : SemS} (i : Nat) (h : SR G cx run f) : SR G cx run (fun σ => f (σ.set i .un)) := by
  intro σ out σ' hf A env B Z0 Z locs s hA hE hAct Q hQ
  exact h _ _ _ hf A env B Z0 Z locs s hA hE hAct.forget Q hQ
end
end Mine

namespace Mine
open PySem PySem.W PyProof.Rows PySem.Calls
/-! lists of a known length -/
theorem len0 {α : Type} {P : List α → Prop} (h : P []) : ∀ l : List α, l.length = 0 → P l
  | [], _ => h
theorem lenS {α : Type} {P : List α → Prop} {n : Nat} (h : ∀ a l, l.length = n → P (a :: l)) : ∀ l : List α, l.length = n + 1 → P l
  | a :: l, e => h a l (Nat.succ.inj e)
theorem len1 {α : Type} {P : List α → Prop} (h : ∀ a, P [a]) : ∀ l : List α, l.length = 1 → P l := lenS fun a => len0 (h a)
theorem len2 {α : Type} {P : List α → Prop} (h : ∀ a b, P [a, b]) : ∀ l : List α, l.length = 2 → P l := lenS fun a => len1 (h a)
theorem len3 {α : Type} {P : List α → Prop} (h : ∀ a b c, P [a, b, c]) : ∀ l : List α, l.length = 3 → P l := lenS fun a => len2 (h a)
theorem len4 {α : Type} {P : List α → Prop} (h : ∀ a b c d, P [a, b, c, d]) : ∀ l : List α, l.length = 4 → P l := lenS fun a => len3 (h a)
end Mine

namespace Mine
open PySem PySem.W PyProof.Rows PySem.Calls
noncomputable def F_extended : FRec := frec 1
noncomputable def vs_extended : List Str := ["a", "b", "one", "other", "times", "rest"]
theorem fo_extended : FunOk F_extended vs_extended ["a", "b"] := ⟨by rfl, by rfl, by rfl, by decide +kernel, by decide +kernel, by decide +kernel, fun _ _ _ => len2 fun _ _ => rfl⟩
noncomputable def b_extended : SemS := (seqC (swap2C 2 3 (froC (tupC (consC (nameC 0) (consC (constC (.int 1)) (consC (constC (.int 0)) nilC))))) (froC (tupC (consC (nameC 1) (consC (constC (.int 0)) (consC (constC (.int 1)) nilC)))))) (seqC (whileC (cmpC neI (atP 3 (constP 0)) (constC (.int 0))) (seqC (assignC 4 (froC (binC divI (atP 2 (constP 0)) (atP 3 (constP 0))))) (seqC (assignC 5 (froC (tupC (consC (binC subI (atP 2 (constP 0)) (binC mulI (nameC 4) (atP 3 (constP 0)))) (consC (binC subI (atP 2 (constP 1)) (binC mulI (nameC 4) (atP 3 (constP 1)))) (consC (binC subI (atP 2 (constP 2)) (binC mulI (nameC 4) (atP 3 (constP 2)))) nilC)))))) (seqC (swap2C 2 3 (froC (nameC 3)) (froC (nameC 5))) skipC))) 1000) (seqC (retC (ifC (cmpC geI (atP 2 (constP 0)) (constC (.int 0))) (nameC 2) (tupC (consC (binC subI (constC (.int 0)) (atP 2 (constP 0))) (consC (binC subI (constC (.int 0)) (atP 2 (constP 1))) (consC (binC subI (constC (.int 0)) (atP 2 (constP 2))) nilC)))))) skipC)))
theorem p_extended {G : Glo} (E : En G) : SSs G ⟨F_extended.scope, vs_extended.zipIdx, 0, vs_extended.length⟩ F_extended.body b_extended := (SSs.cons (SS.swap2 (SX.ofE (SE.tuple (SL.cons (SE.name (by rfl) (by rfl)) (SL.cons SE.int (SL.cons SE.int SL.nil))))) (SX.ofE (SE.tuple (SL.cons (SE.name (by rfl) (by rfl)) (SL.cons SE.int (SL.cons SE.int SL.nil))))) (by rfl) (by rfl) (hw := (by intro e h; cases e; cases h; rfl))) (SSs.cons (SS.while 1000 (ST.cmp neI_ok (SE.at (by rfl) (by rfl) SP.int) SE.int) (SSs.cons (SS.assign (SX.ofE (SE.bin divI_ok (SE.at (by rfl) (by rfl) SP.int) (SE.at (by rfl) (by rfl) SP.int))) (by rfl)) (SSs.cons (SS.assign (SX.ofE (SE.tuple (SL.cons (SE.bin subI_ok (SE.at (by rfl) (by rfl) SP.int) (SE.bin mulI_ok (SE.name (by rfl) (by rfl)) (SE.at (by rfl) (by rfl) SP.int))) (SL.cons (SE.bin subI_ok (SE.at (by rfl) (by rfl) SP.int) (SE.bin mulI_ok (SE.name (by rfl) (by rfl)) (SE.at (by rfl) (by rfl) SP.int))) (SL.cons (SE.bin subI_ok (SE.at (by rfl) (by rfl) SP.int) (SE.bin mulI_ok (SE.name (by rfl) (by rfl)) (SE.at (by rfl) (by rfl) SP.int))) SL.nil))))) (by rfl)) (SSs.cons (SS.swap2 (SX.ofE (SE.name (by rfl) (by rfl))) (SX.ofE (SE.name (by rfl) (by rfl))) (by rfl) (by rfl) (hw := (by intro e h; cases e; cases h; rfl))) SSs.nil)))) (SSs.cons (SS.ret (SE.ifExp (ST.cmp geI_ok (SE.at (by rfl) (by rfl) SP.int) SE.int) (SE.name (by rfl) (by rfl)) (SE.tuple (SL.cons (SE.bin subI_ok SE.int (SE.at (by rfl) (by rfl) SP.int)) (SL.cons (SE.bin subI_ok SE.int (SE.at (by rfl) (by rfl) SP.int)) (SL.cons (SE.bin subI_ok SE.int (SE.at (by rfl) (by rfl) SP.int)) SL.nil)))))) SSs.nil)))
noncomputable def k_extended : List T → Option T := funC 2 4 b_extended
theorem c_extended {G : Glo} (E : En G) : CallP G "extended" 1 k_extended := fun_ok E.ok (E.fn 1 (by decide)) fo_extended (p_extended E)

noncomputable def F_inverse_mod : FRec := frec 2
noncomputable def vs_inverse_mod : List Str := ["a", "m", "g", "s", "t"]
theorem fo_inverse_mod : FunOk F_inverse_mod vs_inverse_mod ["a", "m"] := ⟨by rfl, by rfl, by rfl, by decide +kernel, by decide +kernel, by decide +kernel, fun _ _ _ => len2 fun _ _ => rfl⟩
noncomputable def b_inverse_mod : SemS := (seqC (unpackC [2, 3, 4] (callC k_extended (consC (binC modI (nameC 0) (nameC 1)) (consC (nameC 1) nilC)))) (seqC (retC (ifC (cmpC eqI (nameC 2) (constC (.int 1))) (binC modI (nameC 3) (nameC 1)) (constC .none))) skipC))
theorem p_inverse_mod {G : Glo} (E : En G) : SSs G ⟨F_inverse_mod.scope, vs_inverse_mod.zipIdx, 1, vs_inverse_mod.length⟩ F_inverse_mod.body b_inverse_mod := (SSs.cons (SS.unpack (SE.callP E.ok (c_extended E) (by decide) (by rfl) (by rfl) (SL.cons (SE.bin modI_ok (SE.name (by rfl) (by rfl)) (SE.name (by rfl) (by rfl))) (SL.cons (SE.name (by rfl) (by rfl)) SL.nil))) (.cons (by rfl) (.cons (by rfl) (.cons (by rfl) .nil))) (hw := (by intro e h; cases e; cases h; rfl))) (SSs.cons (SS.ret (SE.ifExp (ST.cmp eqI_ok (SE.name (by rfl) (by rfl)) SE.int) (SE.bin modI_ok (SE.name (by rfl) (by rfl)) (SE.name (by rfl) (by rfl))) SE.none)) SSs.nil))
noncomputable def k_inverse_mod : List T → Option T := funC 2 3 b_inverse_mod
theorem c_inverse_mod {G : Glo} (E : En G) : CallP G "inverse_mod" 2 k_inverse_mod := fun_ok E.ok (E.fn 2 (by decide)) fo_inverse_mod (p_inverse_mod E)

noncomputable def F_mtrim : FRec := frec 4
noncomputable def vs_mtrim : List Str := ["a", "many"]
theorem fo_mtrim : FunOk F_mtrim vs_mtrim ["a"] := ⟨by rfl, by rfl, by rfl, by decide +kernel, by decide +kernel, by decide +kernel, fun _ _ _ => len1 fun _ => rfl⟩
noncomputable def b_mtrim : SemS := (seqC (assignC 1 (froC (pureC (lenP 0)))) (seqC (whileC (andC (cmpC gtI (nameC 1) (constC (.int 0))) (cmpC eqI (atP 0 (binP (· - ·) (nameP 1) (constP 1))) (constC (.int 0)))) (seqC (assignC 1 (froC (binC subI (nameC 1) (constC (.int 1))))) skipC) 1000) (seqC (retC (iceC (callX listF (consC (iceC (sliceC (nameC 0) none (some (nameP 1)))) nilC)))) skipC)))
theorem p_mtrim {G : Glo} (E : En G) : SSs G ⟨F_mtrim.scope, vs_mtrim.zipIdx, 0, vs_mtrim.length⟩ F_mtrim.body b_mtrim := (SSs.cons (SS.assign (SX.ofE (SE.ofP (SP.len E.ok E.len (by rfl) (by rfl) (by rfl) (by rfl)))) (by rfl)) (SSs.cons (SS.while 1000 (ST.and (ST.cmp gtI_ok (SE.name (by rfl) (by rfl)) SE.int) (ST.cmp eqI_ok (SE.at (by rfl) (by rfl) (SP.sub (SP.name (by rfl) (by rfl)) SP.int)) SE.int)) (SSs.cons (SS.assign (SX.ofE (SE.bin subI_ok (SE.name (by rfl) (by rfl)) SE.int)) (by rfl)) SSs.nil)) (SSs.cons (SS.ret (SE.ofX (SX.callL E.ok E.list (.type _) listF_ok (by rfl) (by rfl) (SL.cons (SE.ofX (SX.slice (fl := none) (fh := (some (nameP 1))) (SE.name (by rfl) (by rfl)) trivial (SP.name (by rfl) (by rfl)))) SL.nil)))) SSs.nil)))
noncomputable def k_mtrim : List T → Option T := funC 1 1 b_mtrim
theorem c_mtrim {G : Glo} (E : En G) : CallP G "mtrim" 1 k_mtrim := fun_ok E.ok (E.fn 4 (by decide)) fo_mtrim (p_mtrim E)

noncomputable def F_madd : FRec := frec 7
noncomputable def vs_madd : List Str := ["a", "b", "p", "found", "at"]
theorem fo_madd : FunOk F_madd vs_madd ["a", "b", "p"] := ⟨by rfl, by rfl, by rfl, by decide +kernel, by decide +kernel, by decide +kernel, fun _ _ _ => len3 fun _ _ _ => rfl⟩
noncomputable def b_madd : SemS := (seqC (assignC 3 (listC nilC)) (seqC (forS 4 (rangeIt (consC (callC maxF (consC (pureC (lenP 0)) (consC (pureC (lenP 1)) nilC))) nilC)) (seqC (appendC 3 (binC modI (binC addI (ifC (cmpC ltI (nameC 4) (pureC (lenP 0))) (atP 0 (nameP 4)) (constC (.int 0))) (ifC (cmpC ltI (nameC 4) (pureC (lenP 1))) (atP 1 (nameP 4)) (constC (.int 0)))) (nameC 2))) skipC)) (seqC (retC (callC k_mtrim (consC (nameC 3) nilC))) skipC)))
theorem p_madd {G : Glo} (E : En G) : SSs G ⟨F_madd.scope, vs_madd.zipIdx, 1, vs_madd.length⟩ F_madd.body b_madd := (SSs.cons (SS.assign (SX.list SL.nil) (by rfl)) (SSs.cons (SS.for (SI.range E.ok E.range (by rfl) (by rfl) (SL.cons (SE.callI E.ok E.max (.builtin _) maxF_ok (by rfl) (by rfl) (SL.cons (SE.ofP (SP.len E.ok E.len (by rfl) (by rfl) (by rfl) (by rfl))) (SL.cons (SE.ofP (SP.len E.ok E.len (by rfl) (by rfl) (by rfl) (by rfl))) SL.nil))) SL.nil)) (SSs.cons (SS.append (SE.bin modI_ok (SE.bin addI_ok (SE.ifExp (ST.cmp ltI_ok (SE.name (by rfl) (by rfl)) (SE.ofP (SP.len E.ok E.len (by rfl) (by rfl) (by rfl) (by rfl)))) (SE.at (by rfl) (by rfl) (SP.name (by rfl) (by rfl))) SE.int) (SE.ifExp (ST.cmp ltI_ok (SE.name (by rfl) (by rfl)) (SE.ofP (SP.len E.ok E.len (by rfl) (by rfl) (by rfl) (by rfl)))) (SE.at (by rfl) (by rfl) (SP.name (by rfl) (by rfl))) SE.int)) (SE.name (by rfl) (by rfl))) (by rfl) (by rfl) (by rfl)) SSs.nil) (by rfl)) (SSs.cons (SS.ret (SE.callP E.ok (c_mtrim E) (by decide) (by rfl) (by rfl) (SL.cons (SE.name (by rfl) (by rfl)) SL.nil))) SSs.nil)))
noncomputable def k_madd : List T → Option T := funC 3 2 b_madd
theorem c_madd {G : Glo} (E : En G) : CallP G "madd" 2 k_madd := fun_ok E.ok (E.fn 7 (by decide)) fo_madd (p_madd E)

noncomputable def F_mneg : FRec := frec 8
noncomputable def vs_mneg : List Str := ["a", "p"]
theorem fo_mneg : FunOk F_mneg vs_mneg ["a", "p"] := ⟨by rfl, by rfl, by rfl, by decide +kernel, by decide +kernel, by decide +kernel, fun _ _ _ => len2 fun _ _ => rfl⟩
noncomputable def b_mneg : SemS := (seqC (retC (iceC (ownC (compC 2 (listIt (nameC 0)) (binC modI (negC (nameC 2)) (nameC 1)))))) skipC)
theorem p_mneg {G : Glo} (E : En G) : SSs G ⟨F_mneg.scope, vs_mneg.zipIdx, 0, vs_mneg.length⟩ F_mneg.body b_mneg := (SSs.cons (SS.ret (SE.ofX (SX.comp (SC.comp (sl' := [("number", 2), ("p", 1)]) (SI.list (SE.name (by rfl) (by rfl))) (by decide +kernel) (by rfl) (by rfl) (SE.bin modI_ok (SE.neg (SE.name (by rfl) (by rfl))) (SE.name (by rfl) (by rfl))))))) SSs.nil)
noncomputable def k_mneg : List T → Option T := funC 2 1 b_mneg
theorem c_mneg {G : Glo} (E : En G) : CallP G "mneg" 1 k_mneg := fun_ok E.ok (E.fn 8 (by decide)) fo_mneg (p_mneg E)

noncomputable def F_msub : FRec := frec 9
noncomputable def vs_msub : List Str := ["a", "b", "p"]
theorem fo_msub : FunOk F_msub vs_msub ["a", "b", "p"] := ⟨by rfl, by rfl, by rfl, by decide +kernel, by decide +kernel, by decide +kernel, fun _ _ _ => len3 fun _ _ _ => rfl⟩
noncomputable def b_msub : SemS := (seqC (retC (callC k_madd (consC (nameC 0) (consC (callC k_mneg (consC (nameC 1) (consC (nameC 2) nilC))) (consC (nameC 2) nilC))))) skipC)
theorem p_msub {G : Glo} (E : En G) : SSs G ⟨F_msub.scope, vs_msub.zipIdx, 2, vs_msub.length⟩ F_msub.body b_msub := (SSs.cons (SS.ret (SE.callP E.ok (c_madd E) (by decide) (by rfl) (by rfl) (SL.cons (SE.name (by rfl) (by rfl)) (SL.cons (SE.callP E.ok (c_mneg E) (by decide) (by rfl) (by rfl) (SL.cons (SE.name (by rfl) (by rfl)) (SL.cons (SE.name (by rfl) (by rfl)) SL.nil))) (SL.cons (SE.name (by rfl) (by rfl)) SL.nil))))) SSs.nil)
noncomputable def k_msub : List T → Option T := funC 3 0 b_msub
theorem c_msub {G : Glo} (E : En G) : CallP G "msub" 3 k_msub := fun_ok E.ok (E.fn 9 (by decide)) fo_msub (p_msub E)

noncomputable def F_mscale : FRec := frec 10
noncomputable def vs_mscale : List Str := ["a", "number", "p"]
theorem fo_mscale : FunOk F_mscale vs_mscale ["a", "number", "p"] := ⟨by rfl, by rfl, by rfl, by decide +kernel, by decide +kernel, by decide +kernel, fun _ _ _ => len3 fun _ _ _ => rfl⟩
noncomputable def b_mscale : SemS := (seqC (retC (callC k_mtrim (consC (iceC (ownC (compC 3 (listIt (nameC 0)) (binC modI (binC mulI (nameC 3) (nameC 1)) (nameC 2))))) nilC))) skipC)
theorem p_mscale {G : Glo} (E : En G) : SSs G ⟨F_mscale.scope, vs_mscale.zipIdx, 1, vs_mscale.length⟩ F_mscale.body b_mscale := (SSs.cons (SS.ret (SE.callP E.ok (c_mtrim E) (by decide) (by rfl) (by rfl) (SL.cons (SE.ofX (SX.comp (SC.comp (sl' := [("one", 3), ("number", 1), ("p", 2)]) (SI.list (SE.name (by rfl) (by rfl))) (by decide +kernel) (by rfl) (by rfl) (SE.bin modI_ok (SE.bin mulI_ok (SE.name (by rfl) (by rfl)) (SE.name (by rfl) (by rfl))) (SE.name (by rfl) (by rfl)))))) SL.nil))) SSs.nil)
noncomputable def k_mscale : List T → Option T := funC 3 1 b_mscale
theorem c_mscale {G : Glo} (E : En G) : CallP G "mscale" 2 k_mscale := fun_ok E.ok (E.fn 10 (by decide)) fo_mscale (p_mscale E)

noncomputable def F_mmul : FRec := frec 11
noncomputable def vs_mmul : List Str := ["a", "b", "p", "found", "at", "one", "spot", "other"]
theorem fo_mmul : FunOk F_mmul vs_mmul ["a", "b", "p"] := ⟨by rfl, by rfl, by rfl, by decide +kernel, by decide +kernel, by decide +kernel, fun _ _ _ => len3 fun _ _ _ => rfl⟩
noncomputable def b_mmul : SemS := (seqC (iffC (orC (cmpC eqI (pureC (lenP 0)) (constC (.int 0))) (cmpC eqI (pureC (lenP 1)) (constC (.int 0)))) (seqC (retC (iceC (listC nilC))) skipC) skipC) (seqC (assignC 3 (repX (constC (.int 0)) (binC subI (binC addI (pureC (lenP 0)) (pureC (lenP 1))) (constC (.int 1))))) (seqC (forPS 4 5 (enumIt (consC (nameC 0) nilC)) (seqC (iffC (cmpC neI (nameC 5) (constC (.int 0))) (seqC (forPS 6 7 (enumIt (consC (nameC 1) nilC)) (seqC (setC 3 (binP (· + ·) (nameP 4) (nameP 6)) (binC modI (binC addI (atP 3 (binP (· + ·) (nameP 4) (nameP 6))) (binC mulI (nameC 5) (nameC 7))) (nameC 2))) skipC)) skipC) skipC) skipC)) (seqC (retC (callC k_mtrim (consC (nameC 3) nilC))) skipC))))
theorem p_mmul {G : Glo} (E : En G) : SSs G ⟨F_mmul.scope, vs_mmul.zipIdx, 1, vs_mmul.length⟩ F_mmul.body b_mmul := (SSs.cons (SS.if (ST.or (ST.cmp eqI_ok (SE.ofP (SP.len E.ok E.len (by rfl) (by rfl) (by rfl) (by rfl))) SE.int) (ST.cmp eqI_ok (SE.ofP (SP.len E.ok E.len (by rfl) (by rfl) (by rfl) (by rfl))) SE.int)) (SSs.cons (SS.ret (SE.ofX (SX.list SL.nil))) SSs.nil) SSs.nil) (SSs.cons (SS.assign (SX.rep SE.int (SE.bin subI_ok (SE.bin addI_ok (SE.ofP (SP.len E.ok E.len (by rfl) (by rfl) (by rfl) (by rfl))) (SE.ofP (SP.len E.ok E.len (by rfl) (by rfl) (by rfl) (by rfl)))) SE.int)) (by rfl)) (SSs.cons (SS.forP (SI2.enum E.ok E.enumerate (by rfl) (by rfl) (SL.cons (SE.name (by rfl) (by rfl)) SL.nil)) (SSs.cons (SS.if (ST.cmp neI_ok (SE.name (by rfl) (by rfl)) SE.int) (SSs.cons (SS.forP (SI2.enum E.ok E.enumerate (by rfl) (by rfl) (SL.cons (SE.name (by rfl) (by rfl)) SL.nil)) (SSs.cons (SS.set (SE.bin modI_ok (SE.bin addI_ok (SE.at (by rfl) (by rfl) (SP.add (SP.name (by rfl) (by rfl)) (SP.name (by rfl) (by rfl)))) (SE.bin mulI_ok (SE.name (by rfl) (by rfl)) (SE.name (by rfl) (by rfl)))) (SE.name (by rfl) (by rfl))) (by rfl) (by rfl) (SP.add (SP.name (by rfl) (by rfl)) (SP.name (by rfl) (by rfl)))) SSs.nil) (by rfl) (by rfl)) SSs.nil) SSs.nil) SSs.nil) (by rfl) (by rfl)) (SSs.cons (SS.ret (SE.callP E.ok (c_mtrim E) (by decide) (by rfl) (by rfl) (SL.cons (SE.name (by rfl) (by rfl)) SL.nil))) SSs.nil))))
noncomputable def k_mmul : List T → Option T := funC 3 5 b_mmul
theorem c_mmul {G : Glo} (E : En G) : CallP G "mmul" 2 k_mmul := fun_ok E.ok (E.fn 11 (by decide)) fo_mmul (p_mmul E)

noncomputable def F_mdivmod : FRec := frec 12
noncomputable def vs_mdivmod : List Str := ["a", "b", "p", "rest", "quotient", "turn", "at", "number", "spot", "other"]
theorem fo_mdivmod : FunOk F_mdivmod vs_mdivmod ["a", "b", "p"] := ⟨by rfl, by rfl, by rfl, by decide +kernel, by decide +kernel, by decide +kernel, fun _ _ _ => len3 fun _ _ _ => rfl⟩
noncomputable def b_mdivmod : SemS := (seqC (swap2C 3 4 (callX listF (consC (nameC 0) nilC)) (repX (constC (.int 0)) (callC maxF (consC (constC (.int 0)) (consC (binC addI (binC subI (pureC (lenP 0)) (pureC (lenP 1))) (constC (.int 1))) nilC))))) (seqC (assignC 5 (froC (callC k_inverse_mod (consC (atP 1 (negP (constP 1))) (consC (nameC 2) nilC))))) (seqC (forS 6 (rangeIt (consC (binC subI (pureC (lenP 0)) (pureC (lenP 1))) (consC (negC (constC (.int 1))) (consC (negC (constC (.int 1))) nilC)))) (seqC (assignC 7 (froC (binC modI (binC mulI (atP 3 (binP (· - ·) (binP (· + ·) (nameP 6) (lenP 1)) (constP 1))) (nameC 5)) (nameC 2)))) (seqC (setC 4 (nameP 6) (nameC 7)) (seqC (iffC (cmpC neI (nameC 7) (constC (.int 0))) (seqC (forPS 8 9 (enumIt (consC (nameC 1) nilC)) (seqC (setC 3 (binP (· + ·) (nameP 6) (nameP 8)) (binC modI (binC subI (atP 3 (binP (· + ·) (nameP 6) (nameP 8))) (binC mulI (nameC 7) (nameC 9))) (nameC 2))) skipC)) skipC) skipC) skipC)))) (seqC (retC (tupC (consC (callC k_mtrim (consC (nameC 4) nilC)) (consC (callC k_mtrim (consC (iceC (sliceC (nameC 3) none (some (binP (· - ·) (lenP 1) (constP 1))))) nilC)) nilC)))) skipC))))
theorem p_mdivmod {G : Glo} (E : En G) : SSs G ⟨F_mdivmod.scope, vs_mdivmod.zipIdx, 2, vs_mdivmod.length⟩ F_mdivmod.body b_mdivmod := (SSs.cons (SS.swap2 (SX.callL E.ok E.list (.type _) listF_ok (by rfl) (by rfl) (SL.cons (SE.name (by rfl) (by rfl)) SL.nil)) (SX.rep SE.int (SE.callI E.ok E.max (.builtin _) maxF_ok (by rfl) (by rfl) (SL.cons SE.int (SL.cons (SE.bin addI_ok (SE.bin subI_ok (SE.ofP (SP.len E.ok E.len (by rfl) (by rfl) (by rfl) (by rfl))) (SE.ofP (SP.len E.ok E.len (by rfl) (by rfl) (by rfl) (by rfl)))) SE.int) SL.nil)))) (by rfl) (by rfl) (hw := (by intro e h; cases e; cases h; rfl))) (SSs.cons (SS.assign (SX.ofE (SE.callP E.ok (c_inverse_mod E) (by decide) (by rfl) (by rfl) (SL.cons (SE.at (by rfl) (by rfl) (SP.neg SP.int)) (SL.cons (SE.name (by rfl) (by rfl)) SL.nil)))) (by rfl)) (SSs.cons (SS.for (SI.range E.ok E.range (by rfl) (by rfl) (SL.cons (SE.bin subI_ok (SE.ofP (SP.len E.ok E.len (by rfl) (by rfl) (by rfl) (by rfl))) (SE.ofP (SP.len E.ok E.len (by rfl) (by rfl) (by rfl) (by rfl)))) (SL.cons (SE.neg SE.int) (SL.cons (SE.neg SE.int) SL.nil)))) (SSs.cons (SS.assign (SX.ofE (SE.bin modI_ok (SE.bin mulI_ok (SE.at (by rfl) (by rfl) (SP.sub (SP.add (SP.name (by rfl) (by rfl)) (SP.len E.ok E.len (by rfl) (by rfl) (by rfl) (by rfl))) SP.int)) (SE.name (by rfl) (by rfl))) (SE.name (by rfl) (by rfl)))) (by rfl)) (SSs.cons (SS.set (SE.name (by rfl) (by rfl)) (by rfl) (by rfl) (SP.name (by rfl) (by rfl))) (SSs.cons (SS.if (ST.cmp neI_ok (SE.name (by rfl) (by rfl)) SE.int) (SSs.cons (SS.forP (SI2.enum E.ok E.enumerate (by rfl) (by rfl) (SL.cons (SE.name (by rfl) (by rfl)) SL.nil)) (SSs.cons (SS.set (SE.bin modI_ok (SE.bin subI_ok (SE.at (by rfl) (by rfl) (SP.add (SP.name (by rfl) (by rfl)) (SP.name (by rfl) (by rfl)))) (SE.bin mulI_ok (SE.name (by rfl) (by rfl)) (SE.name (by rfl) (by rfl)))) (SE.name (by rfl) (by rfl))) (by rfl) (by rfl) (SP.add (SP.name (by rfl) (by rfl)) (SP.name (by rfl) (by rfl)))) SSs.nil) (by rfl) (by rfl)) SSs.nil) SSs.nil) SSs.nil))) (by rfl)) (SSs.cons (SS.ret (SE.tuple (SL.cons (SE.callP E.ok (c_mtrim E) (by decide) (by rfl) (by rfl) (SL.cons (SE.name (by rfl) (by rfl)) SL.nil)) (SL.cons (SE.callP E.ok (c_mtrim E) (by decide) (by rfl) (by rfl) (SL.cons (SE.ofX (SX.slice (fl := none) (fh := (some (binP (· - ·) (lenP 1) (constP 1)))) (SE.name (by rfl) (by rfl)) trivial (SP.sub (SP.len E.ok E.len (by rfl) (by rfl) (by rfl) (by rfl)) SP.int))) SL.nil)) SL.nil)))) SSs.nil))))
noncomputable def k_mdivmod : List T → Option T := funC 3 7 b_mdivmod
theorem c_mdivmod {G : Glo} (E : En G) : CallP G "mdivmod" 3 k_mdivmod := fun_ok E.ok (E.fn 12 (by decide)) fo_mdivmod (p_mdivmod E)

noncomputable def F_mrest : FRec := frec 13
noncomputable def vs_mrest : List Str := ["a", "b", "p"]
theorem fo_mrest : FunOk F_mrest vs_mrest ["a", "b", "p"] := ⟨by rfl, by rfl, by rfl, by decide +kernel, by decide +kernel, by decide +kernel, fun _ _ _ => len3 fun _ _ _ => rfl⟩
noncomputable def b_mrest : SemS := (seqC (retC (atC (callC k_mdivmod (consC (nameC 0) (consC (nameC 1) (consC (nameC 2) nilC)))) (constP 1))) skipC)
theorem p_mrest {G : Glo} (E : En G) : SSs G ⟨F_mrest.scope, vs_mrest.zipIdx, 3, vs_mrest.length⟩ F_mrest.body b_mrest := (SSs.cons (SS.ret (SE.atV (SE.callP E.ok (c_mdivmod E) (by decide) (by rfl) (by rfl) (SL.cons (SE.name (by rfl) (by rfl)) (SL.cons (SE.name (by rfl) (by rfl)) (SL.cons (SE.name (by rfl) (by rfl)) SL.nil)))) SP.int)) SSs.nil)
noncomputable def k_mrest : List T → Option T := funC 3 0 b_mrest
theorem c_mrest {G : Glo} (E : En G) : CallP G "mrest" 4 k_mrest := fun_ok E.ok (E.fn 13 (by decide)) fo_mrest (p_mrest E)

noncomputable def F_mquotient : FRec := frec 14
noncomputable def vs_mquotient : List Str := ["a", "b", "p"]
theorem fo_mquotient : FunOk F_mquotient vs_mquotient ["a", "b", "p"] := ⟨by rfl, by rfl, by rfl, by decide +kernel, by decide +kernel, by decide +kernel, fun _ _ _ => len3 fun _ _ _ => rfl⟩
noncomputable def b_mquotient : SemS := (seqC (retC (atC (callC k_mdivmod (consC (nameC 0) (consC (nameC 1) (consC (nameC 2) nilC)))) (constP 0))) skipC)
theorem p_mquotient {G : Glo} (E : En G) : SSs G ⟨F_mquotient.scope, vs_mquotient.zipIdx, 3, vs_mquotient.length⟩ F_mquotient.body b_mquotient := (SSs.cons (SS.ret (SE.atV (SE.callP E.ok (c_mdivmod E) (by decide) (by rfl) (by rfl) (SL.cons (SE.name (by rfl) (by rfl)) (SL.cons (SE.name (by rfl) (by rfl)) (SL.cons (SE.name (by rfl) (by rfl)) SL.nil)))) SP.int)) SSs.nil)
noncomputable def k_mquotient : List T → Option T := funC 3 0 b_mquotient
theorem c_mquotient {G : Glo} (E : En G) : CallP G "mquotient" 4 k_mquotient := fun_ok E.ok (E.fn 14 (by decide)) fo_mquotient (p_mquotient E)

noncomputable def F_mmonic : FRec := frec 15
noncomputable def vs_mmonic : List Str := ["a", "p"]
theorem fo_mmonic : FunOk F_mmonic vs_mmonic ["a", "p"] := ⟨by rfl, by rfl, by rfl, by decide +kernel, by decide +kernel, by decide +kernel, fun _ _ _ => len2 fun _ _ => rfl⟩
noncomputable def b_mmonic : SemS := (seqC (retC (ifC (cmpC gtI (pureC (lenP 0)) (constC (.int 0))) (callC k_mscale (consC (nameC 0) (consC (callC k_inverse_mod (consC (atP 0 (negP (constP 1))) (consC (nameC 1) nilC))) (consC (nameC 1) nilC)))) (iceC (listC nilC)))) skipC)
theorem p_mmonic {G : Glo} (E : En G) : SSs G ⟨F_mmonic.scope, vs_mmonic.zipIdx, 2, vs_mmonic.length⟩ F_mmonic.body b_mmonic := (SSs.cons (SS.ret (SE.ifExp (ST.cmp gtI_ok (SE.ofP (SP.len E.ok E.len (by rfl) (by rfl) (by rfl) (by rfl))) SE.int) (SE.callP E.ok (c_mscale E) (by decide) (by rfl) (by rfl) (SL.cons (SE.name (by rfl) (by rfl)) (SL.cons (SE.callP E.ok (c_inverse_mod E) (by decide) (by rfl) (by rfl) (SL.cons (SE.at (by rfl) (by rfl) (SP.neg SP.int)) (SL.cons (SE.name (by rfl) (by rfl)) SL.nil))) (SL.cons (SE.name (by rfl) (by rfl)) SL.nil)))) (SE.ofX (SX.list SL.nil)))) SSs.nil)
noncomputable def k_mmonic : List T → Option T := funC 2 0 b_mmonic
theorem c_mmonic {G : Glo} (E : En G) : CallP G "mmonic" 3 k_mmonic := fun_ok E.ok (E.fn 15 (by decide)) fo_mmonic (p_mmonic E)

noncomputable def F_mgcd : FRec := frec 21
noncomputable def vs_mgcd : List Str := ["a", "b", "p"]
theorem fo_mgcd : FunOk F_mgcd vs_mgcd ["a", "b", "p"] := ⟨by rfl, by rfl, by rfl, by decide +kernel, by decide +kernel, by decide +kernel, fun _ _ _ => len3 fun _ _ _ => rfl⟩
noncomputable def b_mgcd : SemS := (seqC (whileC (cmpC gtI (pureC (lenP 1)) (constC (.int 0))) (seqC (swap2C 0 1 (froC (nameC 1)) (froC (callC k_mrest (consC (nameC 0) (consC (nameC 1) (consC (nameC 2) nilC)))))) skipC) 1000) (seqC (retC (callC k_mmonic (consC (nameC 0) (consC (nameC 2) nilC)))) skipC))
theorem p_mgcd {G : Glo} (E : En G) : SSs G ⟨F_mgcd.scope, vs_mgcd.zipIdx, 4, vs_mgcd.length⟩ F_mgcd.body b_mgcd := (SSs.cons (SS.while 1000 (ST.cmp gtI_ok (SE.ofP (SP.len E.ok E.len (by rfl) (by rfl) (by rfl) (by rfl))) SE.int) (SSs.cons (SS.swap2 (SX.ofE (SE.name (by rfl) (by rfl))) (SX.ofE (SE.callP E.ok (c_mrest E) (by decide) (by rfl) (by rfl) (SL.cons (SE.name (by rfl) (by rfl)) (SL.cons (SE.name (by rfl) (by rfl)) (SL.cons (SE.name (by rfl) (by rfl)) SL.nil))))) (by rfl) (by rfl) (hw := (by intro e h; cases e; cases h; rfl))) SSs.nil)) (SSs.cons (SS.ret (SE.callP E.ok (c_mmonic E) (by decide) (by rfl) (by rfl) (SL.cons (SE.name (by rfl) (by rfl)) (SL.cons (SE.name (by rfl) (by rfl)) SL.nil)))) SSs.nil))
noncomputable def k_mgcd : List T → Option T := funC 3 0 b_mgcd
theorem c_mgcd {G : Glo} (E : En G) : CallP G "mgcd" 5 k_mgcd := fun_ok E.ok (E.fn 21 (by decide)) fo_mgcd (p_mgcd E)

noncomputable def F_mextended : FRec := frec 22
noncomputable def vs_mextended : List Str := ["a", "b", "p", "one", "other", "quotient", "rest", "later", "turn"]
theorem fo_mextended : FunOk F_mextended vs_mextended ["a", "b", "p"] := ⟨by rfl, by rfl, by rfl, by decide +kernel, by decide +kernel, by decide +kernel, fun _ _ _ => len3 fun _ _ _ => rfl⟩
noncomputable def b_mextended : SemS := (seqC (swap2C 3 4 (froC (tupC (consC (nameC 0) (consC (iceC (listC (consC (constC (.int 1)) nilC))) (consC (iceC (listC nilC)) nilC))))) (froC (tupC (consC (nameC 1) (consC (iceC (listC nilC)) (consC (iceC (listC (consC (constC (.int 1)) nilC))) nilC)))))) (seqC (whileC (cmpC gtI (callC lenF (consC (atP 4 (constP 0)) nilC)) (constC (.int 0))) (seqC (unpackC [5, 6] (callC k_mdivmod (consC (atP 3 (constP 0)) (consC (atP 4 (constP 0)) (consC (nameC 2) nilC))))) (seqC (assignC 7 (froC (tupC (consC (nameC 6) (consC (callC k_msub (consC (atP 3 (constP 1)) (consC (callC k_mmul (consC (nameC 5) (consC (atP 4 (constP 1)) (consC (nameC 2) nilC)))) (consC (nameC 2) nilC)))) (consC (callC k_msub (consC (atP 3 (constP 2)) (consC (callC k_mmul (consC (nameC 5) (consC (atP 4 (constP 2)) (consC (nameC 2) nilC)))) (consC (nameC 2) nilC)))) nilC)))))) (seqC (swap2C 3 4 (froC (nameC 4)) (froC (nameC 7))) skipC))) 1000) (seqC (iffC (cmpC eqI (callC lenF (consC (atP 3 (constP 0)) nilC)) (constC (.int 0))) (seqC (retC (tupC (consC (iceC (listC nilC)) (consC (iceC (listC nilC)) (consC (iceC (listC nilC)) nilC))))) skipC) skipC) (seqC (assignC 8 (froC (callC k_inverse_mod (consC (atC (atP 3 (constP 0)) (negP (constP 1))) (consC (nameC 2) nilC))))) (seqC (retC (tupC (consC (callC k_mscale (consC (atP 3 (constP 0)) (consC (nameC 8) (consC (nameC 2) nilC)))) (consC (callC k_mscale (consC (atP 3 (constP 1)) (consC (nameC 8) (consC (nameC 2) nilC)))) (consC (callC k_mscale (consC (atP 3 (constP 2)) (consC (nameC 8) (consC (nameC 2) nilC)))) nilC))))) skipC)))))
theorem p_mextended {G : Glo} (E : En G) : SSs G ⟨F_mextended.scope, vs_mextended.zipIdx, 3, vs_mextended.length⟩ F_mextended.body b_mextended := (SSs.cons (SS.swap2 (SX.ofE (SE.tuple (SL.cons (SE.name (by rfl) (by rfl)) (SL.cons (SE.ofX (SX.list (SL.cons SE.int SL.nil))) (SL.cons (SE.ofX (SX.list SL.nil)) SL.nil))))) (SX.ofE (SE.tuple (SL.cons (SE.name (by rfl) (by rfl)) (SL.cons (SE.ofX (SX.list SL.nil)) (SL.cons (SE.ofX (SX.list (SL.cons SE.int SL.nil))) SL.nil))))) (by rfl) (by rfl) (hw := (by intro e h; cases e; cases h; rfl))) (SSs.cons (SS.while 1000 (ST.cmp gtI_ok (SE.callI E.ok E.len (.builtin _) lenF_ok (by rfl) (by rfl) (SL.cons (SE.at (by rfl) (by rfl) SP.int) SL.nil)) SE.int) (SSs.cons (SS.unpack (SE.callP E.ok (c_mdivmod E) (by decide) (by rfl) (by rfl) (SL.cons (SE.at (by rfl) (by rfl) SP.int) (SL.cons (SE.at (by rfl) (by rfl) SP.int) (SL.cons (SE.name (by rfl) (by rfl)) SL.nil)))) (.cons (by rfl) (.cons (by rfl) .nil)) (hw := (by intro e h; cases e; cases h; rfl))) (SSs.cons (SS.assign (SX.ofE (SE.tuple (SL.cons (SE.name (by rfl) (by rfl)) (SL.cons (SE.callP E.ok (c_msub E) (by decide) (by rfl) (by rfl) (SL.cons (SE.at (by rfl) (by rfl) SP.int) (SL.cons (SE.callP E.ok (c_mmul E) (by decide) (by rfl) (by rfl) (SL.cons (SE.name (by rfl) (by rfl)) (SL.cons (SE.at (by rfl) (by rfl) SP.int) (SL.cons (SE.name (by rfl) (by rfl)) SL.nil)))) (SL.cons (SE.name (by rfl) (by rfl)) SL.nil)))) (SL.cons (SE.callP E.ok (c_msub E) (by decide) (by rfl) (by rfl) (SL.cons (SE.at (by rfl) (by rfl) SP.int) (SL.cons (SE.callP E.ok (c_mmul E) (by decide) (by rfl) (by rfl) (SL.cons (SE.name (by rfl) (by rfl)) (SL.cons (SE.at (by rfl) (by rfl) SP.int) (SL.cons (SE.name (by rfl) (by rfl)) SL.nil)))) (SL.cons (SE.name (by rfl) (by rfl)) SL.nil)))) SL.nil))))) (by rfl)) (SSs.cons (SS.swap2 (SX.ofE (SE.name (by rfl) (by rfl))) (SX.ofE (SE.name (by rfl) (by rfl))) (by rfl) (by rfl) (hw := (by intro e h; cases e; cases h; rfl))) SSs.nil)))) (SSs.cons (SS.if (ST.cmp eqI_ok (SE.callI E.ok E.len (.builtin _) lenF_ok (by rfl) (by rfl) (SL.cons (SE.at (by rfl) (by rfl) SP.int) SL.nil)) SE.int) (SSs.cons (SS.ret (SE.tuple (SL.cons (SE.ofX (SX.list SL.nil)) (SL.cons (SE.ofX (SX.list SL.nil)) (SL.cons (SE.ofX (SX.list SL.nil)) SL.nil))))) SSs.nil) SSs.nil) (SSs.cons (SS.assign (SX.ofE (SE.callP E.ok (c_inverse_mod E) (by decide) (by rfl) (by rfl) (SL.cons (SE.atV (SE.at (by rfl) (by rfl) SP.int) (SP.neg SP.int)) (SL.cons (SE.name (by rfl) (by rfl)) SL.nil)))) (by rfl)) (SSs.cons (SS.ret (SE.tuple (SL.cons (SE.callP E.ok (c_mscale E) (by decide) (by rfl) (by rfl) (SL.cons (SE.at (by rfl) (by rfl) SP.int) (SL.cons (SE.name (by rfl) (by rfl)) (SL.cons (SE.name (by rfl) (by rfl)) SL.nil)))) (SL.cons (SE.callP E.ok (c_mscale E) (by decide) (by rfl) (by rfl) (SL.cons (SE.at (by rfl) (by rfl) SP.int) (SL.cons (SE.name (by rfl) (by rfl)) (SL.cons (SE.name (by rfl) (by rfl)) SL.nil)))) (SL.cons (SE.callP E.ok (c_mscale E) (by decide) (by rfl) (by rfl) (SL.cons (SE.at (by rfl) (by rfl) SP.int) (SL.cons (SE.name (by rfl) (by rfl)) (SL.cons (SE.name (by rfl) (by rfl)) SL.nil)))) SL.nil))))) SSs.nil)))))
noncomputable def k_mextended : List T → Option T := funC 3 6 b_mextended
theorem c_mextended {G : Glo} (E : En G) : CallP G "mextended" 4 k_mextended := fun_ok E.ok (E.fn 22 (by decide)) fo_mextended (p_mextended E)

noncomputable def F_minverse : FRec := frec 23
noncomputable def vs_minverse : List Str := ["a", "f", "p", "common", "s", "t"]
theorem fo_minverse : FunOk F_minverse vs_minverse ["a", "f", "p"] := ⟨by rfl, by rfl, by rfl, by decide +kernel, by decide +kernel, by decide +kernel, fun _ _ _ => len3 fun _ _ _ => rfl⟩
noncomputable def b_minverse : SemS := (seqC (unpackC [3, 4, 5] (callC k_mextended (consC (callC k_mrest (consC (nameC 0) (consC (nameC 1) (consC (nameC 2) nilC)))) (consC (nameC 1) (consC (nameC 2) nilC))))) (seqC (retC (ifC (cmpC eqL (nameC 3) (iceC (listC (consC (constC (.int 1)) nilC)))) (callC k_mrest (consC (nameC 4) (consC (nameC 1) (consC (nameC 2) nilC)))) (constC .none))) skipC))
theorem p_minverse {G : Glo} (E : En G) : SSs G ⟨F_minverse.scope, vs_minverse.zipIdx, 4, vs_minverse.length⟩ F_minverse.body b_minverse := (SSs.cons (SS.unpack (SE.callP E.ok (c_mextended E) (by decide) (by rfl) (by rfl) (SL.cons (SE.callP E.ok (c_mrest E) (by decide) (by rfl) (by rfl) (SL.cons (SE.name (by rfl) (by rfl)) (SL.cons (SE.name (by rfl) (by rfl)) (SL.cons (SE.name (by rfl) (by rfl)) SL.nil)))) (SL.cons (SE.name (by rfl) (by rfl)) (SL.cons (SE.name (by rfl) (by rfl)) SL.nil)))) (.cons (by rfl) (.cons (by rfl) (.cons (by rfl) .nil))) (hw := (by intro e h; cases e; cases h; rfl))) (SSs.cons (SS.ret (SE.ifExp (ST.cmp eqL_ok (SE.name (by rfl) (by rfl)) (SE.ofX (SX.list (SL.cons SE.int SL.nil)))) (SE.callP E.ok (c_mrest E) (by decide) (by rfl) (by rfl) (SL.cons (SE.name (by rfl) (by rfl)) (SL.cons (SE.name (by rfl) (by rfl)) (SL.cons (SE.name (by rfl) (by rfl)) SL.nil)))) SE.none)) SSs.nil))
noncomputable def k_minverse : List T → Option T := funC 3 3 b_minverse
theorem c_minverse {G : Glo} (E : En G) : CallP G "minverse" 5 k_minverse := fun_ok E.ok (E.fn 23 (by decide)) fo_minverse (p_minverse E)
end Mine

namespace Mine
open PySem PySem.W PyProof.Rows PySem.Calls
noncomputable def F__law_left : FRec := frec 45
noncomputable def vs__law_left : List Str := ["row", "f", "p", "many", "last", "at"]
theorem fo__law_left : FunOk F__law_left vs__law_left ["row", "f", "p"] := ⟨by rfl, by rfl, by rfl, by decide +kernel, by decide +kernel, by decide +kernel, fun _ _ _ => len3 fun _ _ _ => rfl⟩
noncomputable def b__law_left : SemS := (seqC (swap2C 0 3 (callX listF (consC (nameC 0) nilC)) (froC (binC subI (pureC (lenP 1)) (constC (.int 1))))) (seqC (whileC (cmpC gtI (pureC (lenP 0)) (nameC 3)) (seqC (assignC 4 (froC (popC 0))) (seqC (forS 5 (rangeIt (consC (nameC 3) nilC)) (seqC (setC 0 (binP (· + ·) (binP (· - ·) (lenP 0) (nameP 3)) (nameP 5)) (binC modI (binC subI (atP 0 (binP (· + ·) (binP (· - ·) (lenP 0) (nameP 3)) (nameP 5))) (binC mulI (nameC 4) (atP 1 (nameP 5)))) (nameC 2))) skipC)) skipC)) 1000) (seqC (retC (iceC (addX (nameC 0) (iceC (repX (constC (.int 0)) (binC subI (nameC 3) (pureC (lenP 0)))))))) skipC)))
theorem p__law_left {G : Glo} (E : En G) : SSs G ⟨F__law_left.scope, vs__law_left.zipIdx, 0, vs__law_left.length⟩ F__law_left.body b__law_left := (SSs.cons (SS.swap2 (SX.callL E.ok E.list (.type _) listF_ok (by rfl) (by rfl) (SL.cons (SE.name (by rfl) (by rfl)) SL.nil)) (SX.ofE (SE.bin subI_ok (SE.ofP (SP.len E.ok E.len (by rfl) (by rfl) (by rfl) (by rfl))) SE.int)) (by rfl) (by rfl) (hw := (by intro e h; cases e; cases h; rfl))) (SSs.cons (SS.while 1000 (ST.cmp gtI_ok (SE.ofP (SP.len E.ok E.len (by rfl) (by rfl) (by rfl) (by rfl))) (SE.name (by rfl) (by rfl))) (SSs.cons (SS.assign (SX.ofE (SE.pop (by rfl) (by rfl) (by rfl))) (by rfl)) (SSs.cons (SS.for (SI.range E.ok E.range (by rfl) (by rfl) (SL.cons (SE.name (by rfl) (by rfl)) SL.nil)) (SSs.cons (SS.set (SE.bin modI_ok (SE.bin subI_ok (SE.at (by rfl) (by rfl) (SP.add (SP.sub (SP.len E.ok E.len (by rfl) (by rfl) (by rfl) (by rfl)) (SP.name (by rfl) (by rfl))) (SP.name (by rfl) (by rfl)))) (SE.bin mulI_ok (SE.name (by rfl) (by rfl)) (SE.at (by rfl) (by rfl) (SP.name (by rfl) (by rfl))))) (SE.name (by rfl) (by rfl))) (by rfl) (by rfl) (SP.add (SP.sub (SP.len E.ok E.len (by rfl) (by rfl) (by rfl) (by rfl)) (SP.name (by rfl) (by rfl))) (SP.name (by rfl) (by rfl)))) SSs.nil) (by rfl)) SSs.nil))) (SSs.cons (SS.ret (SE.ofX (SX.add (SE.name (by rfl) (by rfl)) (SE.ofX (SX.rep SE.int (SE.bin subI_ok (SE.name (by rfl) (by rfl)) (SE.ofP (SP.len E.ok E.len (by rfl) (by rfl) (by rfl) (by rfl))))))))) SSs.nil)))
noncomputable def k__law_left : List T → Option T := funC 3 3 b__law_left
theorem c__law_left {G : Glo} (E : En G) : CallP G "_law_left" 1 k__law_left := fun_ok E.ok (E.fn 45 (by decide)) fo__law_left (p__law_left E)

noncomputable def F__law_times : FRec := frec 46
noncomputable def vs__law_times : List Str := ["a", "b", "p", "found", "at", "one", "spot", "other"]
theorem fo__law_times : FunOk F__law_times vs__law_times ["a", "b", "p"] := ⟨by rfl, by rfl, by rfl, by decide +kernel, by decide +kernel, by decide +kernel, fun _ _ _ => len3 fun _ _ _ => rfl⟩
noncomputable def b__law_times : SemS := (seqC (assignC 3 (repX (constC (.int 0)) (binC subI (binC addI (pureC (lenP 0)) (pureC (lenP 1))) (constC (.int 1))))) (seqC (forPS 4 5 (enumIt (consC (nameC 0) nilC)) (seqC (forPS 6 7 (enumIt (consC (nameC 1) nilC)) (seqC (setC 3 (binP (· + ·) (nameP 4) (nameP 6)) (binC modI (binC addI (atP 3 (binP (· + ·) (nameP 4) (nameP 6))) (binC mulI (nameC 5) (nameC 7))) (nameC 2))) skipC)) skipC)) (seqC (retC (nameC 3)) skipC)))
theorem p__law_times {G : Glo} (E : En G) : SSs G ⟨F__law_times.scope, vs__law_times.zipIdx, 0, vs__law_times.length⟩ F__law_times.body b__law_times := (SSs.cons (SS.assign (SX.rep SE.int (SE.bin subI_ok (SE.bin addI_ok (SE.ofP (SP.len E.ok E.len (by rfl) (by rfl) (by rfl) (by rfl))) (SE.ofP (SP.len E.ok E.len (by rfl) (by rfl) (by rfl) (by rfl)))) SE.int)) (by rfl)) (SSs.cons (SS.forP (SI2.enum E.ok E.enumerate (by rfl) (by rfl) (SL.cons (SE.name (by rfl) (by rfl)) SL.nil)) (SSs.cons (SS.forP (SI2.enum E.ok E.enumerate (by rfl) (by rfl) (SL.cons (SE.name (by rfl) (by rfl)) SL.nil)) (SSs.cons (SS.set (SE.bin modI_ok (SE.bin addI_ok (SE.at (by rfl) (by rfl) (SP.add (SP.name (by rfl) (by rfl)) (SP.name (by rfl) (by rfl)))) (SE.bin mulI_ok (SE.name (by rfl) (by rfl)) (SE.name (by rfl) (by rfl)))) (SE.name (by rfl) (by rfl))) (by rfl) (by rfl) (SP.add (SP.name (by rfl) (by rfl)) (SP.name (by rfl) (by rfl)))) SSs.nil) (by rfl) (by rfl)) SSs.nil) (by rfl) (by rfl)) (SSs.cons (SS.ret (SE.name (by rfl) (by rfl))) SSs.nil)))
noncomputable def k__law_times : List T → Option T := funC 3 5 b__law_times
theorem c__law_times {G : Glo} (E : En G) : CallP G "_law_times" 1 k__law_times := fun_ok E.ok (E.fn 46 (by decide)) fo__law_times (p__law_times E)

noncomputable def F__law_power : FRec := frec 47
noncomputable def vs__law_power : List Str := ["a", "many", "f", "p", "found", "turn"]
theorem fo__law_power : FunOk F__law_power vs__law_power ["a", "many", "f", "p"] := ⟨by rfl, by rfl, by rfl, by decide +kernel, by decide +kernel, by decide +kernel, fun _ _ _ => len4 fun _ _ _ _ => rfl⟩
noncomputable def b__law_power : SemS := (seqC (assignC 4 (froC (nameC 0))) (seqC (forS 5 (rangeIt (consC (binC subI (nameC 1) (constC (.int 1))) nilC)) (seqC (assignC 4 (froC (callC k__law_left (consC (callC k__law_times (consC (nameC 4) (consC (nameC 0) (consC (nameC 3) nilC)))) (consC (nameC 2) (consC (nameC 3) nilC)))))) skipC)) (seqC (retC (nameC 4)) skipC)))
theorem p__law_power {G : Glo} (E : En G) : SSs G ⟨F__law_power.scope, vs__law_power.zipIdx, 1, vs__law_power.length⟩ F__law_power.body b__law_power := (SSs.cons (SS.assign (SX.ofE (SE.name (by rfl) (by rfl))) (by rfl)) (SSs.cons (SS.for (SI.range E.ok E.range (by rfl) (by rfl) (SL.cons (SE.bin subI_ok (SE.name (by rfl) (by rfl)) SE.int) SL.nil)) (SSs.cons (SS.assign (SX.ofE (SE.callP E.ok (c__law_left E) (by decide) (by rfl) (by rfl) (SL.cons (SE.callP E.ok (c__law_times E) (by decide) (by rfl) (by rfl) (SL.cons (SE.name (by rfl) (by rfl)) (SL.cons (SE.name (by rfl) (by rfl)) (SL.cons (SE.name (by rfl) (by rfl)) SL.nil)))) (SL.cons (SE.name (by rfl) (by rfl)) (SL.cons (SE.name (by rfl) (by rfl)) SL.nil))))) (by rfl)) SSs.nil) (by rfl)) (SSs.cons (SS.ret (SE.name (by rfl) (by rfl))) SSs.nil)))
noncomputable def k__law_power : List T → Option T := funC 4 2 b__law_power
theorem c__law_power {G : Glo} (E : En G) : CallP G "_law_power" 2 k__law_power := fun_ok E.ok (E.fn 47 (by decide)) fo__law_power (p__law_power E)

noncomputable def F__law_cut : FRec := frec 50
noncomputable def vs__law_cut : List Str := ["row"]
theorem fo__law_cut : FunOk F__law_cut vs__law_cut ["row"] := ⟨by rfl, by rfl, by rfl, by decide +kernel, by decide +kernel, by decide +kernel, fun _ _ _ => len1 fun _ => rfl⟩
noncomputable def b__law_cut : SemS := (seqC (whileC (andC (cmpC neL (nameC 0) (iceC (listC nilC))) (cmpC eqI (atP 0 (negP (constP 1))) (constC (.int 0)))) (seqC (assignC 0 (sliceC (nameC 0) none (some (negP (constP 1))))) skipC) 1000) (seqC (retC (nameC 0)) skipC))
theorem p__law_cut {G : Glo} (E : En G) : SSs G ⟨F__law_cut.scope, vs__law_cut.zipIdx, 0, vs__law_cut.length⟩ F__law_cut.body b__law_cut := (SSs.cons (SS.while 1000 (ST.and (ST.cmp neL_ok (SE.name (by rfl) (by rfl)) (SE.ofX (SX.list SL.nil))) (ST.cmp eqI_ok (SE.at (by rfl) (by rfl) (SP.neg SP.int)) SE.int)) (SSs.cons (SS.assign (SX.slice (fl := none) (fh := (some (negP (constP 1)))) (SE.name (by rfl) (by rfl)) trivial (SP.neg SP.int)) (by rfl)) SSs.nil)) (SSs.cons (SS.ret (SE.name (by rfl) (by rfl))) SSs.nil))
noncomputable def k__law_cut : List T → Option T := funC 1 0 b__law_cut
theorem c__law_cut {G : Glo} (E : En G) : CallP G "_law_cut" 1 k__law_cut := fun_ok E.ok (E.fn 50 (by decide)) fo__law_cut (p__law_cut E)

noncomputable def F__law_inverse_right : FRec := frec 51
noncomputable def vs__law_inverse_right : List Str := ["a", "f", "p", "told", "other"]
theorem fo__law_inverse_right : FunOk F__law_inverse_right vs__law_inverse_right ["a", "f", "p"] := ⟨by rfl, by rfl, by rfl, by decide +kernel, by decide +kernel, by decide +kernel, fun _ _ _ => len3 fun _ _ _ => rfl⟩
noncomputable def b__law_inverse_right : SemS := (seqC (assignC 3 (froC (callC k_minverse (consC (callC k__law_cut (consC (nameC 0) nilC)) (consC (nameC 1) (consC (nameC 2) nilC)))))) (seqC (iffC (cmpC isNotN (nameC 3) (constC .none)) (seqC (retC (ifC (cmpC eqL (callC k__law_cut (consC (callC k__law_left (consC (callC k__law_times (consC (nameC 0) (consC (iceC (addX (nameC 3) (iceC (listC (consC (constC (.int 0)) nilC))))) (consC (nameC 2) nilC)))) (consC (nameC 1) (consC (nameC 2) nilC)))) nilC)) (iceC (listC (consC (constC (.int 1)) nilC)))) (constC (.int 1)) (negC (constC (.int 1))))) skipC) skipC) (seqC (assignC 4 (froC (callC k_mquotient (consC (nameC 1) (consC (callC k_mgcd (consC (callC k__law_cut (consC (nameC 0) nilC)) (consC (nameC 1) (consC (nameC 2) nilC)))) (consC (nameC 2) nilC)))))) (seqC (iffC (orC (cmpC geI (pureC (lenP 4)) (pureC (lenP 1))) (cmpC eqL (callC k__law_cut (consC (nameC 4) nilC)) (iceC (listC nilC)))) (seqC (retC (negC (constC (.int 1)))) skipC) skipC) (seqC (retC (ifC (cmpC eqL (callC k__law_cut (consC (callC k__law_left (consC (callC k__law_times (consC (nameC 0) (consC (nameC 4) (consC (nameC 2) nilC)))) (consC (nameC 1) (consC (nameC 2) nilC)))) nilC)) (iceC (listC nilC))) (constC (.int 0)) (negC (constC (.int 1))))) skipC)))))
theorem p__law_inverse_right {G : Glo} (E : En G) : SSs G ⟨F__law_inverse_right.scope, vs__law_inverse_right.zipIdx, 5, vs__law_inverse_right.length⟩ F__law_inverse_right.body b__law_inverse_right := (SSs.cons (SS.assign (SX.ofE (SE.callP E.ok (c_minverse E) (by decide) (by rfl) (by rfl) (SL.cons (SE.callP E.ok (c__law_cut E) (by decide) (by rfl) (by rfl) (SL.cons (SE.name (by rfl) (by rfl)) SL.nil)) (SL.cons (SE.name (by rfl) (by rfl)) (SL.cons (SE.name (by rfl) (by rfl)) SL.nil))))) (by rfl)) (SSs.cons (SS.if (ST.cmp isNotN_ok (SE.name (by rfl) (by rfl)) SE.none) (SSs.cons (SS.ret (SE.ifExp (ST.cmp eqL_ok (SE.callP E.ok (c__law_cut E) (by decide) (by rfl) (by rfl) (SL.cons (SE.callP E.ok (c__law_left E) (by decide) (by rfl) (by rfl) (SL.cons (SE.callP E.ok (c__law_times E) (by decide) (by rfl) (by rfl) (SL.cons (SE.name (by rfl) (by rfl)) (SL.cons (SE.ofX (SX.add (SE.name (by rfl) (by rfl)) (SE.ofX (SX.list (SL.cons SE.int SL.nil))))) (SL.cons (SE.name (by rfl) (by rfl)) SL.nil)))) (SL.cons (SE.name (by rfl) (by rfl)) (SL.cons (SE.name (by rfl) (by rfl)) SL.nil)))) SL.nil)) (SE.ofX (SX.list (SL.cons SE.int SL.nil)))) SE.int (SE.neg SE.int))) SSs.nil) SSs.nil) (SSs.cons (SS.assign (SX.ofE (SE.callP E.ok (c_mquotient E) (by decide) (by rfl) (by rfl) (SL.cons (SE.name (by rfl) (by rfl)) (SL.cons (SE.callP E.ok (c_mgcd E) (by decide) (by rfl) (by rfl) (SL.cons (SE.callP E.ok (c__law_cut E) (by decide) (by rfl) (by rfl) (SL.cons (SE.name (by rfl) (by rfl)) SL.nil)) (SL.cons (SE.name (by rfl) (by rfl)) (SL.cons (SE.name (by rfl) (by rfl)) SL.nil)))) (SL.cons (SE.name (by rfl) (by rfl)) SL.nil))))) (by rfl)) (SSs.cons (SS.if (ST.or (ST.cmp geI_ok (SE.ofP (SP.len E.ok E.len (by rfl) (by rfl) (by rfl) (by rfl))) (SE.ofP (SP.len E.ok E.len (by rfl) (by rfl) (by rfl) (by rfl)))) (ST.cmp eqL_ok (SE.callP E.ok (c__law_cut E) (by decide) (by rfl) (by rfl) (SL.cons (SE.name (by rfl) (by rfl)) SL.nil)) (SE.ofX (SX.list SL.nil)))) (SSs.cons (SS.ret (SE.neg SE.int)) SSs.nil) SSs.nil) (SSs.cons (SS.ret (SE.ifExp (ST.cmp eqL_ok (SE.callP E.ok (c__law_cut E) (by decide) (by rfl) (by rfl) (SL.cons (SE.callP E.ok (c__law_left E) (by decide) (by rfl) (by rfl) (SL.cons (SE.callP E.ok (c__law_times E) (by decide) (by rfl) (by rfl) (SL.cons (SE.name (by rfl) (by rfl)) (SL.cons (SE.name (by rfl) (by rfl)) (SL.cons (SE.name (by rfl) (by rfl)) SL.nil)))) (SL.cons (SE.name (by rfl) (by rfl)) (SL.cons (SE.name (by rfl) (by rfl)) SL.nil)))) SL.nil)) (SE.ofX (SX.list SL.nil))) SE.int (SE.neg SE.int))) SSs.nil)))))
noncomputable def k__law_inverse_right : List T → Option T := funC 3 2 b__law_inverse_right
theorem c__law_inverse_right {G : Glo} (E : En G) : CallP G "_law_inverse_right" 6 k__law_inverse_right := fun_ok E.ok (E.fn 51 (by decide)) fo__law_inverse_right (p__law_inverse_right E)
end Mine

namespace Mine
open PySem PySem.W PyProof.Rows PySem.Calls
noncomputable def ofI (l : List Int) : T := .list (l.map T.int)
theorem intsOf_map : ∀ l : List Int, intsOf (l.map T.int) = some l
  | [] => rfl
  | x :: l => by simp [intsOf, intsOf_map l]
theorem intsOf_eq : ∀ {ts : List T} {l : List Int}, intsOf ts = some l → ts = l.map T.int
  | [], l, h => by cases h; rfl
  | .int i :: ts, l, h => by
    unfold intsOf at h
    split at h
    · rename_i is e; cases h; rw [intsOf_eq e]; rfl
    · cases h
  | .none :: _, l, h => by unfold intsOf at h; cases h
  | .bool _ :: _, l, h => by unfold intsOf at h; cases h
  | .list _ :: _, l, h => by unfold intsOf at h; cases h
  | .tup _ :: _, l, h => by unfold intsOf at h; cases h

/-! plain lists of ints -/
noncomputable def trimS : List Int → List Int
  | [] => []
  | x :: xs => match trimS xs with
    | [] => if x == 0 then [] else [x]
    | y :: ys => x :: y :: ys
noncomputable def addMul (p one : Int) : List Int → List Int → List Int
  | [], F => F
  | y :: b, v :: F => (v + one * y).fmod p :: addMul p one b F
  | _ :: _, [] => []
noncomputable def subMul (p one : Int) : List Int → List Int → List Int
  | [], F => F
  | y :: b, v :: F => (v - one * y).fmod p :: subMul p one b F
  | _ :: _, [] => []
theorem addMul_len (p one : Int) : ∀ b F : List Int, b.length ≤ F.length → (addMul p one b F).length = F.length
  | [], F, _ => rfl
  | y :: b, v :: F, h => by simp [addMul, addMul_len p one b F (by simpa using h)]
  | _ :: _, [], h => by simp at h
theorem subMul_len (p one : Int) : ∀ b F : List Int, b.length ≤ F.length → (subMul p one b F).length = F.length
  | [], F, _ => rfl
  | y :: b, v :: F, h => by simp [subMul, subMul_len p one b F (by simpa using h)]
  | _ :: _, [], h => by simp at h

theorem trimS_zero : ∀ l : List Int, trimS (l ++ [0]) = trimS l
  | [] => rfl
  | x :: l => by rw [List.cons_append, trimS, trimS_zero l, trimS]
theorem trimS_ne {x : Int} (hx : x ≠ 0) : ∀ l : List Int, trimS (l ++ [x]) = l ++ [x]
  | [] => by simp [trimS, hx]
  | y :: l => by
    rw [List.cons_append, trimS, trimS_ne hx l]
    cases l with
    | nil => rfl
    | cons z l => rfl
theorem trimS_take : ∀ l : List Int, l.take (trimS l).length = trimS l
  | [] => rfl
  | x :: l => by
    have ih := trimS_take l
    unfold trimS
    cases e : trimS l with
    | nil =>
      dsimp only
      split
      · rfl
      · simp
    | cons y ys => rw [e] at ih; simpa using ih
theorem trimS_len (l : List Int) : (trimS l).length ≤ l.length := by
  have := congrArg List.length (trimS_take l)
  rw [List.length_take] at this
  omega

/-! what the places give -/
theorem atT_nat (ts : List T) (n : Nat) (h : n ≤ 1000000) : atT ts (n : Int) = ts[n]? := by
  show atT ts (Int.ofNat n) = _
  simp [atT, h]

theorem CallP.fast {G : Glo} {x : Str} {k : Nat} {f g : List T → Option T} (hc : CallP G x k f) (h : ∀ ts t, g ts = some t → f ts = some t) : CallP G x k g := by
  obtain ⟨fa, o, fd, h1, h2, h3, h4⟩ := hc
  exact ⟨fa, o, fd, h1, h2, h3, fun ts t e => h4 ts t (h ts t e)⟩

/-! one step of each -/
section
variable {σ σ₁ σ₂ σ₃ : List Slot}
theorem e_while {c : SemB} {b : SemS} {n : Nat} (hc : c σ = some (true, σ₁)) (hb : b σ₁ = some (.next, σ₂)) : whileC c b (n + 1) σ = whileC c b n σ₂ := by simp only [whileC, hc, hb]
theorem e_whileF {c : SemB} {b : SemS} {n : Nat} (hc : c σ = some (false, σ₁)) : whileC c b (n + 1) σ = some (.next, σ₁) := by simp only [whileC, hc]
theorem e_and {f g : SemB} (h : f σ = some (true, σ₁)) : andC f g σ = g σ₁ := by simp only [andC, h]
theorem e_andF {f g : SemB} (h : f σ = some (false, σ₁)) : andC f g σ = some (false, σ₁) := by simp only [andC, h]
theorem e_or {f g : SemB} (h : f σ = some (false, σ₁)) : orC f g σ = g σ₁ := by simp only [orC, h]
theorem e_orT {f g : SemB} (h : f σ = some (true, σ₁)) : orC f g σ = some (true, σ₁) := by simp only [orC, h]
theorem e_cmp {g : T → T → Option Bool} {fa fb : Sem1} {ta tb : T} {b : Bool} (h1 : fa σ = some (ta, σ₁)) (h2 : fb σ₁ = some (tb, σ₂)) (h3 : g ta tb = some b) : cmpC g fa fb σ = some (b, σ₂) := by simp only [cmpC, h1, h2, h3]
theorem e_bin {g : T → T → Option T} {fa fb : Sem1} {ta tb t : T} (h1 : fa σ = some (ta, σ₁)) (h2 : fb σ₁ = some (tb, σ₂)) (h3 : g ta tb = some t) : binC g fa fb σ = some (t, σ₂) := by simp only [binC, h1, h2, h3]
theorem e_seq {f g : SemS} (h : f σ = some (.next, σ₁)) : seqC f g σ = g σ₁ := by simp only [seqC, h]
theorem e_seqR {f g : SemS} {t : T} (h : f σ = some (.ret t, σ₁)) : seqC f g σ = some (.ret t, σ₁) := by simp only [seqC, h]
theorem e_asg {f : SemX} {i : Nat} {sl : Slot} (h : f σ = some (sl, σ₁)) : assignC i f σ = some (.next, σ₁.set i sl) := by simp only [assignC, h]
theorem e_fro {f : Sem1} {t : T} (h : f σ = some (t, σ₁)) : froC f σ = some (.fro t, σ₁) := by simp only [froC, h]
theorem e_iceO {f : SemX} {ts : List T} (h : f σ = some (.own ts, σ₁)) : iceC f σ = some (.list ts, σ₁) := by simp only [iceC, h]
theorem e_cons {f : Sem1} {g : SemL} {t : T} {ts : List T} (h1 : f σ = some (t, σ₁)) (h2 : g σ₁ = some (ts, σ₂)) : consC f g σ = some (t :: ts, σ₂) := by simp only [consC, h1, h2]
theorem e_call {f : List T → Option T} {fs : SemL} {ts : List T} {t : T} (h1 : fs σ = some (ts, σ₁)) (h2 : f ts = some t) : callC f fs σ = some (t, σ₁) := by simp only [callC, h1, h2]
theorem e_callX {f : List T → Option (List T)} {fs : SemL} {ts us : List T} (h1 : fs σ = some (ts, σ₁)) (h2 : f ts = some us) : callX f fs σ = some (.own us, σ₁) := by simp only [callX, h1, h2]
theorem e_ret {f : Sem1} {t : T} (h : f σ = some (t, σ₁)) : retC f σ = some (.ret t, σ₁) := by simp only [retC, h]
theorem e_if {c : SemB} {f g : SemS} (h : c σ = some (true, σ₁)) : iffC c f g σ = f σ₁ := by simp only [iffC, h]
theorem e_ifF {c : SemB} {f g : SemS} (h : c σ = some (false, σ₁)) : iffC c f g σ = g σ₁ := by simp only [iffC, h]
theorem e_ifE {c : SemB} {f g : Sem1} (h : c σ = some (true, σ₁)) : ifC c f g σ = f σ₁ := by simp only [ifC, h]
theorem e_ifEF {c : SemB} {f g : Sem1} (h : c σ = some (false, σ₁)) : ifC c f g σ = g σ₁ := by simp only [ifC, h]
theorem e_name {i : Nat} {t : T} (h : σ[i]? = some (.fro t)) : nameC i σ = some (t, σ) := by simp only [nameC, h]
theorem e_nameO {i : Nat} {ts : List T} (h : σ[i]? = some (.own ts)) : nameC i σ = some (.list ts, σ.set i (.fro (.list ts))) := by simp only [nameC, h]
theorem e_nameP {i : Nat} {n : Int} (h : σ[i]? = some (.fro (.int n))) : nameP i σ = some n := by simp only [nameP, h]
theorem e_binP {g : Int → Int → Int} {f h : SemP} {a b : Int} (h1 : f σ = some a) (h2 : h σ = some b) : binP g f h σ = some (g a b) := by simp only [binP, h1, h2]
theorem e_lenP {i : Nat} {a : List Int} (h : σ[i]? = some (.fro (ofI a)) ∨ σ[i]? = some (.own (a.map T.int))) (hl : a.length ≤ 1000000) : lenP i σ = some (a.length : Int) := by
  rcases h with h | h <;> simp [lenP, itemsP, h, ofI, hl]
theorem e_pure {f : SemP} {n : Int} (h : f σ = some n) : pureC f σ = some (.int n, σ) := by simp only [pureC, h]
theorem e_at {i : Nat} {f : SemP} {a : List Int} {n : Nat} {v : Int} (h : σ[i]? = some (.fro (ofI a)) ∨ σ[i]? = some (.own (a.map T.int))) (hf : f σ = some (n : Int)) (hn : n ≤ 1000000) (hv : a[n]? = some v) : atP i f σ = some (.int v, σ) := by
  have e : (a.map T.int)[n]? = some (.int v) := by rw [List.getElem?_map, hv]; rfl
  rcases h with h | h <;> simp only [atP, h, ofI, atK, hf, atT_nat _ _ hn, e]
theorem e_set {i : Nat} {fe : SemP} {fv : Sem1} {a : List Int} {n : Nat} {v : Int} (hv : fv σ = some (.int v, σ₁)) (h : σ₁[i]? = some (.own (a.map T.int))) (hf : fe σ₁ = some (n : Int)) (hl : n < a.length) (hn : n ≤ 1000000) : setC i fe fv σ = some (.next, σ₁.set i (.own ((a.set n v).map T.int))) := by
  have hf' : fe σ₁ = some (Int.ofNat n) := hf
  simp only [setC, hv, h, hf', List.length_map]
  rw [if_pos hl, if_pos hn, List.map_set]
end

theorem e_fun {np extra : Nat} {b : SemS} {t u : T} {ts : List T} {σ : List Slot} (hl : (ts.length + 1 == np) = true) (h : b (.fro t :: (ts.map Slot.fro ++ List.replicate extra .un)) = some (.ret u, σ)) : funC np extra b (t :: ts) = some u := by
  simp only [funC, hl, if_true, h]

/-! mtrim -/
theorem trim_loop (a : List Int) (ha : a.length ≤ 1000) : ∀ (n fuel : Nat), n < fuel → n ≤ a.length →
    whileC (andC (cmpC gtI (nameC 1) (constC (.int 0))) (cmpC eqI (atP 0 (binP (· - ·) (nameP 1) (constP 1))) (constC (.int 0)))) (seqC (assignC 1 (froC (binC subI (nameC 1) (constC (.int 1))))) skipC) fuel [.fro (ofI a), .fro (.int n)] =
      some (.next, [.fro (ofI a), .fro (.int ((trimS (a.take n)).length : Nat))])
  | 0, fuel + 1, _, _ => e_whileF (e_andF (e_cmp (e_name rfl) rfl rfl))
  | n + 1, fuel + 1, h, hn => by
    have hlt : n < a.length := by omega
    have e1 : (((n + 1 : Nat) : Int) - 1) = (n : Int) := by omega
    have hat : atP 0 (binP (· - ·) (nameP 1) (constP 1)) [.fro (ofI a), .fro (.int ((n + 1 : Nat) : Int))] = some (.int a[n], [.fro (ofI a), .fro (.int ((n + 1 : Nat) : Int))]) :=
      e_at (n := n) (.inl rfl) ((e_binP (e_nameP rfl) rfl).trans (congrArg some e1)) (by omega) (List.getElem?_eq_getElem hlt)
    have hg : (cmpC gtI (nameC 1) (constC (.int 0))) [.fro (ofI a), .fro (.int ((n + 1 : Nat) : Int))] = some (true, [.fro (ofI a), .fro (.int ((n + 1 : Nat) : Int))]) :=
      e_cmp (e_name rfl) rfl (by show some (decide _) = _; rw [decide_eq_true (by omega)])
    have htk : a.take (n + 1) = a.take n ++ [a[n]] := by rw [List.take_add_one, List.getElem?_eq_getElem hlt]; rfl
    by_cases h0 : a[n] = 0
    · refine (e_while ((e_and hg).trans (e_cmp hat rfl (b := true) (by show some (_ == _) = _; rw [h0]; rfl))) ((e_seq (e_asg (e_fro (e_bin (e_name rfl) rfl (t := .int n) (by show some (T.int _) = _; rw [e1]))))).trans rfl)).trans ?_
      refine (trim_loop a ha n fuel (by omega) (by omega)).trans ?_
      rw [htk, h0, trimS_zero]
    · refine (e_whileF ((e_and hg).trans (e_cmp hat rfl (b := false) (by show some (_ == _) = _; rw [beq_eq_false_iff_ne.mpr h0])))).trans ?_
      rw [htk, trimS_ne h0, ← htk, List.length_take]
      have : min (n + 1) a.length = n + 1 := by omega
      rw [this]

theorem clip_nat (n m : Nat) (h : m ≤ n) : clipAt n (m : Int) = m := by unfold clipAt; omega

noncomputable def f_mtrim : List T → Option T
  | [.list A] => match intsOf A with
    | some a => if a.length < 1000 then some (ofI (trimS a)) else none
    | none => none
  | _ => none
theorem e_slice {f : Sem1} {hi : SemP} {a : List Int} {m : Nat} {σ σ₁ : List Slot} (h1 : f σ = some (ofI a, σ₁)) (h2 : hi σ₁ = some (m : Int)) (hm : m ≤ a.length) (hl : a.length ≤ 1000000) : sliceC f none (some hi) σ = some (.own ((a.take m).map T.int), σ₁) := by
  simp only [sliceC, h1, ofI, partC, h2, List.length_map]
  rw [if_pos hl]
  simp only [sliceT, List.length_map]
  rw [clip_nat _ _ hm, List.map_take]
theorem e_listF {a : List Int} (h : a.length ≤ 1000000) : listF [ofI a] = some (a.map T.int) := by simp [listF, ofI, h]
theorem k_mtrim_eq (a : List Int) (h : a.length < 1000) : k_mtrim [ofI a] = some (ofI (trimS a)) := by
  have hl := trim_loop a (by omega) a.length 1000 h (Nat.le_refl _)
  have hm := trimS_len a
  have hb : b_mtrim [.fro (ofI a), .un] = some (.ret (ofI (trimS a)), [.fro (ofI a), .fro (.int ((trimS (a.take a.length)).length : Nat))]) := by
    refine (e_seq (e_asg (e_fro (e_pure (e_lenP (.inl rfl) (by omega)))))).trans ?_
    refine (e_seq hl).trans ?_
    refine e_seqR (e_ret ?_)
    refine (e_iceO (e_callX (e_cons (e_iceO (e_slice (e_name rfl) (e_nameP rfl) (by rw [List.take_length]; exact hm) (by omega))) rfl) (e_listF ?_))).trans ?_
    · rw [List.length_take]; omega
    · rw [List.take_length, trimS_take]; rfl
  exact e_fun rfl hb
theorem q_mtrim : ∀ ts t, f_mtrim ts = some t → k_mtrim ts = some t := by
  intro ts t h
  unfold f_mtrim at h
  split at h
  · split at h
    · rename_i a e
      split at h
      · cases h
        rw [intsOf_eq e]
        exact k_mtrim_eq a (by assumption)
      · cases h
    · cases h
  · cases h
end Mine

namespace Mine
open PySem PySem.W PyProof.Rows PySem.Calls
theorem e_forP {i j : Nat} {f : SemLP} {b : SemS} {σ σ₁ : List Slot} {ts : List (T × T)} (h : f σ = some (ts, σ₁)) : forPS i j f b σ = forPC i j b ts σ₁ := by simp only [forPS, h]
theorem e_forPC {i j : Nat} {b : SemS} {t u : T} {ts : List (T × T)} {σ σ₁ : List Slot} (h : b ((σ.set i (.fro t)).set j (.fro u)) = some (.next, σ₁)) : forPC i j b ((t, u) :: ts) σ = forPC i j b ts σ₁ := by simp only [forPC, h]
theorem e_enum {fs : SemL} {ts : List T} {σ σ₁ : List Slot} (h : fs σ = some ([.list ts], σ₁)) : enumIt fs σ = some (enumT 0 ts, σ₁) := by simp only [enumIt, h]
theorem e_mod {a p : Int} (h : p ≠ 0) : modI (.int a) (.int p) = some (.int (a.fmod p)) := by simp [modI, h]
theorem e_mul {a b : Int} (h : a.natAbs < 1000000000000000000) : mulI (.int a) (.int b) = some (.int (a * b)) := by simp only [mulI]; rw [if_pos h]
theorem e_rep {fb : Sem1} {n : Nat} {σ σ₁ : List Slot} (h : fb σ = some (.int (n : Int), σ₁)) (hn : n ≤ 1000000) : repX (constC (.int 0)) fb σ = some (.own ((List.replicate n (0 : Int)).map T.int), σ₁) := by
  have h' : fb σ = some (.int (Int.ofNat n), σ₁) := h
  simp only [repX, constC, h']
  rw [if_pos hn, List.map_replicate]

noncomputable def tb : SemS := (seqC (setC 3 (binP (· + ·) (nameP 4) (nameP 6)) (binC modI (binC addI (atP 3 (binP (· + ·) (nameP 4) (nameP 6))) (binC mulI (nameC 5) (nameC 7))) (nameC 2))) skipC)

theorem times_in {p one : Int} (hp : p ≠ 0) (ho : one.natAbs < 1000000000000000000) (s0 s1 : Slot) (at' : Nat) : ∀ (b : List Int) (spot : Nat) (pre rest : List Int) (s6 s7 : Slot), pre.length = at' + spot → b.length ≤ rest.length → at' + spot + b.length ≤ 1000 →
    ∃ s6' s7', forPC 6 7 tb (enumT spot (b.map T.int)) [s0, s1, .fro (.int p), .own ((pre ++ rest).map T.int), .fro (.int at'), .fro (.int one), s6, s7] = some (.next, [s0, s1, .fro (.int p), .own ((pre ++ addMul p one b rest).map T.int), .fro (.int at'), .fro (.int one), s6', s7'])
  | [], spot, pre, rest, s6, s7, _, _, _ => ⟨s6, s7, rfl⟩
  | y :: b, spot, pre, [], s6, s7, _, h, _ => by simp at h
  | y :: b, spot, pre, v :: rest, s6, s7, hpre, hlen, hle => by
    have hle' : at' + (spot + 1) + b.length ≤ 1000 := by simp at hle; omega
    obtain ⟨s6', s7', ih⟩ := times_in hp ho s0 s1 at' b (spot + 1) (pre ++ [(v + one * y).fmod p]) rest (.fro (.int spot)) (.fro (.int y)) (by simp [hpre]; omega) (by simpa using hlen) hle'
    refine ⟨s6', s7', ?_⟩
    have e1 : pre ++ [(v + one * y).fmod p] ++ rest = pre ++ (v + one * y).fmod p :: rest := by simp
    have e2 : pre ++ [(v + one * y).fmod p] ++ addMul p one b rest = pre ++ addMul p one (y :: b) (v :: rest) := by simp [addMul]
    rw [e1, e2] at ih
    have hn : pre.length ≤ 1000 := by omega
    have idx : binP (· + ·) (nameP 4) (nameP 6) [s0, s1, .fro (.int p), .own ((pre ++ v :: rest).map T.int), .fro (.int at'), .fro (.int one), .fro (.int spot), .fro (.int y)] = some (pre.length : Int) :=
      (e_binP (e_nameP rfl) (e_nameP rfl)).trans (congrArg some (by show (at' : Int) + (spot : Int) = _; omega))
    have hv : (pre ++ v :: rest)[pre.length]? = some v := by simp
    have hs : (pre ++ v :: rest).set pre.length ((v + one * y).fmod p) = pre ++ (v + one * y).fmod p :: rest := by simp
    show forPC 6 7 tb ((.int spot, .int y) :: enumT ((spot : Int) + 1) (b.map T.int)) _ = _
    refine (e_forPC (σ₁ := [s0, s1, .fro (.int p), .own ((pre ++ (v + one * y).fmod p :: rest).map T.int), .fro (.int at'), .fro (.int one), .fro (.int spot), .fro (.int y)]) ?_).trans ?_
    · refine (e_seq (e_set (e_bin (e_bin (e_at (.inr rfl) idx (by omega) hv) (e_bin (e_name rfl) (e_name rfl) (e_mul ho)) rfl) (e_name rfl) (e_mod hp)) rfl idx (by simp) (by omega))).trans ?_
      rw [hs]; rfl
    · exact ih

noncomputable def foldS (g : Int → List Int → List Int) : List Int → List Int → List Int
  | [], F => F
  | x :: a, F => match g x F with
    | v :: F' => v :: foldS g a F'
    | [] => []
theorem foldS_len {g : Int → List Int → List Int} {m : Nat} (hg : ∀ x F, m ≤ F.length → (g x F).length = F.length) (hm : 1 ≤ m) : ∀ a F : List Int, a.length + m ≤ F.length + 1 → (foldS g a F).length = F.length
  | [], F, _ => rfl
  | x :: a, F, h => by
    have h1 : m ≤ F.length := by simp at h; omega
    have h2 := hg x F h1
    unfold foldS
    cases e : g x F with
    | nil => rw [e] at h2; simp at h2; omega
    | cons v F' =>
      rw [e] at h2
      simp at h2
      dsimp only
      rw [List.length_cons, foldS_len hg hm a F' (by simp at h; omega)]
      omega

theorem out_loop {g : Int → List Int → List Int} {m : Nat} {ob : SemS} {p : Int} (s0 s1 : Slot) (hg : ∀ x F, m ≤ F.length → (g x F).length = F.length) (hm : 1 ≤ m) (ok : Int → Prop)
    (hob : ∀ (x : Int) (at' : Nat) (pre F : List Int) (s6 s7 : Slot), ok x → pre.length = at' → m ≤ F.length → at' + m ≤ 1000 → ∃ s6' s7', ob [s0, s1, .fro (.int p), .own ((pre ++ F).map T.int), .fro (.int at'), .fro (.int x), s6, s7] = some (.next, [s0, s1, .fro (.int p), .own ((pre ++ g x F).map T.int), .fro (.int at'), .fro (.int x), s6', s7'])) :
    ∀ (a : List Int) (at' : Nat) (pre F : List Int) (s4 s5 s6 s7 : Slot), (∀ x ∈ a, ok x) → pre.length = at' → a.length + m ≤ F.length + 1 → at' + a.length + m ≤ 1000 →
      ∃ s4' s5' s6' s7', forPC 4 5 ob (enumT at' (a.map T.int)) [s0, s1, .fro (.int p), .own ((pre ++ F).map T.int), s4, s5, s6, s7] = some (.next, [s0, s1, .fro (.int p), .own ((pre ++ foldS g a F).map T.int), s4', s5', s6', s7'])
  | [], at', pre, F, s4, s5, s6, s7, _, _, _, _ => ⟨s4, s5, s6, s7, rfl⟩
  | x :: a, at', pre, F, s4, s5, s6, s7, hok, hpre, hlen, hle => by
    have h1 : m ≤ F.length := by simp at hlen; omega
    have h2 := hg x F h1
    obtain ⟨s6', s7', hb⟩ := hob x at' pre F s6 s7 (hok x List.mem_cons_self) hpre h1 (by omega)
    cases e : g x F with
    | nil => rw [e] at h2; simp at h2; omega
    | cons v F' =>
      rw [e] at h2 hb
      simp at h2 hlen hle
      obtain ⟨t4, t5, t6, t7, ih⟩ := out_loop s0 s1 hg hm ok hob a (at' + 1) (pre ++ [v]) F' (.fro (.int at')) (.fro (.int x)) s6' s7' (fun y hy => hok y (List.mem_cons_of_mem _ hy)) (by simp [hpre]) (by omega) (by omega)
      refine ⟨t4, t5, t6, t7, ?_⟩
      have e1 : pre ++ [v] ++ F' = pre ++ v :: F' := by simp
      have e2 : pre ++ [v] ++ foldS g a F' = pre ++ foldS g (x :: a) F := by simp [foldS, e]
      rw [e1, e2] at ih
      show forPC 4 5 ob ((.int at', .int x) :: enumT ((at' : Int) + 1) (a.map T.int)) _ = _
      exact (e_forPC hb).trans ih

/-! the law's product -/
noncomputable def timesF (p : Int) (a b : List Int) : List Int := foldS (fun x F => addMul p x b F) a (List.replicate (a.length + b.length - 1) 0)
noncomputable def small (a : List Int) : Bool := a.all fun x => decide (x.natAbs < 1000000000)
theorem small_mem {a : List Int} (h : small a = true) : ∀ x ∈ a, x.natAbs < 1000000000000000000 := fun x hx => by
  have := List.all_eq_true.mp h x hx
  simp at this; omega
noncomputable def f__law_times : List T → Option T
  | [.list A, .list B, .int p] => match intsOf A, intsOf B with
    | some a, some b => if (a.length + b.length ≤ 900 ∧ 1 ≤ b.length ∧ p ≠ 0 ∧ small a = true) then some (ofI (timesF p a b)) else none
    | _, _ => none
  | _ => none
end Mine

namespace Mine
open PySem PySem.W PyProof.Rows PySem.Calls
theorem k__law_times_eq (p : Int) (a b : List Int) (h : a.length + b.length ≤ 900 ∧ 1 ≤ b.length ∧ p ≠ 0 ∧ small a = true) : k__law_times [ofI a, ofI b, .int p] = some (ofI (timesF p a b)) := by
  obtain ⟨h1, h2, h3, h4⟩ := h
  have hob : ∀ (x : Int) (at' : Nat) (pre F : List Int) (s6 s7 : Slot), x.natAbs < 1000000000000000000 → pre.length = at' → b.length ≤ F.length → at' + b.length ≤ 1000 →
      ∃ s6' s7', (seqC (forPS 6 7 (enumIt (consC (nameC 1) nilC)) tb) skipC) [.fro (ofI a), .fro (ofI b), .fro (.int p), .own ((pre ++ F).map T.int), .fro (.int at'), .fro (.int x), s6, s7] = some (.next, [.fro (ofI a), .fro (ofI b), .fro (.int p), .own ((pre ++ addMul p x b F).map T.int), .fro (.int at'), .fro (.int x), s6', s7']) := by
    intro x at' pre F s6 s7 hx hpre hF hle
    obtain ⟨s6', s7', e⟩ := times_in h3 hx (.fro (ofI a)) (.fro (ofI b)) at' b 0 pre F s6 s7 (by omega) hF (by omega)
    exact ⟨s6', s7', (e_seq ((e_forP (e_enum (e_cons (e_name rfl) rfl))).trans e)).trans rfl⟩
  obtain ⟨t4, t5, t6, t7, e⟩ := out_loop (g := fun x F => addMul p x b F) (m := b.length) (p := p) (.fro (ofI a)) (.fro (ofI b)) (fun x F hF => addMul_len p x b F hF) h2 (fun x => x.natAbs < 1000000000000000000) hob a 0 [] (List.replicate (a.length + b.length - 1) 0) .un .un .un .un
    (small_mem h4) rfl (by rw [List.length_replicate]; omega) (by omega)
  have hn : ((a.length : Int) + (b.length : Int) - 1) = ((a.length + b.length - 1 : Nat) : Int) := by omega
  have hb : b__law_times [.fro (ofI a), .fro (ofI b), .fro (.int p), .un, .un, .un, .un, .un] = some (.ret (ofI (timesF p a b)), [.fro (ofI a), .fro (ofI b), .fro (.int p), .fro (ofI (timesF p a b)), t4, t5, t6, t7]) := by
    refine (e_seq (e_asg (e_rep (n := a.length + b.length - 1) (e_bin (e_bin (e_pure (e_lenP (.inl rfl) (by omega))) (e_pure (e_lenP (.inl rfl) (by omega))) rfl) rfl (by show some (T.int _) = _; rw [hn])) (by omega)))).trans ?_
    refine (e_seq ((e_forP (e_enum (e_cons (e_name rfl) rfl))).trans e)).trans ?_
    exact e_seqR (e_ret (e_nameO rfl))
  exact e_fun rfl hb
theorem q__law_times : ∀ ts t, f__law_times ts = some t → k__law_times ts = some t := by
  intro ts t h
  unfold f__law_times at h
  split at h
  · split at h
    · rename_i ea eb
      split at h
      · rename_i hc
        cases h
        rw [intsOf_eq ea, intsOf_eq eb]
        exact k__law_times_eq _ _ _ hc
      · cases h
    · cases h
  · cases h

/-! mmul -/
noncomputable def mulF (p : Int) (a b : List Int) : List Int := if a.isEmpty || b.isEmpty then [] else trimS (foldS (fun x F => if x == 0 then F else addMul p x b F) a (List.replicate (a.length + b.length - 1) 0))
noncomputable def f_mmul : List T → Option T
  | [.list A, .list B, .int p] => match intsOf A, intsOf B with
    | some a, some b => if (a.length + b.length ≤ 900 ∧ p ≠ 0 ∧ small a = true) then some (ofI (mulF p a b)) else none
    | _, _ => none
  | _ => none
theorem k_mmul_eq (p : Int) (a b : List Int) (h : a.length + b.length ≤ 900 ∧ p ≠ 0 ∧ small a = true) : k_mmul [ofI a, ofI b, .int p] = some (ofI (mulF p a b)) := by
  obtain ⟨h1, h3, h4⟩ := h
  have hla : pureC (lenP 0) [.fro (ofI a), .fro (ofI b), .fro (.int p), .un, .un, .un, .un, .un] = some (.int a.length, [.fro (ofI a), .fro (ofI b), .fro (.int p), .un, .un, .un, .un, .un]) := e_pure (e_lenP (.inl rfl) (by omega))
  have hlb : pureC (lenP 1) [.fro (ofI a), .fro (ofI b), .fro (.int p), .un, .un, .un, .un, .un] = some (.int b.length, [.fro (ofI a), .fro (ofI b), .fro (.int p), .un, .un, .un, .un, .un]) := e_pure (e_lenP (.inl rfl) (by omega))
  by_cases ha : a = []
  · subst ha
    have hb : b_mmul [.fro (ofI []), .fro (ofI b), .fro (.int p), .un, .un, .un, .un, .un] = some (.ret (ofI []), [.fro (ofI []), .fro (ofI b), .fro (.int p), .un, .un, .un, .un, .un]) :=
      e_seqR ((e_if (e_orT (e_cmp hla rfl rfl))).trans (e_seqR (e_ret (e_iceO rfl))))
    have : mulF p [] b = [] := rfl
    rw [this]
    exact e_fun rfl hb
  by_cases hbb : b = []
  · subst hbb
    have ha0 : ((a.length : Int) == 0) = false := by
      have : a.length ≠ 0 := fun e => ha (List.length_eq_zero_iff.mp e)
      rw [beq_eq_false_iff_ne]; omega
    have hb : b_mmul [.fro (ofI a), .fro (ofI []), .fro (.int p), .un, .un, .un, .un, .un] = some (.ret (ofI []), [.fro (ofI a), .fro (ofI []), .fro (.int p), .un, .un, .un, .un, .un]) :=
      e_seqR ((e_if ((e_or (e_cmp hla rfl (b := false) (by show some (_ == _) = _; rw [ha0]))).trans (e_cmp hlb rfl rfl))).trans (e_seqR (e_ret (e_iceO rfl))))
    have : mulF p a [] = [] := by simp [mulF]
    rw [this]
    exact e_fun rfl hb
  have la : 1 ≤ a.length := by have : a.length ≠ 0 := fun e => ha (List.length_eq_zero_iff.mp e); omega
  have lb : 1 ≤ b.length := by have : b.length ≠ 0 := fun e => hbb (List.length_eq_zero_iff.mp e); omega
  have ha0 : ((a.length : Int) == 0) = false := by rw [beq_eq_false_iff_ne]; omega
  have hb0 : ((b.length : Int) == 0) = false := by rw [beq_eq_false_iff_ne]; omega
  have hob : ∀ (x : Int) (at' : Nat) (pre F : List Int) (s6 s7 : Slot), x.natAbs < 1000000000000000000 → pre.length = at' → b.length ≤ F.length → at' + b.length ≤ 1000 →
      ∃ s6' s7', (seqC (iffC (cmpC neI (nameC 5) (constC (.int 0))) (seqC (forPS 6 7 (enumIt (consC (nameC 1) nilC)) tb) skipC) skipC) skipC) [.fro (ofI a), .fro (ofI b), .fro (.int p), .own ((pre ++ F).map T.int), .fro (.int at'), .fro (.int x), s6, s7] = some (.next, [.fro (ofI a), .fro (ofI b), .fro (.int p), .own ((pre ++ (if x == 0 then F else addMul p x b F)).map T.int), .fro (.int at'), .fro (.int x), s6', s7']) := by
    intro x at' pre F s6 s7 hx hpre hF hle
    by_cases h0 : x = 0
    · subst h0
      exact ⟨s6, s7, (e_seq ((e_ifF (e_cmp (e_name rfl) rfl rfl)).trans rfl)).trans rfl⟩
    · obtain ⟨s6', s7', e⟩ := times_in h3 hx (.fro (ofI a)) (.fro (ofI b)) at' b 0 pre F s6 s7 (by omega) hF (by omega)
      have hx0 : (x == 0) = false := beq_eq_false_iff_ne.mpr h0
      rw [hx0]
      exact ⟨s6', s7', (e_seq ((e_if (e_cmp (e_name rfl) rfl (b := true) (by show some (x != 0) = _; rw [bne, hx0]; rfl))).trans ((e_seq ((e_forP (e_enum (e_cons (e_name rfl) rfl))).trans e)).trans rfl))).trans rfl⟩
  obtain ⟨t4, t5, t6, t7, e⟩ := out_loop (g := fun x F => if x == 0 then F else addMul p x b F) (m := b.length) (p := p) (.fro (ofI a)) (.fro (ofI b)) (fun x F hF => by
      by_cases h0 : (x == 0) = true
      · simp only [h0, if_true]
      · simp only [h0]; exact addMul_len p x b F hF) lb (fun x => x.natAbs < 1000000000000000000) hob a 0 [] (List.replicate (a.length + b.length - 1) 0) .un .un .un .un
    (small_mem h4) rfl (by rw [List.length_replicate]; omega) (by omega)
  have hn : ((a.length : Int) + (b.length : Int) - 1) = ((a.length + b.length - 1 : Nat) : Int) := by omega
  have hF : (foldS (fun x F => if x == 0 then F else addMul p x b F) a (List.replicate (a.length + b.length - 1) 0)).length = a.length + b.length - 1 := by
    rw [foldS_len (m := b.length) (fun x F hF => by
      by_cases h0 : (x == 0) = true
      · simp only [h0, if_true]
      · simp only [h0]; exact addMul_len p x b F hF) lb _ _ (by rw [List.length_replicate]; omega), List.length_replicate]
  have hm : mulF p a b = trimS (foldS (fun x F => if x == 0 then F else addMul p x b F) a (List.replicate (a.length + b.length - 1) 0)) := by
    unfold mulF
    rw [if_neg]
    simp [ha, hbb]
  have hb : b_mmul [.fro (ofI a), .fro (ofI b), .fro (.int p), .un, .un, .un, .un, .un] = some (.ret (ofI (mulF p a b)), [.fro (ofI a), .fro (ofI b), .fro (.int p), .fro (ofI (foldS (fun x F => if x == 0 then F else addMul p x b F) a (List.replicate (a.length + b.length - 1) 0))), t4, t5, t6, t7]) := by
    refine (e_seq ((e_ifF ((e_or (e_cmp hla rfl (b := false) (by show some (_ == _) = _; rw [ha0]))).trans (e_cmp hlb rfl (b := false) (by show some (_ == _) = _; rw [hb0])))).trans rfl)).trans ?_
    refine (e_seq (e_asg (e_rep (n := a.length + b.length - 1) (e_bin (e_bin (e_pure (e_lenP (.inl rfl) (by omega))) (e_pure (e_lenP (.inl rfl) (by omega))) rfl) rfl (by show some (T.int _) = _; rw [hn])) (by omega)))).trans ?_
    refine (e_seq ((e_forP (e_enum (e_cons (e_name rfl) rfl))).trans e)).trans ?_
    rw [hm]
    exact e_seqR (e_ret (e_call (e_cons (e_nameO rfl) rfl) (k_mtrim_eq _ (by rw [List.nil_append, hF]; omega))))
  exact e_fun rfl hb
theorem q_mmul : ∀ ts t, f_mmul ts = some t → k_mmul ts = some t := by
  intro ts t h
  unfold f_mmul at h
  split at h
  · split at h
    · rename_i ea eb
      split at h
      · rename_i hc
        cases h
        rw [intsOf_eq ea, intsOf_eq eb]
        exact k_mmul_eq _ _ _ hc
      · cases h
    · cases h
  · cases h
end Mine

namespace Mine
open PySem PySem.W PyProof.Rows PySem.Calls
theorem e_for {i : Nat} {f : SemL} {b : SemS} {σ σ₁ : List Slot} {ts : List T} (h : f σ = some (ts, σ₁)) : forS i f b σ = forC i b ts σ₁ := by simp only [forS, h]
theorem e_forC {i : Nat} {b : SemS} {t : T} {ts : List T} {σ σ₁ : List Slot} (h : b (σ.set i (.fro t)) = some (.next, σ₁)) : forC i b (t :: ts) σ = forC i b ts σ₁ := by simp only [forC, h]
theorem e_range {fs : SemL} {n : Nat} {σ σ₁ : List Slot} (h : fs σ = some ([.int (n : Int)], σ₁)) (hn : n ≤ 1000000) : rangeIt fs σ = some (rangeT 0 1 n, σ₁) := by
  simp only [rangeIt, h]
  rw [if_pos (by omega)]; rfl
theorem e_app {i : Nat} {f : Sem1} {σ σ₁ : List Slot} {us : List T} {ts : List T} {t : T} (h : f σ = some (t, σ₁)) (h0 : σ[i]? = some (.own us)) (h1 : σ₁[i]? = some (.own ts)) (hl : ts.length ≤ 1000000) : appendC i f σ = some (.next, σ₁.set i (.own (ts ++ [t]))) := by
  simp only [appendC, h, h0, h1]; rw [if_pos hl]

/-! sums -/
noncomputable def addR (p : Int) : List Int → List Int
  | [] => []
  | y :: b => (0 + y).fmod p :: addR p b
noncomputable def addS (p : Int) : List Int → List Int → List Int
  | [], b => addR p b
  | x :: a, [] => (x + 0).fmod p :: addS p a []
  | x :: a, y :: b => (x + y).fmod p :: addS p a b
theorem addS_nil (p y : Int) (b : List Int) : addS p [] (y :: b) = (0 + y).fmod p :: addS p [] b := rfl
theorem addS_step (p : Int) : ∀ (k : Nat) (a b : List Int), k < max a.length b.length → addS p (a.drop k) (b.drop k) = (a.getD k 0 + b.getD k 0).fmod p :: addS p (a.drop (k + 1)) (b.drop (k + 1))
  | 0, [], [], h => by simp at h
  | 0, x :: a, [], h => by simp [addS]
  | 0, [], y :: b, h => by simp [addS_nil]
  | 0, x :: a, y :: b, h => by simp [addS]
  | k + 1, [], [], h => by simp at h
  | k + 1, x :: a, [], h => by have := addS_step p k a [] (by simp at h ⊢; omega); simpa using this
  | k + 1, [], y :: b, h => by have := addS_step p k [] b (by simp at h ⊢; omega); simpa using this
  | k + 1, x :: a, y :: b, h => by have := addS_step p k a b (by simp at h ⊢; omega); simpa using this
theorem addR_len (p : Int) : ∀ b : List Int, (addR p b).length = b.length
  | [] => rfl
  | y :: b => by simp [addR, addR_len p b]
theorem addS_len (p : Int) : ∀ a b : List Int, (addS p a b).length = max a.length b.length
  | [], b => by simp [addS, addR_len]
  | x :: a, [] => by simp [addS, addS_len p a []]
  | x :: a, y :: b => by simp [addS, addS_len p a b]

noncomputable def ab : SemS := (seqC (appendC 3 (binC modI (binC addI (ifC (cmpC ltI (nameC 4) (pureC (lenP 0))) (atP 0 (nameP 4)) (constC (.int 0))) (ifC (cmpC ltI (nameC 4) (pureC (lenP 1))) (atP 1 (nameP 4)) (constC (.int 0)))) (nameC 2))) skipC)
theorem pick_eq {a : List Int} {i k : Nat} {σ : List Slot} (h : σ[i]? = some (.fro (ofI a))) (h4 : σ[4]? = some (.fro (.int (k : Int)))) (ha : a.length ≤ 1000) : ifC (cmpC ltI (nameC 4) (pureC (lenP i))) (atP i (nameP 4)) (constC (.int 0)) σ = some (.int (a.getD k 0), σ) := by
  by_cases hk : k < a.length
  · refine (e_ifE (e_cmp (e_name h4) (e_pure (e_lenP (.inl h) (by omega))) (b := true) (by show some (decide _) = _; rw [decide_eq_true (by omega)]))).trans ?_
    refine (e_at (n := k) (.inl h) (e_nameP h4) (by omega) (List.getElem?_eq_getElem hk)).trans ?_
    rw [List.getD_eq_getElem?_getD, List.getElem?_eq_getElem hk]; rfl
  · refine (e_ifEF (e_cmp (e_name h4) (e_pure (e_lenP (.inl h) (by omega))) (b := false) (by show some (decide _) = _; rw [decide_eq_false (by omega)]))).trans ?_
    rw [List.getD_eq_getElem?_getD, List.getElem?_eq_none (by omega)]; rfl
theorem add_loop {p : Int} (hp : p ≠ 0) (a b : List Int) (ha : a.length ≤ 1000) (hb : b.length ≤ 1000) : ∀ (n k : Nat) (F : List Int) (s4 : Slot), k + n = max a.length b.length → F.length = k →
    ∃ s4', forC 4 ab (rangeT k 1 n) [.fro (ofI a), .fro (ofI b), .fro (.int p), .own (F.map T.int), s4] = some (.next, [.fro (ofI a), .fro (ofI b), .fro (.int p), .own ((F ++ addS p (a.drop k) (b.drop k)).map T.int), s4'])
  | 0, k, F, s4, h, hF => by
    refine ⟨s4, ?_⟩
    rw [List.drop_of_length_le (by omega), List.drop_of_length_le (by omega)]
    simp [rangeT, forC, addS, addR]
  | n + 1, k, F, s4, h, hF => by
    obtain ⟨s4', ih⟩ := add_loop hp a b ha hb n (k + 1) (F ++ [(a.getD k 0 + b.getD k 0).fmod p]) (.fro (.int k)) (by omega) (by simp [hF])
    refine ⟨s4', ?_⟩
    have e2 : F ++ [(a.getD k 0 + b.getD k 0).fmod p] ++ addS p (a.drop (k + 1)) (b.drop (k + 1)) = F ++ addS p (a.drop k) (b.drop k) := by rw [addS_step p k a b (by omega)]; simp
    rw [e2] at ih
    show forC 4 ab (.int k :: rangeT ((k : Int) + 1) 1 n) _ = _
    refine (e_forC (σ₁ := [.fro (ofI a), .fro (ofI b), .fro (.int p), .own ((F ++ [(a.getD k 0 + b.getD k 0).fmod p]).map T.int), .fro (.int k)]) ?_).trans ih
    refine (e_seq (e_app (e_bin (e_bin (pick_eq rfl rfl ha) (pick_eq rfl rfl hb) rfl) (e_name rfl) (e_mod hp)) rfl rfl (by rw [List.length_map, hF]; omega))).trans ?_
    rw [List.map_append]; rfl

noncomputable def f_madd : List T → Option T
  | [.list A, .list B, .int p] => match intsOf A, intsOf B with
    | some a, some b => if (a.length ≤ 900 ∧ b.length ≤ 900 ∧ p ≠ 0) then some (ofI (trimS (addS p a b))) else none
    | _, _ => none
  | _ => none
theorem k_madd_eq (p : Int) (a b : List Int) (h : a.length ≤ 900 ∧ b.length ≤ 900 ∧ p ≠ 0) : k_madd [ofI a, ofI b, .int p] = some (ofI (trimS (addS p a b))) := by
  obtain ⟨ha, hb, hp⟩ := h
  obtain ⟨s4', e⟩ := add_loop hp a b (by omega) (by omega) (max a.length b.length) 0 [] .un (by omega) rfl
  have hmx : maxF [.int (a.length : Int), .int (b.length : Int)] = some (.int ((max a.length b.length : Nat) : Int)) := by
    simp only [maxF]
    congr 2
    split <;> omega
  have hr : b_madd [.fro (ofI a), .fro (ofI b), .fro (.int p), .un, .un] = some (.ret (ofI (trimS (addS p a b))), [.fro (ofI a), .fro (ofI b), .fro (.int p), .fro (ofI (addS p a b)), s4']) := by
    refine (e_seq (e_asg (sl := .own []) rfl)).trans ?_
    refine (e_seq ((e_for (e_range (n := max a.length b.length) (e_cons (e_call (e_cons (e_pure (e_lenP (.inl rfl) (by omega))) (e_cons (e_pure (e_lenP (.inl rfl) (by omega))) rfl)) hmx) rfl) (by omega))).trans e)).trans ?_
    exact e_seqR (e_ret (e_call (e_cons (e_nameO rfl) rfl) (k_mtrim_eq _ (by show (addS p a b).length < 1000; rw [addS_len]; omega))))
  exact e_fun rfl hr
theorem q_madd : ∀ ts t, f_madd ts = some t → k_madd ts = some t := by
  intro ts t h
  unfold f_madd at h
  split at h
  · split at h
    · rename_i ea eb
      split at h
      · rename_i hc
        cases h
        rw [intsOf_eq ea, intsOf_eq eb]
        exact k_madd_eq _ _ _ hc
      · cases h
    · cases h
  · cases h

/-! maps -/
theorem comp_map {f : Sem1} {n : Nat} {σ : List Slot} {g : Int → Int} : ∀ (a : List Int) (s : Slot), (∀ x ∈ a, f (σ.set n (.fro (.int x))) = some (.int (g x), σ.set n (.fro (.int x)))) →
    ∃ s', compG f ((a.map T.int).map fun t (σ : List Slot) => σ.set n (.fro t)) (σ.set n s) = some ((a.map g).map T.int, σ.set n s')
  | [], s, _ => ⟨s, rfl⟩
  | x :: a, s, h => by
    obtain ⟨s', ih⟩ := comp_map a (.fro (.int x)) fun y hy => h y (List.mem_cons_of_mem _ hy)
    refine ⟨s', ?_⟩
    simp only [List.map_cons, compG, List.set_set, h x List.mem_cons_self, ih]
theorem e_comp {f : Sem1} {it : SemL} {n : Nat} {σ : List Slot} {g : Int → Int} {a : List Int} {s : Slot} (hit : it σ = some (a.map T.int, σ)) (hσ : σ = σ.set n s) (hl : a.length ≤ 1000000) (h : ∀ x ∈ a, f (σ.set n (.fro (.int x))) = some (.int (g x), σ.set n (.fro (.int x)))) :
    compC n it f σ = some ((a.map g).map T.int, σ.set n .un) := by
  obtain ⟨s', e⟩ := comp_map a s h
  rw [← hσ] at e
  simp only [compC, hit, List.length_map]
  rw [if_pos hl, e]
  simp only [List.set_set]
theorem e_list {f : Sem1} {σ σ₁ : List Slot} {ts : List T} (h : f σ = some (.list ts, σ₁)) : listIt f σ = some (ts, σ₁) := by simp only [listIt, h]

noncomputable def negS (p : Int) (a : List Int) : List Int := a.map fun x => (-x).fmod p
theorem k_mneg_eq (p : Int) (a : List Int) (h : a.length ≤ 900 ∧ p ≠ 0) : k_mneg [ofI a, .int p] = some (ofI (negS p a)) := by
  obtain ⟨ha, hp⟩ := h
  have hr : b_mneg [.fro (ofI a), .fro (.int p), .un] = some (.ret (ofI (negS p a)), [.fro (ofI a), .fro (.int p), .un]) := by
    refine e_seqR (e_ret (e_iceO ?_))
    have := e_comp (f := binC modI (negC (nameC 2)) (nameC 1)) (it := listIt (nameC 0)) (n := 2) (σ := [.fro (ofI a), .fro (.int p), .un]) (g := fun x => (-x).fmod p) (a := a) (s := .un) (e_list (e_name rfl)) rfl (by omega) fun x _ => e_bin (by rfl) (e_name rfl) (e_mod hp)
    simp only [ownC, this]; rfl
  exact e_fun rfl hr
theorem k_msub_eq (p : Int) (a b : List Int) (h : a.length ≤ 900 ∧ b.length ≤ 900 ∧ p ≠ 0) : k_msub [ofI a, ofI b, .int p] = some (ofI (trimS (addS p a (negS p b)))) := by
  obtain ⟨ha, hb, hp⟩ := h
  have hr : b_msub [.fro (ofI a), .fro (ofI b), .fro (.int p)] = some (.ret (ofI (trimS (addS p a (negS p b)))), [.fro (ofI a), .fro (ofI b), .fro (.int p)]) :=
    e_seqR (e_ret (e_call (e_cons (e_name rfl) (e_cons (e_call (e_cons (e_name rfl) (e_cons (e_name rfl) rfl)) (k_mneg_eq p b ⟨hb, hp⟩)) (e_cons (e_name rfl) rfl))) (k_madd_eq p a (negS p b) ⟨ha, by rw [negS, List.length_map]; exact hb, hp⟩)))
  exact e_fun rfl hr
noncomputable def f_msub : List T → Option T
  | [.list A, .list B, .int p] => match intsOf A, intsOf B with
    | some a, some b => if (a.length ≤ 900 ∧ b.length ≤ 900 ∧ p ≠ 0) then some (ofI (trimS (addS p a (negS p b)))) else none
    | _, _ => none
  | _ => none
theorem q_msub : ∀ ts t, f_msub ts = some t → k_msub ts = some t := by
  intro ts t h
  unfold f_msub at h
  split at h
  · split at h
    · rename_i ea eb
      split at h
      · rename_i hc
        cases h
        rw [intsOf_eq ea, intsOf_eq eb]
        exact k_msub_eq _ _ _ hc
      · cases h
    · cases h
  · cases h
noncomputable def scaleS (p n : Int) (a : List Int) : List Int := trimS (a.map fun x => (x * n).fmod p)
theorem k_mscale_eq (p n : Int) (a : List Int) (h : a.length ≤ 900 ∧ p ≠ 0 ∧ small a = true) : k_mscale [ofI a, .int n, .int p] = some (ofI (scaleS p n a)) := by
  obtain ⟨ha, hp, hs⟩ := h
  have hr : b_mscale [.fro (ofI a), .fro (.int n), .fro (.int p), .un] = some (.ret (ofI (scaleS p n a)), [.fro (ofI a), .fro (.int n), .fro (.int p), .un]) := by
    have := e_comp (f := binC modI (binC mulI (nameC 3) (nameC 1)) (nameC 2)) (it := listIt (nameC 0)) (n := 3) (σ := [.fro (ofI a), .fro (.int n), .fro (.int p), .un]) (g := fun x => (x * n).fmod p) (a := a) (s := .un) (e_list (e_name rfl)) rfl (by omega) fun x hx => e_bin (e_bin (e_name rfl) (e_name rfl) (e_mul (small_mem hs x hx))) (e_name rfl) (e_mod hp)
    refine e_seqR (e_ret (e_call (e_cons (e_iceO (ts := (a.map fun x => (x * n).fmod p).map T.int) ?_) rfl) (k_mtrim_eq (a.map fun x => (x * n).fmod p) (by rw [List.length_map]; omega))))
    simp only [ownC, this]; rfl
  exact e_fun rfl hr
end Mine

namespace Mine
open PySem PySem.W PyProof.Rows PySem.Calls
theorem e_atLast {i : Nat} {f : SemP} {a : List Int} {v : Int} {σ : List Slot} (h : σ[i]? = some (.fro (ofI a)) ∨ σ[i]? = some (.own (a.map T.int))) (hf : f σ = some (-1)) (hn : a.length ≤ 1000000) (hv : a[a.length - 1]? = some v) : atP i f σ = some (.int v, σ) := by
  have h1 : 1 ≤ a.length := by
    rcases Nat.eq_zero_or_pos a.length with e | e
    · rw [List.getElem?_eq_none (by omega)] at hv; cases hv
    · exact e
  have e : (a.map T.int)[a.length - 1]? = some (.int v) := by rw [List.getElem?_map, hv]; rfl
  have e2 : atT (a.map T.int) (-1) = some (.int v) := by
    show atT (a.map T.int) (Int.negSucc 0) = _
    simp only [atT, List.length_map, Nat.zero_add]
    rw [if_pos h1, if_pos hn]; exact e
  rcases h with h | h <;> simp only [atP, h, ofI, atK, hf, e2]
theorem e_swap2 {i j : Nat} {f g : SemX} {σ σ₁ σ₂ : List Slot} {a b : Slot} (h1 : f σ = some (a, σ₁)) (h2 : g σ₁ = some (b, σ₂)) : swap2C i j f g σ = some (.next, (σ₂.set j b).set i a) := by simp only [swap2C, h1, h2]
theorem eraseLast {α : Type} (l : List α) : l.eraseIdx (l.length - 1) = l.take (l.length - 1) := by
  rcases Nat.eq_zero_or_pos l.length with e | e
  · have : l = [] := List.length_eq_zero_iff.mp e
    subst this; rfl
  · rw [List.eraseIdx_eq_take_drop_succ, List.drop_of_length_le (by omega), List.append_nil]
theorem e_pop {i : Nat} {a : List Int} {v : Int} {σ : List Slot} (h : σ[i]? = some (.own (a.map T.int))) (hv : a[a.length - 1]? = some v) (hl : a.length ≤ 1000000) : popC i σ = some (.int v, σ.set i (.own ((a.take (a.length - 1)).map T.int))) := by
  have e : (a.map T.int)[a.length - 1]? = some (.int v) := by rw [List.getElem?_map, hv]; rfl
  simp only [popC, h, List.length_map, e]
  rw [if_pos hl]
  have : (a.map T.int).eraseIdx (a.length - 1) = (a.take (a.length - 1)).map T.int := by
    have := eraseLast (a.map T.int)
    rw [List.length_map] at this
    rw [this, List.map_take]
  rw [this]

/-! the rest's inner loop -/
noncomputable def lb : SemS := (seqC (setC 0 (binP (· + ·) (binP (· - ·) (lenP 0) (nameP 3)) (nameP 5)) (binC modI (binC subI (atP 0 (binP (· + ·) (binP (· - ·) (lenP 0) (nameP 3)) (nameP 5))) (binC mulI (nameC 4) (atP 1 (nameP 5)))) (nameC 2))) skipC)
theorem left_in {p last : Int} (hp : p ≠ 0) (ho : last.natAbs < 1000000000000000000) (f : List Int) (hf : f.length ≤ 900) (many : Nat) (start : Nat) : ∀ (n k : Nat) (pre rest : List Int) (s5 : Slot), k + n = many → pre.length = start + k → rest.length = n → start + many ≤ 900 → many ≤ f.length →
    ∃ s5', forC 5 lb (rangeT k 1 n) [.own ((pre ++ rest).map T.int), .fro (ofI f), .fro (.int p), .fro (.int many), .fro (.int last), s5] = some (.next, [.own ((pre ++ subMul p last ((f.take many).drop k) rest).map T.int), .fro (ofI f), .fro (.int p), .fro (.int many), .fro (.int last), s5'])
  | 0, k, pre, rest, s5, h1, h2, h3, _, hm => by
    refine ⟨s5, ?_⟩
    rw [List.drop_of_length_le (by rw [List.length_take]; omega)]
    simp [rangeT, forC, subMul]
  | n + 1, k, pre, [], s5, _, _, h3, _, _ => by simp at h3
  | n + 1, k, pre, v :: rest, s5, h1, h2, h3, h4, hm => by
    have hk : k < f.length := by omega
    obtain ⟨s5', ih⟩ := left_in hp ho f hf many start n (k + 1) (pre ++ [(v - last * f[k]).fmod p]) rest (.fro (.int k)) (by omega) (by simp [h2]; omega) (by simpa using h3) h4 hm
    refine ⟨s5', ?_⟩
    have hd : (f.take many).drop k = f[k] :: (f.take many).drop (k + 1) := by
      rw [List.drop_eq_getElem_cons (by rw [List.length_take]; omega)]
      congr 1
      exact List.getElem_take
    have e2 : pre ++ [(v - last * f[k]).fmod p] ++ subMul p last ((f.take many).drop (k + 1)) rest = pre ++ subMul p last ((f.take many).drop k) (v :: rest) := by rw [hd]; simp [subMul]
    have e1 : pre ++ [(v - last * f[k]).fmod p] ++ rest = pre ++ (v - last * f[k]).fmod p :: rest := by simp
    rw [e1, e2] at ih
    have hlen : (pre ++ v :: rest).length = start + many := by simp at h3 ⊢; omega
    have idx : binP (· + ·) (binP (· - ·) (lenP 0) (nameP 3)) (nameP 5) [.own ((pre ++ v :: rest).map T.int), .fro (ofI f), .fro (.int p), .fro (.int many), .fro (.int last), .fro (.int k)] = some (pre.length : Int) :=
      (e_binP (e_binP (e_lenP (a := pre ++ v :: rest) (.inr rfl) (by omega)) (e_nameP rfl)) (e_nameP rfl)).trans (congrArg some (by show (((pre ++ v :: rest).length : Nat) : Int) - (many : Int) + (k : Int) = _; rw [hlen]; omega))
    have hv : (pre ++ v :: rest)[pre.length]? = some v := by simp
    have hs : (pre ++ v :: rest).set pre.length ((v - last * f[k]).fmod p) = pre ++ (v - last * f[k]).fmod p :: rest := by simp
    show forC 5 lb (.int k :: rangeT ((k : Int) + 1) 1 n) _ = _
    refine (e_forC (σ₁ := [.own ((pre ++ (v - last * f[k]).fmod p :: rest).map T.int), .fro (ofI f), .fro (.int p), .fro (.int many), .fro (.int last), .fro (.int k)]) ?_).trans ih
    refine (e_seq (e_set (e_bin (e_bin (e_at (.inr rfl) idx (by omega) hv) (e_bin (e_name rfl) (e_at (n := k) (.inl rfl) (e_nameP rfl) (by omega) (List.getElem?_eq_getElem hk)) (e_mul ho)) rfl) (e_name rfl) (e_mod hp)) rfl idx (by simp) (by omega))).trans ?_
    rw [hs]; rfl

noncomputable def bound (a : List Int) : Prop := ∀ x ∈ a, x.natAbs < 1000000000
theorem small_bound {a : List Int} (h : small a = true) : bound a := fun x hx => by
  have := List.all_eq_true.mp h x hx
  simpa using this
theorem bound_small {a : List Int} (h : bound a) : small a = true := by
  simp only [small, List.all_eq_true, decide_eq_true_eq]; exact h
theorem fmod_bound {x p : Int} (h0 : 0 < p) (h1 : p ≤ 1000) : (x.fmod p).natAbs < 1000000000 := by
  have h2 := Int.fmod_nonneg_of_pos x h0
  have h3 := Int.fmod_lt_of_pos x h0
  omega
theorem subMul_bound {p one : Int} (h0 : 0 < p) (h1 : p ≤ 1000) : ∀ (b F : List Int), bound F → bound (subMul p one b F)
  | [], F, h => h
  | y :: b, [], h => by simp [subMul]; exact h
  | y :: b, v :: F, h => by
    intro x hx
    simp only [subMul, List.mem_cons] at hx
    rcases hx with rfl | hx
    · exact fmod_bound h0 h1
    · exact subMul_bound h0 h1 b F (fun z hz => h z (List.mem_cons_of_mem _ hz)) x hx
theorem bound_take {a : List Int} {n : Nat} (h : bound a) : bound (a.take n) := fun x hx => h x (List.mem_of_mem_take hx)
theorem bound_drop {a : List Int} {n : Nat} (h : bound a) : bound (a.drop n) := fun x hx => h x (List.mem_of_mem_drop hx)
theorem bound_append {a b : List Int} (h : bound a) (h' : bound b) : bound (a ++ b) := fun x hx => (List.mem_append.mp hx).elim (h x) (h' x)

noncomputable def leftL (p : Int) (f : List Int) (many : Nat) : Nat → List Int → List Int
  | 0, row => row
  | n + 1, row => if many < row.length then
      leftL p f many n ((row.take (row.length - 1)).take (row.length - 1 - many) ++ subMul p (row.getD (row.length - 1) 0) (f.take many) ((row.take (row.length - 1)).drop (row.length - 1 - many)))
    else row
noncomputable def lw : SemS := (seqC (assignC 4 (froC (popC 0))) (seqC (forS 5 (rangeIt (consC (nameC 3) nilC)) lb) skipC))
theorem left_loop {p : Int} (h0 : 0 < p) (h1 : p ≤ 1000) (f : List Int) (hf : f.length ≤ 900) (many : Nat) (hm : many ≤ f.length) : ∀ (n fuel : Nat) (row : List Int) (s4 s5 : Slot), row.length ≤ many + n → n < fuel → row.length ≤ 900 → bound row →
    ∃ s4' s5', whileC (cmpC gtI (pureC (lenP 0)) (nameC 3)) lw fuel [.own (row.map T.int), .fro (ofI f), .fro (.int p), .fro (.int many), s4, s5] = some (.next, [.own ((leftL p f many n row).map T.int), .fro (ofI f), .fro (.int p), .fro (.int many), s4', s5']) ∧ (leftL p f many n row).length ≤ max many row.length
  | n, 0, row, s4, s5, _, hfu, _, _ => absurd hfu (Nat.not_lt_zero _)
  | 0, fuel + 1, row, s4, s5, hle, _, hr, _ => by
    refine ⟨s4, s5, e_whileF (e_cmp (e_pure (e_lenP (a := row) (.inr rfl) (by omega))) (e_name rfl) (b := false) (by show some (decide _) = _; rw [decide_eq_false (by omega)])), ?_⟩
    show row.length ≤ _; omega
  | n + 1, fuel + 1, row, s4, s5, hle, hfu, hr, hb => by
    by_cases hlt : many < row.length
    · have hv : row[row.length - 1]? = some (row.getD (row.length - 1) 0) := by
        rw [List.getD_eq_getElem?_getD, List.getElem?_eq_getElem (by omega)]; rfl
      have hlast : (row.getD (row.length - 1) 0).natAbs < 1000000000000000000 := by
        have := hb (row.getD (row.length - 1) 0) (List.mem_of_getElem? hv)
        omega
      have hr1 : (row.take (row.length - 1)).length = row.length - 1 := by rw [List.length_take]; omega
      have hsplit : (row.take (row.length - 1)).take (row.length - 1 - many) ++ (row.take (row.length - 1)).drop (row.length - 1 - many) = row.take (row.length - 1) := List.take_append_drop _ _
      have hpl : ((row.take (row.length - 1)).take (row.length - 1 - many)).length = row.length - 1 - many := by rw [List.length_take, hr1]; omega
      have hdl : ((row.take (row.length - 1)).drop (row.length - 1 - many)).length = many := by rw [List.length_drop, hr1]; omega
      obtain ⟨t5, e⟩ := left_in (p := p) (by omega) hlast f hf many (row.length - 1 - many) many 0 ((row.take (row.length - 1)).take (row.length - 1 - many)) ((row.take (row.length - 1)).drop (row.length - 1 - many)) s5 (by omega) (by rw [hpl]; omega) hdl (by omega) hm
      rw [hsplit, List.drop_zero] at e
      have hnl : ((row.take (row.length - 1)).take (row.length - 1 - many) ++ subMul p (row.getD (row.length - 1) 0) (f.take many) ((row.take (row.length - 1)).drop (row.length - 1 - many))).length = row.length - 1 := by
        rw [List.length_append, hpl, subMul_len _ _ _ _ (by rw [hdl, List.length_take]; omega), hdl]; omega
      obtain ⟨t4', t5', ih, il⟩ := left_loop h0 h1 f hf many hm n fuel ((row.take (row.length - 1)).take (row.length - 1 - many) ++ subMul p (row.getD (row.length - 1) 0) (f.take many) ((row.take (row.length - 1)).drop (row.length - 1 - many))) (.fro (.int (row.getD (row.length - 1) 0))) t5 (by omega) (by omega) (by omega)
        (bound_append (bound_take (bound_take hb)) (subMul_bound h0 h1 _ _ (bound_drop (bound_take hb))))
      have eL : leftL p f many (n + 1) row = leftL p f many n ((row.take (row.length - 1)).take (row.length - 1 - many) ++ subMul p (row.getD (row.length - 1) 0) (f.take many) ((row.take (row.length - 1)).drop (row.length - 1 - many))) := by
        rw [leftL, if_pos hlt]
      rw [eL]
      refine ⟨t4', t5', ?_, by omega⟩
      refine (e_while (e_cmp (e_pure (e_lenP (a := row) (.inr rfl) (by omega))) (e_name rfl) (b := true) (by show some (decide _) = _; rw [decide_eq_true (by omega)])) ?_).trans ih
      refine (e_seq (e_asg (e_fro (e_pop (a := row) rfl hv (by omega))))).trans ?_
      exact (e_seq ((e_for (e_range (n := many) (e_cons (e_name rfl) rfl) (by omega))).trans e)).trans rfl
    · have eL : leftL p f many (n + 1) row = row := by rw [leftL, if_neg hlt]
      rw [eL]
      refine ⟨s4, s5, e_whileF (e_cmp (e_pure (e_lenP (a := row) (.inr rfl) (by omega))) (e_name rfl) (b := false) (by show some (decide _) = _; rw [decide_eq_false (by omega)])), by omega⟩

noncomputable def leftF (p : Int) (f row : List Int) : List Int :=
  let r := leftL p f (f.length - 1) row.length row
  r ++ List.replicate (f.length - 1 - r.length) 0
theorem e_addX {fa fb : Sem1} {a b : List Int} {σ σ₁ σ₂ : List Slot} (h1 : fa σ = some (ofI a, σ₁)) (h2 : fb σ₁ = some (ofI b, σ₂)) (hl : a.length + b.length ≤ 1000000) : addX fa fb σ = some (.own ((a ++ b).map T.int), σ₂) := by
  simp only [addX, h1, ofI, h2, List.length_map]
  rw [if_pos hl, List.map_append]
theorem e_repInt {fb : Sem1} {n : Int} {σ σ₁ : List Slot} (h : fb σ = some (.int n, σ₁)) (h1 : n ≤ 1000000) (h2 : -1000000 ≤ n) : repX (constC (.int 0)) fb σ = some (.own ((List.replicate n.toNat (0 : Int)).map T.int), σ₁) := by
  cases n with
  | ofNat m =>
    have : (m : Int) ≤ 1000000 := h1
    exact e_rep (n := m) h (by omega)
  | negSucc m =>
    have : Int.negSucc m = -((m : Int) + 1) := Int.negSucc_eq m
    simp only [repX, constC, h]
    rw [if_pos (by omega)]; rfl
theorem k__law_left_eq (p : Int) (row f : List Int) (h : 0 < p ∧ p ≤ 1000 ∧ row.length ≤ 900 ∧ f.length ≤ 900 ∧ 1 ≤ f.length ∧ small row = true) : k__law_left [ofI row, ofI f, .int p] = some (ofI (leftF p f row)) := by
  obtain ⟨h0, h1, hr, hf, hf1, hs⟩ := h
  obtain ⟨t4, t5, e, el⟩ := left_loop h0 h1 f hf (f.length - 1) (by omega) row.length 1000 row .un .un (by omega) (by omega) hr (small_bound hs)
  have hm : ((f.length : Int) - 1) = ((f.length - 1 : Nat) : Int) := by omega
  have hn : (((f.length - 1 : Nat) : Int) - ((leftL p f (f.length - 1) row.length row).length : Int)).toNat = f.length - 1 - (leftL p f (f.length - 1) row.length row).length := by omega
  have hb : b__law_left [.fro (ofI row), .fro (ofI f), .fro (.int p), .un, .un, .un] = some (.ret (ofI (leftF p f row)), [.fro (ofI (leftL p f (f.length - 1) row.length row)), .fro (ofI f), .fro (.int p), .fro (.int ((f.length - 1 : Nat) : Int)), t4, t5]) := by
    refine (e_seq (e_swap2 (e_callX (e_cons (e_name rfl) rfl) (e_listF (by omega))) (e_fro (e_bin (e_pure (e_lenP (.inl rfl) (by omega))) rfl (t := .int ((f.length - 1 : Nat) : Int)) (by show some (T.int _) = _; rw [hm]))))).trans ?_
    refine (e_seq e).trans ?_
    have hrep : repX (constC (.int 0)) (binC subI (nameC 3) (pureC (lenP 0))) [.fro (ofI (leftL p f (f.length - 1) row.length row)), .fro (ofI f), .fro (.int p), .fro (.int ((f.length - 1 : Nat) : Int)), t4, t5] = some (.own ((List.replicate (f.length - 1 - (leftL p f (f.length - 1) row.length row).length) (0 : Int)).map T.int), [.fro (ofI (leftL p f (f.length - 1) row.length row)), .fro (ofI f), .fro (.int p), .fro (.int ((f.length - 1 : Nat) : Int)), t4, t5]) := by
      refine (e_repInt (e_bin (e_name rfl) (e_pure (e_lenP (a := leftL p f (f.length - 1) row.length row) (.inl rfl) (by omega))) rfl) (by omega) (by omega)).trans ?_
      rw [hn]
    have hA := e_addX (fa := nameC 0) (σ := [.own ((leftL p f (f.length - 1) row.length row).map T.int), .fro (ofI f), .fro (.int p), .fro (.int ((f.length - 1 : Nat) : Int)), t4, t5]) (a := leftL p f (f.length - 1) row.length row) (e_nameO rfl) (e_iceO hrep) (by rw [List.length_replicate]; omega)
    exact e_seqR (e_ret (e_iceO hA))
  exact e_fun rfl hb
end Mine

namespace Mine
open PySem PySem.W PyProof.Rows PySem.Calls
/-! inverses -/
noncomputable def invT (r m : Int) : Option Int :=
  if m == 2 then (if r == 1 then some 1 else none)
  else if m == 3 then (if r == 1 then some 1 else if r == 2 then some 2 else none)
  else if m == 5 then (if r == 1 then some 1 else if r == 2 then some 3 else if r == 3 then some 2 else if r == 4 then some 4 else none)
  else none
theorem e_unpack {is : List Nat} {f : Sem1} {ts : List T} {σ σ₁ : List Slot} (h : f σ = some (.tup ts, σ₁)) (hl : (ts.length == is.length) = true) : unpackC is f σ = some (.next, setAll is ts σ₁) := by simp only [unpackC, h, hl, if_true]
theorem inv_core {a m r s t v : Int} (hm : m ≠ 0) (hr : a.fmod m = r) (hx : k_extended [.int r, .int m] = some (.tup [.int 1, .int s, .int t])) (hv : s.fmod m = v) : k_inverse_mod [.int a, .int m] = some (.int v) := by
  have hb : b_inverse_mod [.fro (.int a), .fro (.int m), .un, .un, .un] = some (.ret (.int v), [.fro (.int a), .fro (.int m), .fro (.int 1), .fro (.int s), .fro (.int t)]) := by
    refine (e_seq (e_unpack (e_call (e_cons (e_bin (e_name rfl) (e_name rfl) (e_mod hm)) (e_cons (e_name rfl) rfl)) (by rw [hr]; exact hx)) rfl)).trans ?_
    exact e_seqR (e_ret ((e_ifE (e_cmp (e_name rfl) rfl rfl)).trans (e_bin (e_name rfl) (e_name rfl) ((e_mod hm).trans (by rw [hv])))))
  exact e_fun rfl hb
theorem x21 : k_extended [.int 1, .int 2] = some (.tup [.int 1, .int 1, .int 0]) := by kernel_rfl
theorem x31 : k_extended [.int 1, .int 3] = some (.tup [.int 1, .int 1, .int 0]) := by kernel_rfl
theorem x32 : k_extended [.int 2, .int 3] = some (.tup [.int 1, .int (-1), .int 1]) := by kernel_rfl
theorem x51 : k_extended [.int 1, .int 5] = some (.tup [.int 1, .int 1, .int 0]) := by kernel_rfl
theorem x52 : k_extended [.int 2, .int 5] = some (.tup [.int 1, .int (-2), .int 1]) := by kernel_rfl
theorem x53 : k_extended [.int 3, .int 5] = some (.tup [.int 1, .int 2, .int (-1)]) := by kernel_rfl
theorem x54 : k_extended [.int 4, .int 5] = some (.tup [.int 1, .int (-1), .int 1]) := by kernel_rfl
theorem k_inverse_mod_eq {a m v : Int} (h : invT (a.fmod m) m = some v) : k_inverse_mod [.int a, .int m] = some (.int v) := by
  unfold invT at h
  split at h
  · rename_i hm
    have hm : m = 2 := by simpa using hm
    subst hm
    split at h
    · rename_i hr; cases h; exact inv_core (by decide) (by simpa using hr) x21 (by decide)
    · cases h
  split at h
  · rename_i hm
    have hm : m = 3 := by simpa using hm
    subst hm
    split at h
    · rename_i hr; cases h; exact inv_core (by decide) (by simpa using hr) x31 (by decide)
    split at h
    · rename_i hr; cases h; exact inv_core (by decide) (by simpa using hr) x32 (by decide)
    · cases h
  split at h
  · rename_i hm
    have hm : m = 5 := by simpa using hm
    subst hm
    split at h
    · rename_i hr; cases h; exact inv_core (by decide) (by simpa using hr) x51 (by decide)
    split at h
    · rename_i hr; cases h; exact inv_core (by decide) (by simpa using hr) x52 (by decide)
    split at h
    · rename_i hr; cases h; exact inv_core (by decide) (by simpa using hr) x53 (by decide)
    split at h
    · rename_i hr; cases h; exact inv_core (by decide) (by simpa using hr) x54 (by decide)
    · cases h
  · cases h
theorem invT_pos {r m v : Int} (h : invT r m = some v) : 0 < m ∧ m ≤ 1000 := by
  unfold invT at h
  split at h
  · rename_i hm; have hm : m = 2 := by simpa using hm
    omega
  split at h
  · rename_i hm; have hm : m = 3 := by simpa using hm
    omega
  split at h
  · rename_i hm; have hm : m = 5 := by simpa using hm
    omega
  · cases h
noncomputable def f_inverse_mod : List T → Option T
  | [.int a, .int m] => match invT (a.fmod m) m with
    | some v => some (.int v)
    | none => none
  | _ => none
theorem q_inverse_mod : ∀ ts t, f_inverse_mod ts = some t → k_inverse_mod ts = some t := by
  intro ts t h
  unfold f_inverse_mod at h
  split at h
  · split at h
    · rename_i e; cases h; exact k_inverse_mod_eq e
    · cases h
  · cases h

/-! quotient and rest -/
noncomputable def sb : SemS := (seqC (setC 3 (binP (· + ·) (nameP 6) (nameP 8)) (binC modI (binC subI (atP 3 (binP (· + ·) (nameP 6) (nameP 8))) (binC mulI (nameC 7) (nameC 9))) (nameC 2))) skipC)
theorem sub_in {p one : Int} (hp : p ≠ 0) (ho : one.natAbs < 1000000000000000000) (s0 s1 s4 s5 : Slot) (at' : Nat) : ∀ (b : List Int) (spot : Nat) (pre rest : List Int) (s8 s9 : Slot), pre.length = at' + spot → b.length ≤ rest.length → at' + spot + b.length ≤ 1000 →
    ∃ s8' s9', forPC 8 9 sb (enumT spot (b.map T.int)) [s0, s1, .fro (.int p), .own ((pre ++ rest).map T.int), s4, s5, .fro (.int at'), .fro (.int one), s8, s9] = some (.next, [s0, s1, .fro (.int p), .own ((pre ++ subMul p one b rest).map T.int), s4, s5, .fro (.int at'), .fro (.int one), s8', s9'])
  | [], spot, pre, rest, s6, s7, _, _, _ => ⟨s6, s7, rfl⟩
  | y :: b, spot, pre, [], s6, s7, _, h, _ => by simp at h
  | y :: b, spot, pre, v :: rest, s6, s7, hpre, hlen, hle => by
    have hle' : at' + (spot + 1) + b.length ≤ 1000 := by simp at hle; omega
    obtain ⟨s6', s7', ih⟩ := sub_in hp ho s0 s1 s4 s5 at' b (spot + 1) (pre ++ [(v - one * y).fmod p]) rest (.fro (.int spot)) (.fro (.int y)) (by simp [hpre]; omega) (by simpa using hlen) hle'
    refine ⟨s6', s7', ?_⟩
    have e1 : pre ++ [(v - one * y).fmod p] ++ rest = pre ++ (v - one * y).fmod p :: rest := by simp
    have e2 : pre ++ [(v - one * y).fmod p] ++ subMul p one b rest = pre ++ subMul p one (y :: b) (v :: rest) := by simp [subMul]
    rw [e1, e2] at ih
    have hn : pre.length ≤ 1000 := by omega
    have idx : binP (· + ·) (nameP 6) (nameP 8) [s0, s1, .fro (.int p), .own ((pre ++ v :: rest).map T.int), s4, s5, .fro (.int at'), .fro (.int one), .fro (.int spot), .fro (.int y)] = some (pre.length : Int) :=
      (e_binP (e_nameP rfl) (e_nameP rfl)).trans (congrArg some (by show (at' : Int) + (spot : Int) = _; omega))
    have hv : (pre ++ v :: rest)[pre.length]? = some v := by simp
    have hs : (pre ++ v :: rest).set pre.length ((v - one * y).fmod p) = pre ++ (v - one * y).fmod p :: rest := by simp
    show forPC 8 9 sb ((.int spot, .int y) :: enumT ((spot : Int) + 1) (b.map T.int)) _ = _
    refine (e_forPC (σ₁ := [s0, s1, .fro (.int p), .own ((pre ++ (v - one * y).fmod p :: rest).map T.int), s4, s5, .fro (.int at'), .fro (.int one), .fro (.int spot), .fro (.int y)]) ?_).trans ?_
    · refine (e_seq (e_set (e_bin (e_bin (e_at (.inr rfl) idx (by omega) hv) (e_bin (e_name rfl) (e_name rfl) (e_mul ho)) rfl) (e_name rfl) (e_mod hp)) rfl idx (by simp) (by omega))).trans ?_
      rw [hs]; rfl
    · exact ih

noncomputable def divLoop (p : Int) (b : List Int) (turn : Int) : Nat → List Int → List Int → List Int × List Int
  | 0, rest, q => (q, rest)
  | n + 1, rest, q =>
    divLoop p b turn n (if ((rest.getD (n + b.length - 1) 0 * turn).fmod p) == 0 then rest else rest.take n ++ subMul p ((rest.getD (n + b.length - 1) 0 * turn).fmod p) b (rest.drop n)) (((rest.getD (n + b.length - 1) 0 * turn).fmod p) :: q)
noncomputable def db : SemS := (seqC (assignC 7 (froC (binC modI (binC mulI (atP 3 (binP (· - ·) (binP (· + ·) (nameP 6) (lenP 1)) (constP 1))) (nameC 5)) (nameC 2)))) (seqC (setC 4 (nameP 6) (nameC 7)) (seqC (iffC (cmpC neI (nameC 7) (constC (.int 0))) (seqC (forPS 8 9 (enumIt (consC (nameC 1) nilC)) sb) skipC) skipC) skipC)))
theorem div_loop {p : Int} (h0 : 0 < p) (h1 : p ≤ 1000) (sa : Slot) (b : List Int) (hb : 1 ≤ b.length) (turn : Int) (la : Nat) (hla : la ≤ 900) : ∀ (n : Nat) (rest q : List Int) (s6 s7 s8 s9 : Slot), rest.length = la → (n = 0 ∨ n + b.length ≤ la + 1) → bound rest →
    ∃ s6' s7' s8' s9', forC 6 db (rangeT ((n : Int) - 1) (-1) n) [sa, .fro (ofI b), .fro (.int p), .own (rest.map T.int), .own ((List.replicate n 0 ++ q).map T.int), .fro (.int turn), s6, s7, s8, s9] =
      some (.next, [sa, .fro (ofI b), .fro (.int p), .own ((divLoop p b turn n rest q).2.map T.int), .own ((divLoop p b turn n rest q).1.map T.int), .fro (.int turn), s6', s7', s8', s9']) ∧ (divLoop p b turn n rest q).2.length = la ∧ (divLoop p b turn n rest q).1.length = n + q.length
  | 0, rest, q, s6, s7, s8, s9, h2, h3, _ => ⟨s6, s7, s8, s9, rfl, h2, by simp [divLoop]⟩
  | n + 1, rest, q, s6, s7, s8, s9, h2, h3', hbd => by
    have h3 : n + 1 + b.length ≤ la + 1 := by omega
    have hp : p ≠ 0 := by omega
    have hidx : n + b.length - 1 < rest.length := by omega
    generalize hv : rest.getD (n + b.length - 1) 0 = v
    have hv' : rest[n + b.length - 1]? = some v := by
      rw [← hv, List.getD_eq_getElem?_getD, List.getElem?_eq_getElem hidx]; rfl
    have hvb : v.natAbs < 1000000000000000000 := by
      have := hbd v (List.mem_of_getElem? hv')
      omega
    generalize hnum : (v * turn).fmod p = num
    have hnb : num.natAbs < 1000000000 := hnum ▸ fmod_bound h0 h1
    have e1 : (((n + 1 : Nat) : Int) - 1) = (n : Int) := by omega
    have hrep : List.replicate (n + 1) 0 ++ q = List.replicate n 0 ++ (0 : Int) :: q := by rw [List.replicate_succ', List.append_assoc]; rfl
    -- the first two statements
    have st1 : ∀ tail : SemS, seqC (assignC 7 (froC (binC modI (binC mulI (atP 3 (binP (· - ·) (binP (· + ·) (nameP 6) (lenP 1)) (constP 1))) (nameC 5)) (nameC 2)))) (seqC (setC 4 (nameP 6) (nameC 7)) tail) [sa, .fro (ofI b), .fro (.int p), .own (rest.map T.int), .own ((List.replicate (n + 1) 0 ++ q).map T.int), .fro (.int turn), .fro (.int n), s7, s8, s9] =
        tail [sa, .fro (ofI b), .fro (.int p), .own (rest.map T.int), .own ((List.replicate n 0 ++ num :: q).map T.int), .fro (.int turn), .fro (.int n), .fro (.int num), s8, s9] := by
      intro tail
      have idx : binP (· - ·) (binP (· + ·) (nameP 6) (lenP 1)) (constP 1) [sa, .fro (ofI b), .fro (.int p), .own (rest.map T.int), .own ((List.replicate (n + 1) 0 ++ q).map T.int), .fro (.int turn), .fro (.int n), s7, s8, s9] = some ((n + b.length - 1 : Nat) : Int) :=
        (e_binP (e_binP (e_nameP rfl) (e_lenP (.inl rfl) (by omega))) rfl).trans (congrArg some (by show ((n : Int) + (b.length : Int)) - 1 = _; omega))
      refine (e_seq (e_asg (e_fro (e_bin (e_bin (e_at (.inr rfl) idx (by omega) hv') (e_name rfl) (e_mul hvb)) (e_name rfl) ((e_mod hp).trans (by rw [hnum])))))).trans ?_
      refine (e_seq (e_set (a := List.replicate (n + 1) 0 ++ q) (n := n) (e_name rfl) rfl (e_nameP rfl) (by simp; omega) (by omega))).trans ?_
      have : (List.replicate (n + 1) 0 ++ q).set n num = List.replicate n 0 ++ num :: q := by
        rw [hrep]
        have := List.set_append_right (s := List.replicate n (0 : Int)) (t := (0 : Int) :: q) n num (by rw [List.length_replicate]; exact Nat.le_refl _)
        rw [this, List.length_replicate, Nat.sub_self]; rfl
      rw [this]; rfl
    have eD : divLoop p b turn (n + 1) rest q = divLoop p b turn n (if num == 0 then rest else rest.take n ++ subMul p num b (rest.drop n)) (num :: q) := by
      rw [divLoop, hv, hnum]
    rw [eD]
    show ∃ s6' s7' s8' s9', forC 6 db (.int (((n + 1 : Nat) : Int) - 1) :: rangeT ((((n + 1 : Nat) : Int) - 1) + -1) (-1) n) _ = _ ∧ _
    rw [e1, show ((n : Int) + -1) = (n : Int) - 1 from rfl]
    by_cases hz : num = 0
    · have hz' : (num == 0) = true := by simpa using hz
      rw [hz', if_pos rfl]
      obtain ⟨t6, t7, t8, t9, ih, l1, l2⟩ := div_loop h0 h1 sa b hb turn la hla n rest (num :: q) (.fro (.int n)) (.fro (.int num)) s8 s9 h2 (by omega) hbd
      refine ⟨t6, t7, t8, t9, (e_forC ?_).trans ih, l1, by rw [l2, List.length_cons]; omega⟩
      refine (st1 _).trans ?_
      exact (e_seq ((e_ifF (e_cmp (e_name rfl) rfl (b := false) (by show some (num != 0) = _; rw [bne, hz']; rfl))).trans rfl)).trans rfl
    · have hz' : (num == 0) = false := beq_eq_false_iff_ne.mpr hz
      rw [hz']
      simp only [Bool.false_eq_true, if_false]
      have hlt : (rest.take n).length = n := by rw [List.length_take]; omega
      have hld : b.length ≤ (rest.drop n).length := by rw [List.length_drop]; omega
      obtain ⟨u8, u9, es⟩ := sub_in (p := p) hp (by omega : num.natAbs < 1000000000000000000) sa (.fro (ofI b)) (.own ((List.replicate n 0 ++ num :: q).map T.int)) (.fro (.int turn)) n b 0 (rest.take n) (rest.drop n) s8 s9 (by omega) hld (by omega)
      rw [List.take_append_drop] at es
      obtain ⟨t6, t7, t8, t9, ih, l1, l2⟩ := div_loop h0 h1 sa b hb turn la hla n (rest.take n ++ subMul p num b (rest.drop n)) (num :: q) (.fro (.int n)) (.fro (.int num)) u8 u9 (by rw [List.length_append, hlt, subMul_len _ _ _ _ hld, List.length_drop]; omega) (by omega)
        (bound_append (bound_take hbd) (subMul_bound h0 h1 _ _ (bound_drop hbd)))
      refine ⟨t6, t7, t8, t9, (e_forC ?_).trans ih, l1, by rw [l2, List.length_cons]; omega⟩
      refine (st1 _).trans ?_
      exact (e_seq ((e_if (e_cmp (e_name rfl) rfl (b := true) (by show some (num != 0) = _; rw [bne, hz']; rfl))).trans ((e_seq ((e_forP (e_enum (e_cons (e_name rfl) rfl))).trans es)).trans rfl))).trans rfl

noncomputable def divF (p : Int) (a b : List Int) : Option (List Int × List Int) :=
  if (a.length ≤ 900 ∧ b.length ≤ 900 ∧ small a = true) then (match b.getLast? with
    | some l => (match invT (l.fmod p) p with
      | some turn => match divLoop p b turn (a.length + 1 - b.length) a [] with
        | (q, r) => some (trimS q, trimS (r.take (b.length - 1)))
      | none => none)
    | none => none) else none
theorem e_rangeDown {fs : SemL} {n : Nat} {d : Int} {σ σ₁ : List Slot} (h : fs σ = some ([.int d, .int (-1), .int (-1)], σ₁)) (hd : d.natAbs ≤ 1000) (hn : n = (d + 1).toNat) : rangeIt fs σ = some (rangeT ((n : Int) - 1) (-1) n, σ₁) ∨ (n = 0 ∧ rangeIt fs σ = some ([], σ₁)) := by
  have e : (d - -1 - 1) / (- -1 : Int) = d := by
    rw [show (- -1 : Int) = 1 from rfl, Int.ediv_one]; omega
  have hr : Builtin.Range.rangeSize d (-1) (-1) = if d > -1 then d + 1 else 0 := by
    unfold Builtin.Range.rangeSize
    rw [if_neg (by decide), e]
  have hs : Builtin.Range.small d (-1) (-1) = true := by
    unfold Builtin.Range.small
    rw [hr]
    unfold Builtin.Range.rangeFitsLong
    split
    · simp; omega
    · simp; omega
  have hsz : (Builtin.Range.rangeSize d (-1) (-1)).toNat = n := by
    rw [hr]; split <;> omega
  simp only [rangeIt, h]
  rw [if_neg (by decide), if_pos (by decide), if_pos hs, hsz]
  by_cases h0 : n = 0
  · right; refine ⟨h0, ?_⟩; rw [h0]; rfl
  · left
    have : d = (n : Int) - 1 := by omega
    rw [this]
end Mine

namespace Mine
open PySem PySem.W PyProof.Rows PySem.Calls
theorem e_slice' {f : Sem1} {hi : SemP} {a : List Int} {m : Nat} {σ σ₁ : List Slot} (h1 : f σ = some (ofI a, σ₁)) (h2 : hi σ₁ = some (m : Int)) (hl : a.length ≤ 1000000) : sliceC f none (some hi) σ = some (.own ((a.take m).map T.int), σ₁) := by
  by_cases hm : m ≤ a.length
  · exact e_slice h1 h2 hm hl
  · simp only [sliceC, h1, ofI, partC, h2, List.length_map]
    rw [if_pos hl]
    simp only [sliceT, List.length_map]
    have : clipAt a.length (m : Int) = a.length := by unfold clipAt; omega
    rw [this, List.take_of_length_le (by rw [List.length_map]; exact Nat.le_refl _), List.take_of_length_le (by omega)]
theorem e_tup {f : SemL} {ts : List T} {σ σ₁ : List Slot} (h : f σ = some (ts, σ₁)) (hl : ts.length ≤ 64) : tupC f σ = some (.tup ts, σ₁) := by simp only [tupC, h]; rw [if_pos hl]
theorem getLast_at {b : List Int} {l : Int} (h : b.getLast? = some l) : b[b.length - 1]? = some l := by rw [← h, List.getLast?_eq_getElem?]

theorem k_mdivmod_eq {p : Int} {a b q r : List Int} (h : divF p a b = some (q, r)) : k_mdivmod [ofI a, ofI b, .int p] = some (.tup [ofI q, ofI r]) := by
  unfold divF at h
  split at h
  · rename_i hc
    obtain ⟨ha, hb, hs⟩ := hc
    split at h
    · rename_i l hl
      split at h
      · rename_i turn ht
        obtain ⟨h0, h1⟩ := invT_pos ht
        have hb1 : 1 ≤ b.length := by
          rcases Nat.eq_zero_or_pos b.length with e | e
          · rw [List.length_eq_zero_iff.mp e] at hl; cases hl
          · exact e
        generalize hD : divLoop p b turn (a.length + 1 - b.length) a [] = D at h
        obtain ⟨Q, R⟩ := D
        cases h
        obtain ⟨t6, t7, t8, t9, hloop, lR, lQ⟩ := div_loop h0 h1 (.fro (ofI a)) b hb1 turn a.length ha (a.length + 1 - b.length) a [] .un .un .un .un rfl (by
          by_cases e : b.length ≤ a.length + 1 <;> omega) (small_bound hs)
        · rw [hD] at hloop lR lQ
          dsimp only at hloop lR lQ
          rw [List.append_nil] at hloop
          have hla : pureC (lenP 0) [.fro (ofI a), .fro (ofI b), .fro (.int p), .un, .un, .un, .un, .un, .un, .un] = some (.int a.length, [.fro (ofI a), .fro (ofI b), .fro (.int p), .un, .un, .un, .un, .un, .un, .un]) := e_pure (e_lenP (.inl rfl) (by omega))
          have hmx : maxF [.int 0, .int ((a.length : Int) - (b.length : Int) + 1)] = some (.int ((a.length + 1 - b.length : Nat) : Int)) := by
            simp only [maxF]
            congr 2
            split <;> omega
          have s1 : swap2C 3 4 (callX listF (consC (nameC 0) nilC)) (repX (constC (.int 0)) (callC maxF (consC (constC (.int 0)) (consC (binC addI (binC subI (pureC (lenP 0)) (pureC (lenP 1))) (constC (.int 1))) nilC)))) [.fro (ofI a), .fro (ofI b), .fro (.int p), .un, .un, .un, .un, .un, .un, .un] =
              some (.next, [.fro (ofI a), .fro (ofI b), .fro (.int p), .own (a.map T.int), .own ((List.replicate (a.length + 1 - b.length) (0 : Int)).map T.int), .un, .un, .un, .un, .un]) :=
            (e_swap2 (e_callX (e_cons (e_name rfl) rfl) (e_listF (a := a) (by omega))) (e_rep (n := a.length + 1 - b.length) (e_call (e_cons rfl (e_cons (e_bin (e_bin (e_pure (e_lenP (a := a) (.inl rfl) (by omega))) (e_pure (e_lenP (a := b) (.inl rfl) (by omega))) rfl) rfl rfl) rfl)) hmx) (by omega))).trans rfl
          have s3 : rangeIt (consC (binC subI (pureC (lenP 0)) (pureC (lenP 1))) (consC (negC (constC (.int 1))) (consC (negC (constC (.int 1))) nilC))) [.fro (ofI a), .fro (ofI b), .fro (.int p), .own (a.map T.int), .own ((List.replicate (a.length + 1 - b.length) (0 : Int)).map T.int), .fro (.int turn), .un, .un, .un, .un] =
              some (rangeT (((a.length + 1 - b.length : Nat) : Int) - 1) (-1) (a.length + 1 - b.length), [.fro (ofI a), .fro (ofI b), .fro (.int p), .own (a.map T.int), .own ((List.replicate (a.length + 1 - b.length) (0 : Int)).map T.int), .fro (.int turn), .un, .un, .un, .un]) := by
            have e := e_rangeDown (n := a.length + 1 - b.length) (d := (a.length : Int) - (b.length : Int)) (fs := consC (binC subI (pureC (lenP 0)) (pureC (lenP 1))) (consC (negC (constC (.int 1))) (consC (negC (constC (.int 1))) nilC))) (σ := [.fro (ofI a), .fro (ofI b), .fro (.int p), .own (a.map T.int), .own ((List.replicate (a.length + 1 - b.length) (0 : Int)).map T.int), .fro (.int turn), .un, .un, .un, .un])
              (e_cons (e_bin (e_pure (e_lenP (a := a) (.inl rfl) (by omega))) (e_pure (e_lenP (a := b) (.inl rfl) (by omega))) rfl) rfl) (by omega) (by omega)
            rcases e with e | ⟨e0, e⟩
            · exact e
            · rw [e, e0]; rfl
          have hbo : b_mdivmod [.fro (ofI a), .fro (ofI b), .fro (.int p), .un, .un, .un, .un, .un, .un, .un] = some (.ret (.tup [ofI (trimS Q), ofI (trimS (R.take (b.length - 1)))]), [.fro (ofI a), .fro (ofI b), .fro (.int p), .fro (ofI R), .fro (ofI Q), .fro (.int turn), t6, t7, t8, t9]) := by
            refine (e_seq s1).trans ?_
            refine (e_seq (e_asg (e_fro (e_call (e_cons (e_atLast (.inl rfl) rfl (by omega) (getLast_at hl)) (e_cons (e_name rfl) rfl)) (k_inverse_mod_eq ht))))).trans ?_
            refine (e_seq ((e_for s3).trans hloop)).trans ?_
            have hlast : binP (· - ·) (lenP 1) (constP 1) [.fro (ofI a), .fro (ofI b), .fro (.int p), .fro (ofI R), .fro (ofI Q), .fro (.int turn), t6, t7, t8, t9] = some ((b.length - 1 : Nat) : Int) :=
              (e_binP (e_lenP (.inl rfl) (by omega)) rfl).trans (congrArg some (by show (b.length : Int) - 1 = _; omega))
            have c2 : consC (callC k_mtrim (consC (iceC (sliceC (nameC 3) none (some (binP (· - ·) (lenP 1) (constP 1))))) nilC)) nilC [.fro (ofI a), .fro (ofI b), .fro (.int p), .own (R.map T.int), .fro (ofI Q), .fro (.int turn), t6, t7, t8, t9] = some ([ofI (trimS (R.take (b.length - 1)))], [.fro (ofI a), .fro (ofI b), .fro (.int p), .fro (ofI R), .fro (ofI Q), .fro (.int turn), t6, t7, t8, t9]) :=
              e_cons (e_call (e_cons (e_iceO (e_slice' (a := R) (e_nameO rfl) hlast (by omega))) rfl) (k_mtrim_eq _ (by rw [List.length_take]; omega))) rfl
            exact e_seqR (e_ret (e_tup (e_cons (e_call (e_cons (e_nameO rfl) rfl) (k_mtrim_eq Q (by simp at lQ; omega))) c2) (by simp)))
          exact e_fun rfl hbo
      · cases h
    · cases h
  · cases h
end Mine

namespace Mine
open PySem PySem.W PyProof.Rows PySem.Calls
theorem e_atTup {f : Sem1} {g : SemP} {ts : List T} {t : T} {n : Nat} {σ σ₁ : List Slot} (h1 : f σ = some (.tup ts, σ₁)) (h2 : g σ₁ = some (n : Int)) (h3 : ts[n]? = some t) (hn : n ≤ 1000000) : atC f g σ = some (t, σ₁) := by
  have h2' : g σ₁ = some (Int.ofNat n) := h2
  simp only [atC, h1, h2', h3]
  rw [if_pos hn]
theorem e_atPT {i : Nat} {f : SemP} {ts : List T} {t : T} {n : Nat} {σ : List Slot} (h : σ[i]? = some (.fro (.tup ts))) (h2 : f σ = some (n : Int)) (h3 : ts[n]? = some t) (hn : n ≤ 1000000) : atP i f σ = some (t, σ) := by
  have h2' : f σ = some (Int.ofNat n) := h2
  simp only [atP, h, h2', h3]
  rw [if_pos hn]
theorem e_atLastC {f : Sem1} {g : SemP} {a : List Int} {v : Int} {σ σ₁ : List Slot} (h1 : f σ = some (ofI a, σ₁)) (hf : g σ₁ = some (-1)) (hn : a.length ≤ 1000000) (hv : a[a.length - 1]? = some v) : atC f g σ = some (.int v, σ₁) := by
  have h1' : 1 ≤ a.length := by
    rcases Nat.eq_zero_or_pos a.length with e | e
    · rw [List.getElem?_eq_none (by omega)] at hv; cases hv
    · exact e
  have e : (a.map T.int)[a.length - 1]? = some (.int v) := by rw [List.getElem?_map, hv]; rfl
  have e2 : atT (a.map T.int) (-1) = some (.int v) := by
    show atT (a.map T.int) (Int.negSucc 0) = _
    simp only [atT, List.length_map, Nat.zero_add]
    rw [if_pos h1', if_pos hn]; exact e
  simp only [atC, h1, ofI, atK, hf, e2]

noncomputable def restF (p : Int) (a b : List Int) : Option (List Int) := match divF p a b with
  | some (_, r) => some r
  | none => none
noncomputable def quotF (p : Int) (a b : List Int) : Option (List Int) := match divF p a b with
  | some (q, _) => some q
  | none => none
theorem k_mrest_eq {p : Int} {a b r : List Int} (h : restF p a b = some r) : k_mrest [ofI a, ofI b, .int p] = some (ofI r) := by
  unfold restF at h
  split at h
  · rename_i q r' e
    cases h
    have hb : b_mrest [.fro (ofI a), .fro (ofI b), .fro (.int p)] = some (.ret (ofI r), [.fro (ofI a), .fro (ofI b), .fro (.int p)]) :=
      e_seqR (e_ret (e_atTup (n := 1) (e_call (e_cons (e_name rfl) (e_cons (e_name rfl) (e_cons (e_name rfl) rfl))) (k_mdivmod_eq e)) rfl rfl (by omega)))
    exact e_fun rfl hb
  · cases h
theorem k_mquotient_eq {p : Int} {a b r : List Int} (h : quotF p a b = some r) : k_mquotient [ofI a, ofI b, .int p] = some (ofI r) := by
  unfold quotF at h
  split at h
  · rename_i q r' e
    cases h
    have hb : b_mquotient [.fro (ofI a), .fro (ofI b), .fro (.int p)] = some (.ret (ofI r), [.fro (ofI a), .fro (ofI b), .fro (.int p)]) :=
      e_seqR (e_ret (e_atTup (n := 0) (e_call (e_cons (e_name rfl) (e_cons (e_name rfl) (e_cons (e_name rfl) rfl))) (k_mdivmod_eq e)) rfl rfl (by omega)))
    exact e_fun rfl hb
  · cases h
theorem divF_len {p : Int} {a b q r : List Int} (h : divF p a b = some (q, r)) : a.length ≤ 900 ∧ b.length ≤ 900 ∧ small a = true := by
  unfold divF at h
  split at h
  · rename_i hc; exact hc
  · cases h

/-! the greatest common divisor -/
noncomputable def monicF (p : Int) (a : List Int) : Option (List Int) :=
  if (a.length ≤ 900 ∧ small a = true) then (match a.getLast? with
    | some l => (match invT (l.fmod p) p with
      | some v => some (scaleS p v a)
      | none => none)
    | none => some []) else none
theorem k_mmonic_eq {p : Int} {a g : List Int} (h : monicF p a = some g) : k_mmonic [ofI a, .int p] = some (ofI g) := by
  unfold monicF at h
  split at h
  · rename_i hc
    obtain ⟨ha, hs⟩ := hc
    have hla : pureC (lenP 0) [.fro (ofI a), .fro (.int p)] = some (.int a.length, [.fro (ofI a), .fro (.int p)]) := e_pure (e_lenP (.inl rfl) (by omega))
    split at h
    · rename_i l hl
      split at h
      · rename_i v hv
        cases h
        have hp : p ≠ 0 := by have := invT_pos hv; omega
        have h1 : 1 ≤ a.length := by
          rcases Nat.eq_zero_or_pos a.length with e | e
          · rw [List.length_eq_zero_iff.mp e] at hl; cases hl
          · exact e
        have hb : b_mmonic [.fro (ofI a), .fro (.int p)] = some (.ret (ofI (scaleS p v a)), [.fro (ofI a), .fro (.int p)]) :=
          e_seqR (e_ret ((e_ifE (e_cmp hla rfl (b := true) (by show some (decide _) = _; rw [decide_eq_true (by omega)]))).trans (e_call (e_cons (e_name rfl) (e_cons (e_call (e_cons (e_atLast (.inl rfl) rfl (by omega) (getLast_at hl)) (e_cons (e_name rfl) rfl)) (k_inverse_mod_eq hv)) (e_cons (e_name rfl) rfl))) (k_mscale_eq p v a ⟨ha, hp, hs⟩))))
        exact e_fun rfl hb
      · cases h
    · rename_i hl
      cases h
      have e : a = [] := List.getLast?_eq_none_iff.mp hl
      subst e
      have hb : b_mmonic [.fro (ofI []), .fro (.int p)] = some (.ret (ofI []), [.fro (ofI []), .fro (.int p)]) :=
        e_seqR (e_ret ((e_ifEF (e_cmp hla rfl rfl)).trans (e_iceO rfl)))
      exact e_fun rfl hb
  · cases h
noncomputable def gcdL (p : Int) : Nat → List Int → List Int → Option (List Int)
  | 0, _, _ => none
  | n + 1, a, b => if b.isEmpty then monicF p a else (match restF p a b with
    | some r => gcdL p n b r
    | none => none)
noncomputable def gw : SemS := (seqC (swap2C 0 1 (froC (nameC 1)) (froC (callC k_mrest (consC (nameC 0) (consC (nameC 1) (consC (nameC 2) nilC)))))) skipC)
theorem gcd_loop {p : Int} : ∀ (n fuel : Nat) (a b g : List Int), gcdL p n a b = some g → n ≤ fuel → ∃ a', whileC (cmpC gtI (pureC (lenP 1)) (constC (.int 0))) gw fuel [.fro (ofI a), .fro (ofI b), .fro (.int p)] = some (.next, [.fro (ofI a'), .fro (ofI []), .fro (.int p)]) ∧ monicF p a' = some g
  | 0, fuel, a, b, g, h, _ => by cases h
  | n + 1, 0, a, b, g, _, hf => by omega
  | n + 1, fuel + 1, a, b, g, h, hf => by
    unfold gcdL at h
    split at h
    · rename_i hb
      have e : b = [] := by simpa using hb
      subst e
      exact ⟨a, e_whileF (e_cmp (e_pure (e_lenP (a := []) (.inl rfl) (by simp))) rfl rfl), h⟩
    · rename_i hb
      split at h
      · rename_i r er
        obtain ⟨a', e, hm⟩ := gcd_loop n fuel b r g h (by omega)
        have hl : b.length ≤ 900 := by
          unfold restF at er
          split at er
          · rename_i e; exact (divF_len e).2.1
          · cases er
        have h1 : 1 ≤ b.length := by
          rcases Nat.eq_zero_or_pos b.length with e | e
          · rw [List.length_eq_zero_iff.mp e] at hb; exact absurd rfl hb
          · exact e
        refine ⟨a', (e_while (e_cmp (e_pure (e_lenP (a := b) (.inl rfl) (by omega))) rfl (b := true) (by show some (decide _) = _; rw [decide_eq_true (by omega)])) ?_).trans e, hm⟩
        exact (e_seq (e_swap2 (e_fro (e_name rfl)) (e_fro (e_call (e_cons (e_name rfl) (e_cons (e_name rfl) (e_cons (e_name rfl) rfl))) (k_mrest_eq er))))).trans rfl
      · cases h
theorem k_mgcd_eq {p : Int} {a b g : List Int} (h : gcdL p 100 a b = some g) : k_mgcd [ofI a, ofI b, .int p] = some (ofI g) := by
  obtain ⟨a', e, hm⟩ := gcd_loop 100 1000 a b g h (by omega)
  have hb : b_mgcd [.fro (ofI a), .fro (ofI b), .fro (.int p)] = some (.ret (ofI g), [.fro (ofI a'), .fro (ofI []), .fro (.int p)]) :=
    (e_seq e).trans (e_seqR (e_ret (e_call (e_cons (e_name rfl) (e_cons (e_name rfl) rfl)) (k_mmonic_eq hm))))
  exact e_fun rfl hb

/-! Euclid's road with its factors -/
noncomputable def subF (p : Int) (a b : List Int) : List Int := trimS (addS p a (negS p b))
noncomputable def mulOk (q b : List Int) : Bool := decide (q.length + b.length ≤ 900) && small q
noncomputable def stepF (p : Int) (q a b : List Int) : Option (List Int) :=
  if (mulOk q b && decide (a.length ≤ 900)) = true then (if (mulF p q b).length ≤ 900 then some (subF p a (mulF p q b)) else none) else none
theorem k_step_eq {p : Int} {q a b c : List Int} (hp : p ≠ 0) (h : stepF p q a b = some c) : k_mmul [ofI q, ofI b, .int p] = some (ofI (mulF p q b)) ∧ k_msub [ofI a, ofI (mulF p q b), .int p] = some (ofI c) := by
  unfold stepF at h
  split at h
  · rename_i hc
    split at h
    · rename_i hl
      cases h
      simp only [mulOk, Bool.and_eq_true, decide_eq_true_eq] at hc
      exact ⟨k_mmul_eq p q b ⟨hc.1.1, hp, hc.1.2⟩, k_msub_eq p a (mulF p q b) ⟨hc.2, hl, hp⟩⟩
    · cases h
  · cases h
noncomputable def extL (p : Int) : Nat → List Int → List Int → List Int → List Int → List Int → List Int → Option (List Int × List Int × List Int)
  | 0, _, _, _, _, _, _ => none
  | n + 1, a1, a2, a3, b1, b2, b3 => if b1.isEmpty then some (a1, a2, a3) else (match divF p a1 b1 with
    | some (q, r) => (match stepF p q a2 b2 with
      | some c2 => (match stepF p q a3 b3 with
        | some c3 => extL p n b1 b2 b3 r c2 c3
        | none => none)
      | none => none)
    | none => none)
noncomputable def T3 (a b c : List Int) : T := .tup [ofI a, ofI b, ofI c]
noncomputable def ew : SemS := (seqC (unpackC [5, 6] (callC k_mdivmod (consC (atP 3 (constP 0)) (consC (atP 4 (constP 0)) (consC (nameC 2) nilC))))) (seqC (assignC 7 (froC (tupC (consC (nameC 6) (consC (callC k_msub (consC (atP 3 (constP 1)) (consC (callC k_mmul (consC (nameC 5) (consC (atP 4 (constP 1)) (consC (nameC 2) nilC)))) (consC (nameC 2) nilC)))) (consC (callC k_msub (consC (atP 3 (constP 2)) (consC (callC k_mmul (consC (nameC 5) (consC (atP 4 (constP 2)) (consC (nameC 2) nilC)))) (consC (nameC 2) nilC)))) nilC)))))) (seqC (swap2C 3 4 (froC (nameC 4)) (froC (nameC 7))) skipC)))
theorem e_lenF {a : List Int} (h : a.length ≤ 1000000) : lenF [ofI a] = some (.int a.length) := by simp [lenF, ofI, h]
theorem ext_loop {p : Int} (hp : p ≠ 0) (s0 s1 s8 : Slot) : ∀ (n fuel : Nat) (a1 a2 a3 b1 b2 b3 : List Int) (s5 s6 s7 : Slot) (g : List Int × List Int × List Int), extL p n a1 a2 a3 b1 b2 b3 = some g → n ≤ fuel →
    ∃ s4' s5' s6' s7', whileC (cmpC gtI (callC lenF (consC (atP 4 (constP 0)) nilC)) (constC (.int 0))) ew fuel [s0, s1, .fro (.int p), .fro (T3 a1 a2 a3), .fro (T3 b1 b2 b3), s5, s6, s7, s8] = some (.next, [s0, s1, .fro (.int p), .fro (T3 g.1 g.2.1 g.2.2), s4', s5', s6', s7', s8])
  | 0, fuel, a1, a2, a3, b1, b2, b3, s5, s6, s7, g, h, _ => by cases h
  | n + 1, 0, a1, a2, a3, b1, b2, b3, s5, s6, s7, g, _, hf => by omega
  | n + 1, fuel + 1, a1, a2, a3, b1, b2, b3, s5, s6, s7, g, h, hf => by
    unfold extL at h
    split at h
    · rename_i hb
      have e : b1 = [] := by simpa using hb
      subst e
      cases h
      exact ⟨_, _, _, _, e_whileF (e_cmp (e_call (e_cons (e_atPT (n := 0) rfl rfl rfl (by omega)) rfl) (e_lenF (a := []) (by simp))) rfl rfl)⟩
    · rename_i hb
      split at h
      · rename_i q r er
        split at h
        · rename_i c2 e2
          split at h
          · rename_i c3 e3
            obtain ⟨m2, u2⟩ := k_step_eq hp e2
            obtain ⟨m3, u3⟩ := k_step_eq hp e3
            obtain ⟨t4, t5, t6, t7, e⟩ := ext_loop hp s0 s1 s8 n fuel b1 b2 b3 r c2 c3 (.fro (ofI q)) (.fro (ofI r)) (.fro (T3 r c2 c3)) g h (by omega)
            refine ⟨t4, t5, t6, t7, ?_⟩
            have hl : b1.length ≤ 900 := (divF_len er).2.1
            have h1 : 1 ≤ b1.length := by
              rcases Nat.eq_zero_or_pos b1.length with e | e
              · rw [List.length_eq_zero_iff.mp e] at hb; exact absurd rfl hb
              · exact e
            refine (e_while (e_cmp (e_call (e_cons (e_atPT (n := 0) rfl rfl rfl (by omega)) rfl) (e_lenF (a := b1) (by omega))) rfl (b := true) (by show some (decide _) = _; rw [decide_eq_true (by omega)])) ?_).trans e
            refine (e_seq (e_unpack (e_call (e_cons (e_atPT (n := 0) rfl rfl rfl (by omega)) (e_cons (e_atPT (n := 0) rfl rfl rfl (by omega)) (e_cons (e_name rfl) rfl))) (k_mdivmod_eq er)) rfl)).trans ?_
            refine (e_seq (e_asg (e_fro (e_tup (e_cons (e_name rfl) (e_cons (e_call (e_cons (e_atPT (n := 1) rfl rfl rfl (by omega)) (e_cons (e_call (e_cons (e_name rfl) (e_cons (e_atPT (n := 1) rfl rfl rfl (by omega)) (e_cons (e_name rfl) rfl))) m2) (e_cons (e_name rfl) rfl))) u2) (e_cons (e_call (e_cons (e_atPT (n := 2) rfl rfl rfl (by omega)) (e_cons (e_call (e_cons (e_name rfl) (e_cons (e_atPT (n := 2) rfl rfl rfl (by omega)) (e_cons (e_name rfl) rfl))) m3) (e_cons (e_name rfl) rfl))) u3) rfl))) (by simp))))).trans ?_
            exact (e_seq (e_swap2 (e_fro (e_name rfl)) (e_fro (e_name rfl)))).trans rfl
          · cases h
        · cases h
      · cases h
noncomputable def scaleOk (a : List Int) : Bool := decide (a.length ≤ 900) && small a
noncomputable def extF (p : Int) (a b : List Int) : Option (List Int × List Int × List Int) := match extL p 100 a [1] [] b [] [1] with
  | some (g, s, t) => (match g.getLast? with
    | some l => (match invT (l.fmod p) p with
      | some v => if (scaleOk g && (scaleOk s && scaleOk t)) = true then some (scaleS p v g, scaleS p v s, scaleS p v t) else none
      | none => none)
    | none => none)
  | none => none
theorem scale_ok {p v : Int} {a : List Int} (hp : p ≠ 0) (h : scaleOk a = true) : k_mscale [ofI a, .int v, .int p] = some (ofI (scaleS p v a)) := by
  simp only [scaleOk, Bool.and_eq_true, decide_eq_true_eq] at h
  exact k_mscale_eq p v a ⟨h.1, hp, h.2⟩
theorem k_mextended_eq {p : Int} {a b g s t : List Int} (h : extF p a b = some (g, s, t)) : k_mextended [ofI a, ofI b, .int p] = some (T3 g s t) := by
  unfold extF at h
  split at h
  · rename_i g' s' t' eL
    split at h
    · rename_i l hl
      split at h
      · rename_i v hv
        split at h
        · rename_i hc
          cases h
          simp only [Bool.and_eq_true] at hc
          obtain ⟨c1, c2, c3⟩ := hc
          have hp : p ≠ 0 := by have := invT_pos hv; omega
          have hlen : g'.length ≤ 900 := by simp only [scaleOk, Bool.and_eq_true, decide_eq_true_eq] at c1; exact c1.1
          have h1 : 1 ≤ g'.length := by
            rcases Nat.eq_zero_or_pos g'.length with e | e
            · rw [List.length_eq_zero_iff.mp e] at hl; cases hl
            · exact e
          obtain ⟨t4, t5, t6, t7, e⟩ := ext_loop hp (.fro (ofI a)) (.fro (ofI b)) .un 100 1000 a [1] [] b [] [1] .un .un .un _ eL (by omega)
          have hb : b_mextended [.fro (ofI a), .fro (ofI b), .fro (.int p), .un, .un, .un, .un, .un, .un] = some (.ret (T3 (scaleS p v g') (scaleS p v s') (scaleS p v t')), [.fro (ofI a), .fro (ofI b), .fro (.int p), .fro (T3 g' s' t'), t4, t5, t6, t7, .fro (.int v)]) := by
            refine (e_seq (e_swap2 (e_fro (e_tup (ts := [ofI a, ofI [1], ofI []]) (e_cons (e_name rfl) rfl) (by simp))) (e_fro (e_tup (ts := [ofI b, ofI [], ofI [1]]) (e_cons (e_name rfl) rfl) (by simp))))).trans ?_
            refine (e_seq e).trans ?_
            refine (e_seq ((e_ifF (e_cmp (e_call (e_cons (e_atPT (n := 0) rfl rfl rfl (by omega)) rfl) (e_lenF (a := g') (by omega))) rfl (b := false) (by show some (_ == _) = _; rw [beq_eq_false_iff_ne.mpr (by omega)]))).trans rfl)).trans ?_
            refine (e_seq (e_asg (e_fro (e_call (e_cons (e_atLastC (e_atPT (n := 0) rfl rfl rfl (by omega)) rfl (by omega) (getLast_at hl)) (e_cons (e_name rfl) rfl)) (k_inverse_mod_eq hv))))).trans ?_
            exact e_seqR (e_ret (e_tup (e_cons (e_call (e_cons (e_atPT (n := 0) rfl rfl rfl (by omega)) (e_cons (e_name rfl) (e_cons (e_name rfl) rfl))) (scale_ok hp c1)) (e_cons (e_call (e_cons (e_atPT (n := 1) rfl rfl rfl (by omega)) (e_cons (e_name rfl) (e_cons (e_name rfl) rfl))) (scale_ok hp c2)) (e_cons (e_call (e_cons (e_atPT (n := 2) rfl rfl rfl (by omega)) (e_cons (e_name rfl) (e_cons (e_name rfl) rfl))) (scale_ok hp c3)) rfl))) (by simp)))
          exact e_fun rfl hb
        · cases h
      · cases h
    · cases h
  · cases h
end Mine

namespace Mine
open PySem PySem.W PyProof.Rows PySem.Calls
noncomputable def minvF (p : Int) (a f : List Int) : Option (Option (List Int)) := match restF p a f with
  | some r => (match extF p r f with
    | some (g, s, _) => if eqInts g [1] = true then (match restF p s f with
      | some u => some (some u)
      | none => none) else some none
    | none => none)
  | none => none
noncomputable def optT : Option (List Int) → T
  | some a => ofI a
  | none => .none
theorem e_eqL {a b : List Int} : eqL (ofI a) (ofI b) = some (eqInts a b) := by simp [eqL, ofI, intsOf_map]
theorem e_neL {a b : List Int} : neL (ofI a) (ofI b) = some (!eqInts a b) := by simp [neL, ofI, intsOf_map]
theorem k_minverse_eq {p : Int} {a f : List Int} {u : Option (List Int)} (h : minvF p a f = some u) : k_minverse [ofI a, ofI f, .int p] = some (optT u) := by
  unfold minvF at h
  split at h
  · rename_i r er
    split at h
    · rename_i g s t ex
      have s1 : ∀ tail : SemS, seqC (unpackC [3, 4, 5] (callC k_mextended (consC (callC k_mrest (consC (nameC 0) (consC (nameC 1) (consC (nameC 2) nilC)))) (consC (nameC 1) (consC (nameC 2) nilC))))) tail [.fro (ofI a), .fro (ofI f), .fro (.int p), .un, .un, .un] = tail [.fro (ofI a), .fro (ofI f), .fro (.int p), .fro (ofI g), .fro (ofI s), .fro (ofI t)] := fun tail =>
        (e_seq (e_unpack (e_call (e_cons (e_call (e_cons (e_name rfl) (e_cons (e_name rfl) (e_cons (e_name rfl) rfl))) (k_mrest_eq er)) (e_cons (e_name rfl) (e_cons (e_name rfl) rfl))) (k_mextended_eq ex)) rfl)).trans rfl
      split at h
      · rename_i hg
        split at h
        · rename_i u' eu
          cases h
          have hb : b_minverse [.fro (ofI a), .fro (ofI f), .fro (.int p), .un, .un, .un] = some (.ret (ofI u'), [.fro (ofI a), .fro (ofI f), .fro (.int p), .fro (ofI g), .fro (ofI s), .fro (ofI t)]) :=
            (s1 _).trans (e_seqR (e_ret ((e_ifE (e_cmp (tb := ofI [1]) (e_name rfl) (e_iceO rfl) (e_eqL.trans (by rw [hg])))).trans (e_call (e_cons (e_name rfl) (e_cons (e_name rfl) (e_cons (e_name rfl) rfl))) (k_mrest_eq eu)))))
          exact e_fun rfl hb
        · cases h
      · rename_i hg
        cases h
        have hg' : eqInts g [1] = false := by simpa using hg
        have hb : b_minverse [.fro (ofI a), .fro (ofI f), .fro (.int p), .un, .un, .un] = some (.ret .none, [.fro (ofI a), .fro (ofI f), .fro (.int p), .fro (ofI g), .fro (ofI s), .fro (ofI t)]) :=
          (s1 _).trans (e_seqR (e_ret ((e_ifEF (e_cmp (tb := ofI [1]) (e_name rfl) (e_iceO rfl) (e_eqL.trans (by rw [hg'])))).trans rfl)))
        exact e_fun rfl hb
    · cases h
  · cases h

/-! the law's own words -/
theorem e_sliceM {f : Sem1} {hi : SemP} {a : List Int} {σ σ₁ : List Slot} (h1 : f σ = some (ofI a, σ₁)) (h2 : hi σ₁ = some (-1)) (hl : a.length ≤ 1000000) : sliceC f none (some hi) σ = some (.own ((a.take (a.length - 1)).map T.int), σ₁) := by
  simp only [sliceC, h1, ofI, partC, h2, List.length_map]
  rw [if_pos hl]
  simp only [sliceT, List.length_map]
  have : clipAt a.length (-1) = a.length - 1 := by unfold clipAt; omega
  rw [this, List.map_take]
noncomputable def cw : SemS := (seqC (assignC 0 (sliceC (nameC 0) none (some (negP (constP 1))))) skipC)
theorem cut_loop : ∀ (n fuel : Nat) (a : List Int) (s : Slot), a.length ≤ n → n < fuel → a.length ≤ 900 → (s = .fro (ofI a) ∨ s = .own (a.map T.int)) →
    whileC (andC (cmpC neL (nameC 0) (iceC (listC nilC))) (cmpC eqI (atP 0 (negP (constP 1))) (constC (.int 0)))) cw fuel [s] = some (.next, [.fro (ofI (trimS a))])
  | n, 0, a, s, _, h, _, _ => absurd h (Nat.not_lt_zero _)
  | n, fuel + 1, a, s, hn, hf, hl, hs => by
    have nm : nameC 0 [s] = some (ofI a, [.fro (ofI a)]) := by
      rcases hs with rfl | rfl
      · exact e_name rfl
      · exact (e_nameO rfl).trans rfl
    rcases List.eq_nil_or_concat a with rfl | ⟨l, x, ec⟩
    · exact e_whileF (e_andF (e_cmp (tb := ofI []) nm (e_iceO rfl) (e_neL.trans rfl)))
    · rw [List.concat_eq_append] at ec
      subst ec
      have hne : eqInts (l ++ [x]) [] = false := by cases l <;> rfl
      have c1 : cmpC neL (nameC 0) (iceC (listC nilC)) [s] = some (true, [.fro (ofI (l ++ [x]))]) := e_cmp (tb := ofI []) nm (e_iceO rfl) (e_neL.trans (by rw [hne]; rfl))
      have hv : (l ++ [x])[(l ++ [x]).length - 1]? = some x := by simp
      have c2 : atP 0 (negP (constP 1)) [.fro (ofI (l ++ [x]))] = some (.int x, [.fro (ofI (l ++ [x]))]) := e_atLast (.inl rfl) rfl (by omega) hv
      by_cases hx : x = 0
      · subst hx
        cases n with
        | zero => simp at hn
        | succ n =>
          have ht : (l ++ [(0 : Int)]).take ((l ++ [(0 : Int)]).length - 1) = l := by simp
          refine (e_while ((e_and c1).trans (e_cmp c2 rfl rfl)) ((e_seq (e_asg (e_sliceM (a := l ++ [0]) (e_name rfl) rfl (by omega)))).trans rfl)).trans ?_
          rw [ht, trimS_zero]
          exact cut_loop n fuel l (.own (l.map T.int)) (by simp at hn; omega) (by omega) (by simp at hl; omega) (.inr rfl)
      · rw [trimS_ne hx]
        exact e_whileF ((e_and c1).trans (e_cmp c2 rfl (b := false) (by show some (_ == _) = _; rw [beq_eq_false_iff_ne.mpr hx])))
theorem k__law_cut_eq (a : List Int) (h : a.length ≤ 900) : k__law_cut [ofI a] = some (ofI (trimS a)) := by
  have hb : b__law_cut [.fro (ofI a)] = some (.ret (ofI (trimS a)), [.fro (ofI (trimS a))]) :=
    (e_seq (cut_loop a.length 1000 a (.fro (ofI a)) (Nat.le_refl _) (by omega) h (.inl rfl))).trans (e_seqR (e_ret (e_name rfl)))
  exact e_fun rfl hb

noncomputable def prodF (p : Int) (f a b : List Int) : Option (List Int) :=
  if (a.length + b.length ≤ 900 ∧ 1 ≤ b.length ∧ 0 < p ∧ p ≤ 1000 ∧ small a = true ∧ f.length ≤ 900 ∧ 1 ≤ f.length) then (if ((timesF p a b).length ≤ 900 ∧ small (timesF p a b) = true) then some (leftF p f (timesF p a b)) else none) else none
theorem prod_eq {p : Int} {f a b c : List Int} (h : prodF p f a b = some c) : k__law_times [ofI a, ofI b, .int p] = some (ofI (timesF p a b)) ∧ k__law_left [ofI (timesF p a b), ofI f, .int p] = some (ofI c) := by
  unfold prodF at h
  split at h
  · rename_i hc
    obtain ⟨h1, h2, h3, h4, h5, h6, h7⟩ := hc
    split at h
    · rename_i hd
      cases h
      exact ⟨k__law_times_eq p a b ⟨h1, h2, by omega, h5⟩, k__law_left_eq p (timesF p a b) f ⟨h3, h4, hd.1, h6, h7, hd.2⟩⟩
    · cases h
  · cases h
noncomputable def powL (p : Int) (f a : List Int) : Nat → List Int → Option (List Int)
  | 0, found => some found
  | n + 1, found => match prodF p f found a with
    | some c => powL p f a n c
    | none => none
noncomputable def pw : SemS := (seqC (assignC 4 (froC (callC k__law_left (consC (callC k__law_times (consC (nameC 4) (consC (nameC 0) (consC (nameC 3) nilC)))) (consC (nameC 2) (consC (nameC 3) nilC)))))) skipC)
theorem pow_loop {p : Int} {f a : List Int} (s1 : Slot) : ∀ (n : Nat) (k : Int) (found c : List Int) (s5 : Slot), powL p f a n found = some c →
    ∃ s5', forC 5 pw (rangeT k 1 n) [.fro (ofI a), s1, .fro (ofI f), .fro (.int p), .fro (ofI found), s5] = some (.next, [.fro (ofI a), s1, .fro (ofI f), .fro (.int p), .fro (ofI c), s5'])
  | 0, k, found, c, s5, h => by cases h; exact ⟨s5, rfl⟩
  | n + 1, k, found, c, s5, h => by
    unfold powL at h
    split at h
    · rename_i d ed
      obtain ⟨e1, e2⟩ := prod_eq ed
      obtain ⟨s5', ih⟩ := pow_loop s1 n (k + 1) d c (.fro (.int k)) h
      refine ⟨s5', ?_⟩
      show forC 5 pw (.int k :: rangeT (k + 1) 1 n) _ = _
      refine (e_forC ?_).trans ih
      exact (e_seq (e_asg (e_fro (e_call (e_cons (e_call (e_cons (e_name rfl) (e_cons (e_name rfl) (e_cons (e_name rfl) rfl))) e1) (e_cons (e_name rfl) (e_cons (e_name rfl) rfl))) e2)))).trans rfl
    · cases h
theorem k__law_power_eq {p : Int} {f a c : List Int} {many : Nat} (hm : 1 ≤ many) (hm' : many ≤ 1000) (h : powL p f a (many - 1) a = some c) : k__law_power [ofI a, .int many, ofI f, .int p] = some (ofI c) := by
  obtain ⟨s5', e⟩ := pow_loop (.fro (.int many)) (many - 1) 0 a c .un h
  have hn : ((many : Int) - 1) = ((many - 1 : Nat) : Int) := by omega
  have hb : b__law_power [.fro (ofI a), .fro (.int many), .fro (ofI f), .fro (.int p), .un, .un] = some (.ret (ofI c), [.fro (ofI a), .fro (.int many), .fro (ofI f), .fro (.int p), .fro (ofI c), s5']) := by
    refine (e_seq (e_asg (e_fro (e_name rfl)))).trans ?_
    refine (e_seq ((e_for (e_range (n := many - 1) (e_cons (e_bin (e_name rfl) rfl (t := .int ((many - 1 : Nat) : Int)) (by show some (T.int _) = _; rw [hn])) rfl) (by omega))).trans e)).trans ?_
    exact e_seqR (e_ret (e_name rfl))
  exact e_fun rfl hb

noncomputable def rightF (p : Int) (f a : List Int) : Option Int := if a.length ≤ 900 then (match minvF p (trimS a) f with
  | some (some told) => if told.length ≤ 800 then (match prodF p f a (told ++ [0]) with
    | some c => if c.length ≤ 900 then some (if eqInts (trimS c) [1] = true then 1 else -1) else none
    | none => none) else none
  | some none => (match gcdL p 100 (trimS a) f with
    | some g => (match quotF p f g with
      | some other => if other.length ≤ 900 then (if (decide (f.length ≤ other.length) || eqInts (trimS other) []) = true then some (-1) else (match prodF p f a other with
        | some c => if c.length ≤ 900 then some (if eqInts (trimS c) [] = true then 0 else -1) else none
        | none => none)) else none
      | none => none)
    | none => none)
  | none => none) else none
theorem e_isNot {a : List Int} : isNotN (ofI a) .none = some true := rfl
theorem k__law_inverse_right_eq {p : Int} {f a : List Int} {w : Int} (hf : f.length ≤ 900) (h : rightF p f a = some w) : k__law_inverse_right [ofI a, ofI f, .int p] = some (.int w) := by
  unfold rightF at h
  split at h
  · rename_i ha
    have hcut := k__law_cut_eq a ha
    split at h
    · rename_i told et
      split at h
      · rename_i htl
        split at h
        · rename_i c ec
          split at h
          · rename_i hcl
            cases h
            obtain ⟨e1, e2⟩ := prod_eq ec
            have hcut2 := k__law_cut_eq c hcl
            have st1 : ∀ tail : SemS, seqC (assignC 3 (froC (callC k_minverse (consC (callC k__law_cut (consC (nameC 0) nilC)) (consC (nameC 1) (consC (nameC 2) nilC)))))) tail [.fro (ofI a), .fro (ofI f), .fro (.int p), .un, .un] = tail [.fro (ofI a), .fro (ofI f), .fro (.int p), .fro (ofI told), .un] := fun tail =>
              (e_seq (e_asg (e_fro (e_call (e_cons (e_call (e_cons (e_name rfl) rfl) hcut) (e_cons (e_name rfl) (e_cons (e_name rfl) rfl))) (k_minverse_eq et))))).trans rfl
            have val : callC k__law_cut (consC (callC k__law_left (consC (callC k__law_times (consC (nameC 0) (consC (iceC (addX (nameC 3) (iceC (listC (consC (constC (.int 0)) nilC))))) (consC (nameC 2) nilC)))) (consC (nameC 1) (consC (nameC 2) nilC)))) nilC) [.fro (ofI a), .fro (ofI f), .fro (.int p), .fro (ofI told), .un] = some (ofI (trimS c), [.fro (ofI a), .fro (ofI f), .fro (.int p), .fro (ofI told), .un]) :=
              e_call (e_cons (e_call (e_cons (e_call (e_cons (e_name rfl) (e_cons (e_iceO (e_addX (b := [0]) (e_name rfl) (e_iceO rfl) (by simp; omega))) (e_cons (e_name rfl) rfl))) e1) (e_cons (e_name rfl) (e_cons (e_name rfl) rfl))) e2) rfl) hcut2
            cases hq : eqInts (trimS c) [1] with
            | true =>
              have hb : b__law_inverse_right [.fro (ofI a), .fro (ofI f), .fro (.int p), .un, .un] = some (.ret (.int 1), [.fro (ofI a), .fro (ofI f), .fro (.int p), .fro (ofI told), .un]) :=
                (st1 _).trans (e_seqR ((e_if (e_cmp (e_name rfl) rfl e_isNot)).trans (e_seqR (e_ret ((e_ifE (e_cmp (tb := ofI [1]) val (e_iceO rfl) (e_eqL.trans (by rw [hq])))).trans rfl)))))
              exact e_fun rfl hb
            | false =>
              have hb : b__law_inverse_right [.fro (ofI a), .fro (ofI f), .fro (.int p), .un, .un] = some (.ret (.int (-1)), [.fro (ofI a), .fro (ofI f), .fro (.int p), .fro (ofI told), .un]) :=
                (st1 _).trans (e_seqR ((e_if (e_cmp (e_name rfl) rfl e_isNot)).trans (e_seqR (e_ret ((e_ifEF (e_cmp (tb := ofI [1]) val (e_iceO rfl) (e_eqL.trans (by rw [hq])))).trans rfl)))))
              exact e_fun rfl hb
          · cases h
        · cases h
      · cases h
    · rename_i et
      split at h
      · rename_i g eg
        split at h
        · rename_i other eo
          split at h
          · rename_i hol
            have st1 : ∀ tail : SemS, seqC (assignC 3 (froC (callC k_minverse (consC (callC k__law_cut (consC (nameC 0) nilC)) (consC (nameC 1) (consC (nameC 2) nilC)))))) tail [.fro (ofI a), .fro (ofI f), .fro (.int p), .un, .un] = tail [.fro (ofI a), .fro (ofI f), .fro (.int p), .fro .none, .un] := fun tail =>
              (e_seq (e_asg (e_fro (e_call (e_cons (e_call (e_cons (e_name rfl) rfl) hcut) (e_cons (e_name rfl) (e_cons (e_name rfl) rfl))) (k_minverse_eq et))))).trans rfl
            have st2 : ∀ (A tail : SemS), seqC (iffC (cmpC isNotN (nameC 3) (constC .none)) A skipC) tail [.fro (ofI a), .fro (ofI f), .fro (.int p), .fro .none, .un] = tail [.fro (ofI a), .fro (ofI f), .fro (.int p), .fro .none, .un] := fun A tail =>
              (e_seq ((e_ifF (e_cmp (e_name rfl) rfl rfl)).trans rfl))
            have st3 : ∀ tail : SemS, seqC (assignC 4 (froC (callC k_mquotient (consC (nameC 1) (consC (callC k_mgcd (consC (callC k__law_cut (consC (nameC 0) nilC)) (consC (nameC 1) (consC (nameC 2) nilC)))) (consC (nameC 2) nilC)))))) tail [.fro (ofI a), .fro (ofI f), .fro (.int p), .fro .none, .un] = tail [.fro (ofI a), .fro (ofI f), .fro (.int p), .fro .none, .fro (ofI other)] := fun tail =>
              (e_seq (e_asg (e_fro (e_call (e_cons (e_name rfl) (e_cons (e_call (e_cons (e_call (e_cons (e_name rfl) rfl) hcut) (e_cons (e_name rfl) (e_cons (e_name rfl) rfl))) (k_mgcd_eq eg)) (e_cons (e_name rfl) rfl))) (k_mquotient_eq eo))))).trans rfl
            have hcut3 := k__law_cut_eq other hol
            have hge : geI (.int (other.length : Int)) (.int (f.length : Int)) = some (decide (f.length ≤ other.length)) := by
              show some (decide _) = _
              by_cases hh : f.length ≤ other.length
              · rw [decide_eq_true hh, decide_eq_true (by omega)]
              · rw [decide_eq_false hh, decide_eq_false (by omega)]
            have gev : cmpC geI (pureC (lenP 4)) (pureC (lenP 1)) [.fro (ofI a), .fro (ofI f), .fro (.int p), .fro .none, .fro (ofI other)] = some (decide (f.length ≤ other.length), [.fro (ofI a), .fro (ofI f), .fro (.int p), .fro .none, .fro (ofI other)]) :=
              e_cmp (e_pure (e_lenP (a := other) (.inl rfl) (by omega))) (e_pure (e_lenP (a := f) (.inl rfl) (by omega))) hge
            have eqv : cmpC eqL (callC k__law_cut (consC (nameC 4) nilC)) (iceC (listC nilC)) [.fro (ofI a), .fro (ofI f), .fro (.int p), .fro .none, .fro (ofI other)] = some (eqInts (trimS other) [], [.fro (ofI a), .fro (ofI f), .fro (.int p), .fro .none, .fro (ofI other)]) :=
              e_cmp (tb := ofI []) (e_call (e_cons (e_name rfl) rfl) hcut3) (e_iceO rfl) e_eqL
            have orv : orC (cmpC geI (pureC (lenP 4)) (pureC (lenP 1))) (cmpC eqL (callC k__law_cut (consC (nameC 4) nilC)) (iceC (listC nilC))) [.fro (ofI a), .fro (ofI f), .fro (.int p), .fro .none, .fro (ofI other)] = some (decide (f.length ≤ other.length) || eqInts (trimS other) [], [.fro (ofI a), .fro (ofI f), .fro (.int p), .fro .none, .fro (ofI other)]) := by
              cases hd : decide (f.length ≤ other.length) with
              | true => rw [hd] at gev; exact (e_orT gev).trans rfl
              | false => rw [hd] at gev; exact (e_or gev).trans eqv
            split at h
            · rename_i hor
              cases h
              rw [hor] at orv
              have hb : b__law_inverse_right [.fro (ofI a), .fro (ofI f), .fro (.int p), .un, .un] = some (.ret (.int (-1)), [.fro (ofI a), .fro (ofI f), .fro (.int p), .fro .none, .fro (ofI other)]) :=
                (st1 _).trans ((st2 _ _).trans ((st3 _).trans (e_seqR ((e_if orv).trans (e_seqR (e_ret rfl))))))
              exact e_fun rfl hb
            · rename_i hor
              have hor' : (decide (f.length ≤ other.length) || eqInts (trimS other) []) = false := by simpa using hor
              rw [hor'] at orv
              split at h
              · rename_i c ec
                split at h
                · rename_i hcl
                  cases h
                  obtain ⟨e1, e2⟩ := prod_eq ec
                  have hcut2 := k__law_cut_eq c hcl
                  have val : callC k__law_cut (consC (callC k__law_left (consC (callC k__law_times (consC (nameC 0) (consC (nameC 4) (consC (nameC 2) nilC)))) (consC (nameC 1) (consC (nameC 2) nilC)))) nilC) [.fro (ofI a), .fro (ofI f), .fro (.int p), .fro .none, .fro (ofI other)] = some (ofI (trimS c), [.fro (ofI a), .fro (ofI f), .fro (.int p), .fro .none, .fro (ofI other)]) :=
                    e_call (e_cons (e_call (e_cons (e_call (e_cons (e_name rfl) (e_cons (e_name rfl) (e_cons (e_name rfl) rfl))) e1) (e_cons (e_name rfl) (e_cons (e_name rfl) rfl))) e2) rfl) hcut2
                  cases hq : eqInts (trimS c) [] with
                  | true =>
                    have hb : b__law_inverse_right [.fro (ofI a), .fro (ofI f), .fro (.int p), .un, .un] = some (.ret (.int 0), [.fro (ofI a), .fro (ofI f), .fro (.int p), .fro .none, .fro (ofI other)]) :=
                      (st1 _).trans ((st2 _ _).trans ((st3 _).trans ((e_seq ((e_ifF orv).trans rfl)).trans (e_seqR (e_ret ((e_ifE (e_cmp (tb := ofI []) val (e_iceO rfl) (e_eqL.trans (by rw [hq])))).trans rfl))))))
                    exact e_fun rfl hb
                  | false =>
                    have hb : b__law_inverse_right [.fro (ofI a), .fro (ofI f), .fro (.int p), .un, .un] = some (.ret (.int (-1)), [.fro (ofI a), .fro (ofI f), .fro (.int p), .fro .none, .fro (ofI other)]) :=
                      (st1 _).trans ((st2 _ _).trans ((st3 _).trans ((e_seq ((e_ifF orv).trans rfl)).trans (e_seqR (e_ret ((e_ifEF (e_cmp (tb := ofI []) val (e_iceO rfl) (e_eqL.trans (by rw [hq])))).trans rfl))))))
                    exact e_fun rfl hb
                · cases h
              · cases h
          · cases h
        · cases h
      · cases h
    · cases h
  · cases h
end Mine

namespace Mine
open PySem PySem.W PyProof.Rows PySem.Calls
noncomputable def two (g : Int → List Int → List Int → Option (List Int)) : List T → Option T
  | [.list A, .list B, .int p] => match intsOf A, intsOf B with
    | some a, some b => match g p a b with
      | some r => some (ofI r)
      | none => none
    | _, _ => none
  | _ => none
theorem two_ok {g : Int → List Int → List Int → Option (List Int)} {k : List T → Option T} (hk : ∀ {p : Int} {a b r : List Int}, g p a b = some r → k [ofI a, ofI b, .int p] = some (ofI r)) : ∀ ts t, two g ts = some t → k ts = some t := by
  intro ts t h
  unfold two at h
  split at h
  · split at h
    · rename_i ea eb
      split at h
      · rename_i hc
        cases h
        rw [intsOf_eq ea, intsOf_eq eb]
        exact hk hc
      · cases h
    · cases h
  · cases h
noncomputable def f_mrest := two restF
noncomputable def f_mquotient := two quotF
noncomputable def f_mgcd := two (fun p a b => gcdL p 100 a b)
noncomputable def f_mmonic : List T → Option T
  | [.list A, .int p] => match intsOf A with
    | some a => match monicF p a with
      | some r => some (ofI r)
      | none => none
    | _ => none
  | _ => none
theorem q_mmonic : ∀ ts t, f_mmonic ts = some t → k_mmonic ts = some t := by
  intro ts t h
  unfold f_mmonic at h
  split at h
  · split at h
    · rename_i ea
      split at h
      · rename_i hc
        cases h
        rw [intsOf_eq ea]
        exact k_mmonic_eq hc
      · cases h
    · cases h
  · cases h
theorem cf_inverse_mod {G : Glo} (E : En G) : CallP G "inverse_mod" 2 f_inverse_mod := CallP.fast (c_inverse_mod E) q_inverse_mod
theorem cf_mtrim {G : Glo} (E : En G) : CallP G "mtrim" 1 f_mtrim := CallP.fast (c_mtrim E) q_mtrim
theorem cf_madd {G : Glo} (E : En G) : CallP G "madd" 2 f_madd := CallP.fast (c_madd E) q_madd
theorem cf_msub {G : Glo} (E : En G) : CallP G "msub" 3 f_msub := CallP.fast (c_msub E) q_msub
theorem cf_mmul {G : Glo} (E : En G) : CallP G "mmul" 2 f_mmul := CallP.fast (c_mmul E) q_mmul
theorem cf_mrest {G : Glo} (E : En G) : CallP G "mrest" 4 f_mrest := CallP.fast (c_mrest E) (two_ok k_mrest_eq)
theorem cf_mquotient {G : Glo} (E : En G) : CallP G "mquotient" 4 f_mquotient := CallP.fast (c_mquotient E) (two_ok k_mquotient_eq)
theorem cf_mmonic {G : Glo} (E : En G) : CallP G "mmonic" 3 f_mmonic := CallP.fast (c_mmonic E) q_mmonic
theorem cf_mgcd {G : Glo} (E : En G) : CallP G "mgcd" 5 f_mgcd := CallP.fast (c_mgcd E) (two_ok k_mgcd_eq)
theorem cf__law_times {G : Glo} (E : En G) : CallP G "_law_times" 1 f__law_times := CallP.fast (c__law_times E) q__law_times
end Mine

namespace Mine
open PySem PySem.W PyProof.Rows PySem.Calls
noncomputable def F_mdegree : FRec := frec 5
noncomputable def vs_mdegree : List Str := ["a"]
theorem fo_mdegree : FunOk F_mdegree vs_mdegree ["a"] := ⟨by rfl, by rfl, by rfl, by decide +kernel, by decide +kernel, by decide +kernel, fun _ _ _ => len1 fun _ => rfl⟩
noncomputable def b_mdegree : SemS := (seqC (retC (binC subI (pureC (lenP 0)) (constC (.int 1)))) skipC)
theorem p_mdegree {G : Glo} (E : En G) : SSs G ⟨F_mdegree.scope, vs_mdegree.zipIdx, 0, vs_mdegree.length⟩ F_mdegree.body b_mdegree := (SSs.cons (SS.ret (SE.bin subI_ok (SE.ofP (SP.len E.ok E.len (by rfl) (by rfl) (by rfl) (by rfl))) SE.int)) SSs.nil)
noncomputable def k_mdegree : List T → Option T := funC 1 0 b_mdegree
theorem c_mdegree {G : Glo} (E : En G) : CallP G "mdegree" 1 k_mdegree := fun_ok E.ok (E.fn 5 (by decide)) fo_mdegree (p_mdegree E)

noncomputable def F_mlead : FRec := frec 6
noncomputable def vs_mlead : List Str := ["a"]
theorem fo_mlead : FunOk F_mlead vs_mlead ["a"] := ⟨by rfl, by rfl, by rfl, by decide +kernel, by decide +kernel, by decide +kernel, fun _ _ _ => len1 fun _ => rfl⟩
noncomputable def b_mlead : SemS := (seqC (retC (ifC (cmpC gtI (pureC (lenP 0)) (constC (.int 0))) (atP 0 (negP (constP 1))) (constC (.int 0)))) skipC)
theorem p_mlead {G : Glo} (E : En G) : SSs G ⟨F_mlead.scope, vs_mlead.zipIdx, 0, vs_mlead.length⟩ F_mlead.body b_mlead := (SSs.cons (SS.ret (SE.ifExp (ST.cmp gtI_ok (SE.ofP (SP.len E.ok E.len (by rfl) (by rfl) (by rfl) (by rfl))) SE.int) (SE.at (by rfl) (by rfl) (SP.neg SP.int)) SE.int)) SSs.nil)
noncomputable def k_mlead : List T → Option T := funC 1 0 b_mlead
theorem c_mlead {G : Glo} (E : En G) : CallP G "mlead" 1 k_mlead := fun_ok E.ok (E.fn 6 (by decide)) fo_mlead (p_mlead E)

noncomputable def F_mderive : FRec := frec 16
noncomputable def vs_mderive : List Str := ["a", "p"]
theorem fo_mderive : FunOk F_mderive vs_mderive ["a", "p"] := ⟨by rfl, by rfl, by rfl, by decide +kernel, by decide +kernel, by decide +kernel, fun _ _ _ => len2 fun _ _ => rfl⟩
noncomputable def b_mderive : SemS := (seqC (retC (callC f_mtrim (consC (iceC (sliceC (iceC (ownC (compPC 2 (enumIt (consC (nameC 0) nilC)) (binC modI (binC mulI (nameC 2) (nameC 3)) (nameC 1))))) (some (constP 1)) none)) nilC))) skipC)
theorem p_mderive {G : Glo} (E : En G) : SSs G ⟨F_mderive.scope, vs_mderive.zipIdx, 1, vs_mderive.length⟩ F_mderive.body b_mderive := (SSs.cons (SS.ret (SE.callP E.ok (cf_mtrim E) (by decide) (by rfl) (by rfl) (SL.cons (SE.ofX (SX.slice (fl := (some (constP 1))) (fh := none) (SE.ofX (SX.comp (SC.compP (sl' := [("at", 2), ("number", 3), ("p", 1)]) (SI2.enum E.ok E.enumerate (by rfl) (by rfl) (SL.cons (SE.name (by rfl) (by rfl)) SL.nil)) (by decide +kernel) (by rfl) (by rfl) (by decide +kernel) (by rfl) (by rfl) (SE.bin modI_ok (SE.bin mulI_ok (SE.name (by rfl) (by rfl)) (SE.name (by rfl) (by rfl))) (SE.name (by rfl) (by rfl)))))) SP.int trivial)) SL.nil))) SSs.nil)
noncomputable def k_mderive : List T → Option T := funC 2 2 b_mderive
theorem c_mderive {G : Glo} (E : En G) : CallP G "mderive" 2 k_mderive := fun_ok E.ok (E.fn 16 (by decide)) fo_mderive (p_mderive E)

noncomputable def F_mpower_mod : FRec := frec 17
noncomputable def vs_mpower_mod : List Str := ["a", "n", "f", "p", "found", "square"]
theorem fo_mpower_mod : FunOk F_mpower_mod vs_mpower_mod ["a", "n", "f", "p"] := ⟨by rfl, by rfl, by rfl, by decide +kernel, by decide +kernel, by decide +kernel, fun _ _ _ => len4 fun _ _ _ _ => rfl⟩
noncomputable def b_mpower_mod : SemS := (seqC (swap2C 4 5 (froC (callC f_mrest (consC (iceC (listC (consC (constC (.int 1)) nilC))) (consC (nameC 2) (consC (nameC 3) nilC))))) (froC (callC f_mrest (consC (nameC 0) (consC (nameC 2) (consC (nameC 3) nilC)))))) (seqC (whileC (cmpC gtI (nameC 1) (constC (.int 0))) (seqC (iffC (cmpC eqI (binC modI (nameC 1) (constC (.int 2))) (constC (.int 1))) (seqC (assignC 4 (froC (callC f_mrest (consC (callC f_mmul (consC (nameC 4) (consC (nameC 5) (consC (nameC 3) nilC)))) (consC (nameC 2) (consC (nameC 3) nilC)))))) skipC) skipC) (seqC (assignC 1 (froC (binC divI (nameC 1) (constC (.int 2))))) (seqC (iffC (cmpC gtI (nameC 1) (constC (.int 0))) (seqC (assignC 5 (froC (callC f_mrest (consC (callC f_mmul (consC (nameC 5) (consC (nameC 5) (consC (nameC 3) nilC)))) (consC (nameC 2) (consC (nameC 3) nilC)))))) skipC) skipC) skipC))) 1000) (seqC (retC (nameC 4)) skipC)))
theorem p_mpower_mod {G : Glo} (E : En G) : SSs G ⟨F_mpower_mod.scope, vs_mpower_mod.zipIdx, 4, vs_mpower_mod.length⟩ F_mpower_mod.body b_mpower_mod := (SSs.cons (SS.swap2 (SX.ofE (SE.callP E.ok (cf_mrest E) (by decide) (by rfl) (by rfl) (SL.cons (SE.ofX (SX.list (SL.cons SE.int SL.nil))) (SL.cons (SE.name (by rfl) (by rfl)) (SL.cons (SE.name (by rfl) (by rfl)) SL.nil))))) (SX.ofE (SE.callP E.ok (cf_mrest E) (by decide) (by rfl) (by rfl) (SL.cons (SE.name (by rfl) (by rfl)) (SL.cons (SE.name (by rfl) (by rfl)) (SL.cons (SE.name (by rfl) (by rfl)) SL.nil))))) (by rfl) (by rfl) (hw := (by intro e h; cases e; cases h; rfl))) (SSs.cons (SS.while 1000 (ST.cmp gtI_ok (SE.name (by rfl) (by rfl)) SE.int) (SSs.cons (SS.if (ST.cmp eqI_ok (SE.bin modI_ok (SE.name (by rfl) (by rfl)) SE.int) SE.int) (SSs.cons (SS.assign (SX.ofE (SE.callP E.ok (cf_mrest E) (by decide) (by rfl) (by rfl) (SL.cons (SE.callP E.ok (cf_mmul E) (by decide) (by rfl) (by rfl) (SL.cons (SE.name (by rfl) (by rfl)) (SL.cons (SE.name (by rfl) (by rfl)) (SL.cons (SE.name (by rfl) (by rfl)) SL.nil)))) (SL.cons (SE.name (by rfl) (by rfl)) (SL.cons (SE.name (by rfl) (by rfl)) SL.nil))))) (by rfl)) SSs.nil) SSs.nil) (SSs.cons (SS.assign (SX.ofE (SE.bin divI_ok (SE.name (by rfl) (by rfl)) SE.int)) (by rfl)) (SSs.cons (SS.if (ST.cmp gtI_ok (SE.name (by rfl) (by rfl)) SE.int) (SSs.cons (SS.assign (SX.ofE (SE.callP E.ok (cf_mrest E) (by decide) (by rfl) (by rfl) (SL.cons (SE.callP E.ok (cf_mmul E) (by decide) (by rfl) (by rfl) (SL.cons (SE.name (by rfl) (by rfl)) (SL.cons (SE.name (by rfl) (by rfl)) (SL.cons (SE.name (by rfl) (by rfl)) SL.nil)))) (SL.cons (SE.name (by rfl) (by rfl)) (SL.cons (SE.name (by rfl) (by rfl)) SL.nil))))) (by rfl)) SSs.nil) SSs.nil) SSs.nil)))) (SSs.cons (SS.ret (SE.name (by rfl) (by rfl))) SSs.nil)))
noncomputable def k_mpower_mod : List T → Option T := funC 4 2 b_mpower_mod
theorem c_mpower_mod {G : Glo} (E : En G) : CallP G "mpower_mod" 5 k_mpower_mod := fun_ok E.ok (E.fn 17 (by decide)) fo_mpower_mod (p_mpower_mod E)

noncomputable def F_morder : FRec := frec 18
noncomputable def vs_morder : List Str := ["a"]
theorem fo_morder : FunOk F_morder vs_morder ["a"] := ⟨by rfl, by rfl, by rfl, by decide +kernel, by decide +kernel, by decide +kernel, fun _ _ _ => len1 fun _ => rfl⟩
noncomputable def b_morder : SemS := (seqC (retC (tupC (consC (pureC (lenP 0)) (consC (iceC (revC (nameC 0))) nilC)))) skipC)
theorem p_morder {G : Glo} (E : En G) : SSs G ⟨F_morder.scope, vs_morder.zipIdx, 0, vs_morder.length⟩ F_morder.body b_morder := (SSs.cons (SS.ret (SE.tuple (SL.cons (SE.ofP (SP.len E.ok E.len (by rfl) (by rfl) (by rfl) (by rfl))) (SL.cons (SE.ofX (SX.rev (SE.name (by rfl) (by rfl)) rfl)) SL.nil)))) SSs.nil)
noncomputable def k_morder : List T → Option T := funC 1 0 b_morder
theorem c_morder {G : Glo} (E : En G) : CallP G "morder" 1 k_morder := fun_ok E.ok (E.fn 18 (by decide)) fo_morder (p_morder E)

noncomputable def F_mroot : FRec := frec 19
noncomputable def vs_mroot : List Str := ["a", "p"]
theorem fo_mroot : FunOk F_mroot vs_mroot ["a", "p"] := ⟨by rfl, by rfl, by rfl, by decide +kernel, by decide +kernel, by decide +kernel, fun _ _ _ => len2 fun _ _ => rfl⟩
noncomputable def b_mroot : SemS := (seqC (retC (iceC (ownC (compC 2 (rangeIt (consC (constC (.int 0)) (consC (pureC (lenP 0)) (consC (nameC 1) nilC)))) (atP 0 (nameP 2)))))) skipC)
theorem p_mroot {G : Glo} (E : En G) : SSs G ⟨F_mroot.scope, vs_mroot.zipIdx, 0, vs_mroot.length⟩ F_mroot.body b_mroot := (SSs.cons (SS.ret (SE.ofX (SX.comp (SC.comp (sl' := [("at", 2), ("a", 0)]) (SI.range E.ok E.range (by rfl) (by rfl) (SL.cons SE.int (SL.cons (SE.ofP (SP.len E.ok E.len (by rfl) (by rfl) (by rfl) (by rfl))) (SL.cons (SE.name (by rfl) (by rfl)) SL.nil)))) (by decide +kernel) (by rfl) (by rfl) (SE.at (by rfl) (by rfl) (SP.name (by rfl) (by rfl))))))) SSs.nil)
noncomputable def k_mroot : List T → Option T := funC 2 1 b_mroot
theorem c_mroot {G : Glo} (E : En G) : CallP G "mroot" 1 k_mroot := fun_ok E.ok (E.fn 19 (by decide)) fo_mroot (p_mroot E)

noncomputable def F_parts_once : FRec := frec 24
noncomputable def vs_parts_once : List Str := ["f", "many", "p", "found", "at", "common", "left", "shared", "part"]
theorem fo_parts_once : FunOk F_parts_once vs_parts_once ["f", "many", "p"] := ⟨by rfl, by rfl, by rfl, by decide +kernel, by decide +kernel, by decide +kernel, fun _ _ _ => len3 fun _ _ _ => rfl⟩
noncomputable def b_parts_once : SemS := (seqC (swap2C 3 4 (listC nilC) (froC (nameC 1))) (seqC (assignC 5 (froC (callC f_mgcd (consC (nameC 0) (consC (callC k_mderive (consC (nameC 0) (consC (nameC 2) nilC))) (consC (nameC 2) nilC)))))) (seqC (assignC 6 (froC (callC f_mquotient (consC (nameC 0) (consC (nameC 5) (consC (nameC 2) nilC)))))) (seqC (whileC (cmpC gtI (callC k_mdegree (consC (nameC 6) nilC)) (constC (.int 0))) (seqC (assignC 7 (froC (callC f_mgcd (consC (nameC 6) (consC (nameC 5) (consC (nameC 2) nilC)))))) (seqC (assignC 8 (froC (callC f_mquotient (consC (nameC 6) (consC (nameC 7) (consC (nameC 2) nilC)))))) (seqC (iffC (cmpC gtI (callC k_mdegree (consC (nameC 8) nilC)) (constC (.int 0))) (seqC (appendC 3 (tupC (consC (nameC 8) (consC (nameC 4) nilC)))) skipC) skipC) (seqC (swap3C 6 5 4 (froC (nameC 7)) (froC (callC f_mquotient (consC (nameC 5) (consC (nameC 7) (consC (nameC 2) nilC))))) (froC (binC addI (nameC 4) (nameC 1)))) skipC)))) 1000) (seqC (retC (tupC (consC (nameC 3) (consC (nameC 5) nilC)))) skipC)))))
theorem p_parts_once {G : Glo} (E : En G) : SSs G ⟨F_parts_once.scope, vs_parts_once.zipIdx, 5, vs_parts_once.length⟩ F_parts_once.body b_parts_once := (SSs.cons (SS.swap2 (SX.list SL.nil) (SX.ofE (SE.name (by rfl) (by rfl))) (by rfl) (by rfl) (hw := (by intro e h; cases e; cases h; rfl))) (SSs.cons (SS.assign (SX.ofE (SE.callP E.ok (cf_mgcd E) (by decide) (by rfl) (by rfl) (SL.cons (SE.name (by rfl) (by rfl)) (SL.cons (SE.callP E.ok (c_mderive E) (by decide) (by rfl) (by rfl) (SL.cons (SE.name (by rfl) (by rfl)) (SL.cons (SE.name (by rfl) (by rfl)) SL.nil))) (SL.cons (SE.name (by rfl) (by rfl)) SL.nil))))) (by rfl)) (SSs.cons (SS.assign (SX.ofE (SE.callP E.ok (cf_mquotient E) (by decide) (by rfl) (by rfl) (SL.cons (SE.name (by rfl) (by rfl)) (SL.cons (SE.name (by rfl) (by rfl)) (SL.cons (SE.name (by rfl) (by rfl)) SL.nil))))) (by rfl)) (SSs.cons (SS.while 1000 (ST.cmp gtI_ok (SE.callP E.ok (c_mdegree E) (by decide) (by rfl) (by rfl) (SL.cons (SE.name (by rfl) (by rfl)) SL.nil)) SE.int) (SSs.cons (SS.assign (SX.ofE (SE.callP E.ok (cf_mgcd E) (by decide) (by rfl) (by rfl) (SL.cons (SE.name (by rfl) (by rfl)) (SL.cons (SE.name (by rfl) (by rfl)) (SL.cons (SE.name (by rfl) (by rfl)) SL.nil))))) (by rfl)) (SSs.cons (SS.assign (SX.ofE (SE.callP E.ok (cf_mquotient E) (by decide) (by rfl) (by rfl) (SL.cons (SE.name (by rfl) (by rfl)) (SL.cons (SE.name (by rfl) (by rfl)) (SL.cons (SE.name (by rfl) (by rfl)) SL.nil))))) (by rfl)) (SSs.cons (SS.if (ST.cmp gtI_ok (SE.callP E.ok (c_mdegree E) (by decide) (by rfl) (by rfl) (SL.cons (SE.name (by rfl) (by rfl)) SL.nil)) SE.int) (SSs.cons (SS.append (SE.tuple (SL.cons (SE.name (by rfl) (by rfl)) (SL.cons (SE.name (by rfl) (by rfl)) SL.nil))) (by rfl) (by rfl) (by rfl)) SSs.nil) SSs.nil) (SSs.cons (SS.swap3 (SX.ofE (SE.name (by rfl) (by rfl))) (SX.ofE (SE.callP E.ok (cf_mquotient E) (by decide) (by rfl) (by rfl) (SL.cons (SE.name (by rfl) (by rfl)) (SL.cons (SE.name (by rfl) (by rfl)) (SL.cons (SE.name (by rfl) (by rfl)) SL.nil))))) (SX.ofE (SE.bin addI_ok (SE.name (by rfl) (by rfl)) (SE.name (by rfl) (by rfl)))) (by rfl) (by rfl) (by rfl) (hw := (by intro e h; cases e; cases h; rfl))) SSs.nil))))) (SSs.cons (SS.ret (SE.tuple (SL.cons (SE.name (by rfl) (by rfl)) (SL.cons (SE.name (by rfl) (by rfl)) SL.nil)))) SSs.nil)))))
noncomputable def k_parts_once : List T → Option T := funC 3 6 b_parts_once
theorem c_parts_once {G : Glo} (E : En G) : CallP G "parts_once" 6 k_parts_once := fun_ok E.ok (E.fn 24 (by decide)) fo_parts_once (p_parts_once E)

noncomputable def F_square_free_parts : FRec := frec 25
noncomputable def vs_square_free_parts : List Str := ["f", "p", "found", "many", "parts", "rest"]
theorem fo_square_free_parts : FunOk F_square_free_parts vs_square_free_parts ["f", "p"] := ⟨by rfl, by rfl, by rfl, by decide +kernel, by decide +kernel, by decide +kernel, fun _ _ _ => len2 fun _ _ => rfl⟩
noncomputable def b_square_free_parts : SemS := (seqC (swap2C 2 3 (listC nilC) (froC (constC (.int 1)))) (seqC (whileC (cmpC gtI (callC k_mdegree (consC (nameC 0) nilC)) (constC (.int 0))) (seqC (unpackC [4, 5] (callC k_parts_once (consC (nameC 0) (consC (nameC 3) (consC (nameC 1) nilC))))) (seqC (extendC 2 (nameC 4)) (seqC (swap2C 0 3 (froC (callC k_mroot (consC (nameC 5) (consC (nameC 1) nilC)))) (froC (binC mulI (nameC 3) (nameC 1)))) skipC))) 1000) (seqC (retC (nameC 2)) skipC)))
theorem p_square_free_parts {G : Glo} (E : En G) : SSs G ⟨F_square_free_parts.scope, vs_square_free_parts.zipIdx, 6, vs_square_free_parts.length⟩ F_square_free_parts.body b_square_free_parts := (SSs.cons (SS.swap2 (SX.list SL.nil) (SX.ofE SE.int) (by rfl) (by rfl) (hw := (by intro e h; cases e; cases h; rfl))) (SSs.cons (SS.while 1000 (ST.cmp gtI_ok (SE.callP E.ok (c_mdegree E) (by decide) (by rfl) (by rfl) (SL.cons (SE.name (by rfl) (by rfl)) SL.nil)) SE.int) (SSs.cons (SS.unpack (SE.callP E.ok (c_parts_once E) (by decide) (by rfl) (by rfl) (SL.cons (SE.name (by rfl) (by rfl)) (SL.cons (SE.name (by rfl) (by rfl)) (SL.cons (SE.name (by rfl) (by rfl)) SL.nil)))) (.cons (by rfl) (.cons (by rfl) .nil)) (hw := (by intro e h; cases e; cases h; rfl))) (SSs.cons (SS.extend (SE.name (by rfl) (by rfl)) (by rfl) (by rfl) (by rfl)) (SSs.cons (SS.swap2 (SX.ofE (SE.callP E.ok (c_mroot E) (by decide) (by rfl) (by rfl) (SL.cons (SE.name (by rfl) (by rfl)) (SL.cons (SE.name (by rfl) (by rfl)) SL.nil)))) (SX.ofE (SE.bin mulI_ok (SE.name (by rfl) (by rfl)) (SE.name (by rfl) (by rfl)))) (by rfl) (by rfl) (hw := (by intro e h; cases e; cases h; rfl))) SSs.nil)))) (SSs.cons (SS.ret (SE.name (by rfl) (by rfl))) SSs.nil)))
noncomputable def k_square_free_parts : List T → Option T := funC 2 4 b_square_free_parts
theorem c_square_free_parts {G : Glo} (E : En G) : CallP G "square_free_parts" 7 k_square_free_parts := fun_ok E.ok (E.fn 25 (by decide)) fo_square_free_parts (p_square_free_parts E)

noncomputable def F_distinct_degrees : FRec := frec 27
noncomputable def vs_distinct_degrees : List Str := ["f", "p", "found", "degree", "power", "common"]
theorem fo_distinct_degrees : FunOk F_distinct_degrees vs_distinct_degrees ["f", "p"] := ⟨by rfl, by rfl, by rfl, by decide +kernel, by decide +kernel, by decide +kernel, fun _ _ _ => len2 fun _ _ => rfl⟩
noncomputable def b_distinct_degrees : SemS := (seqC (swap3C 2 3 4 (listC nilC) (froC (constC (.int 0))) (listC (consC (constC (.int 0)) (consC (constC (.int 1)) nilC)))) (seqC (whileC (cmpC geI (callC k_mdegree (consC (nameC 0) nilC)) (binC mulI (constC (.int 2)) (binC addI (nameC 3) (constC (.int 1))))) (seqC (assignC 3 (froC (binC addI (nameC 3) (constC (.int 1))))) (seqC (assignC 4 (froC (callC k_mpower_mod (consC (nameC 4) (consC (nameC 1) (consC (nameC 0) (consC (nameC 1) nilC))))))) (seqC (assignC 5 (froC (callC f_mgcd (consC (callC f_msub (consC (nameC 4) (consC (iceC (listC (consC (constC (.int 0)) (consC (constC (.int 1)) nilC)))) (consC (nameC 1) nilC)))) (consC (nameC 0) (consC (nameC 1) nilC)))))) (seqC (iffC (cmpC gtI (callC k_mdegree (consC (nameC 5) nilC)) (constC (.int 0))) (seqC (appendC 2 (tupC (consC (nameC 5) (consC (nameC 3) nilC)))) (seqC (assignC 0 (froC (callC f_mquotient (consC (nameC 0) (consC (nameC 5) (consC (nameC 1) nilC)))))) (seqC (assignC 4 (froC (callC f_mrest (consC (nameC 4) (consC (nameC 0) (consC (nameC 1) nilC)))))) skipC))) skipC) skipC)))) 1000) (seqC (iffC (cmpC gtI (callC k_mdegree (consC (nameC 0) nilC)) (constC (.int 0))) (seqC (appendC 2 (tupC (consC (nameC 0) (consC (callC k_mdegree (consC (nameC 0) nilC)) nilC)))) skipC) skipC) (seqC (retC (nameC 2)) skipC))))
theorem p_distinct_degrees {G : Glo} (E : En G) : SSs G ⟨F_distinct_degrees.scope, vs_distinct_degrees.zipIdx, 5, vs_distinct_degrees.length⟩ F_distinct_degrees.body b_distinct_degrees := (SSs.cons (SS.swap3 (SX.list SL.nil) (SX.ofE SE.int) (SX.list (SL.cons SE.int (SL.cons SE.int SL.nil))) (by rfl) (by rfl) (by rfl) (hw := (by intro e h; cases e; cases h; rfl))) (SSs.cons (SS.while 1000 (ST.cmp geI_ok (SE.callP E.ok (c_mdegree E) (by decide) (by rfl) (by rfl) (SL.cons (SE.name (by rfl) (by rfl)) SL.nil)) (SE.bin mulI_ok SE.int (SE.bin addI_ok (SE.name (by rfl) (by rfl)) SE.int))) (SSs.cons (SS.assign (SX.ofE (SE.bin addI_ok (SE.name (by rfl) (by rfl)) SE.int)) (by rfl)) (SSs.cons (SS.assign (SX.ofE (SE.callP E.ok (c_mpower_mod E) (by decide) (by rfl) (by rfl) (SL.cons (SE.name (by rfl) (by rfl)) (SL.cons (SE.name (by rfl) (by rfl)) (SL.cons (SE.name (by rfl) (by rfl)) (SL.cons (SE.name (by rfl) (by rfl)) SL.nil)))))) (by rfl)) (SSs.cons (SS.assign (SX.ofE (SE.callP E.ok (cf_mgcd E) (by decide) (by rfl) (by rfl) (SL.cons (SE.callP E.ok (cf_msub E) (by decide) (by rfl) (by rfl) (SL.cons (SE.name (by rfl) (by rfl)) (SL.cons (SE.ofX (SX.list (SL.cons SE.int (SL.cons SE.int SL.nil)))) (SL.cons (SE.name (by rfl) (by rfl)) SL.nil)))) (SL.cons (SE.name (by rfl) (by rfl)) (SL.cons (SE.name (by rfl) (by rfl)) SL.nil))))) (by rfl)) (SSs.cons (SS.if (ST.cmp gtI_ok (SE.callP E.ok (c_mdegree E) (by decide) (by rfl) (by rfl) (SL.cons (SE.name (by rfl) (by rfl)) SL.nil)) SE.int) (SSs.cons (SS.append (SE.tuple (SL.cons (SE.name (by rfl) (by rfl)) (SL.cons (SE.name (by rfl) (by rfl)) SL.nil))) (by rfl) (by rfl) (by rfl)) (SSs.cons (SS.assign (SX.ofE (SE.callP E.ok (cf_mquotient E) (by decide) (by rfl) (by rfl) (SL.cons (SE.name (by rfl) (by rfl)) (SL.cons (SE.name (by rfl) (by rfl)) (SL.cons (SE.name (by rfl) (by rfl)) SL.nil))))) (by rfl)) (SSs.cons (SS.assign (SX.ofE (SE.callP E.ok (cf_mrest E) (by decide) (by rfl) (by rfl) (SL.cons (SE.name (by rfl) (by rfl)) (SL.cons (SE.name (by rfl) (by rfl)) (SL.cons (SE.name (by rfl) (by rfl)) SL.nil))))) (by rfl)) SSs.nil))) SSs.nil) SSs.nil))))) (SSs.cons (SS.if (ST.cmp gtI_ok (SE.callP E.ok (c_mdegree E) (by decide) (by rfl) (by rfl) (SL.cons (SE.name (by rfl) (by rfl)) SL.nil)) SE.int) (SSs.cons (SS.append (SE.tuple (SL.cons (SE.name (by rfl) (by rfl)) (SL.cons (SE.callP E.ok (c_mdegree E) (by decide) (by rfl) (by rfl) (SL.cons (SE.name (by rfl) (by rfl)) SL.nil)) SL.nil))) (by rfl) (by rfl) (by rfl)) SSs.nil) SSs.nil) (SSs.cons (SS.ret (SE.name (by rfl) (by rfl))) SSs.nil))))
noncomputable def k_distinct_degrees : List T → Option T := funC 2 4 b_distinct_degrees
theorem c_distinct_degrees {G : Glo} (E : En G) : CallP G "distinct_degrees" 6 k_distinct_degrees := fun_ok E.ok (E.fn 27 (by decide)) fo_distinct_degrees (p_distinct_degrees E)

noncomputable def F_trace_power : FRec := frec 28
noncomputable def vs_trace_power : List Str := ["a", "many", "f", "p", "found", "square", "turn"]
theorem fo_trace_power : FunOk F_trace_power vs_trace_power ["a", "many", "f", "p"] := ⟨by rfl, by rfl, by rfl, by decide +kernel, by decide +kernel, by decide +kernel, fun _ _ _ => len4 fun _ _ _ _ => rfl⟩
noncomputable def b_trace_power : SemS := (seqC (swap2C 4 5 (listC nilC) (froC (callC f_mrest (consC (nameC 0) (consC (nameC 2) (consC (nameC 3) nilC)))))) (seqC (forS 6 (rangeIt (consC (nameC 1) nilC)) (seqC (assignC 4 (froC (callC f_madd (consC (nameC 4) (consC (nameC 5) (consC (nameC 3) nilC)))))) (seqC (assignC 5 (froC (callC f_mrest (consC (callC f_mmul (consC (nameC 5) (consC (nameC 5) (consC (nameC 3) nilC)))) (consC (nameC 2) (consC (nameC 3) nilC)))))) skipC))) (seqC (retC (nameC 4)) skipC)))
theorem p_trace_power {G : Glo} (E : En G) : SSs G ⟨F_trace_power.scope, vs_trace_power.zipIdx, 4, vs_trace_power.length⟩ F_trace_power.body b_trace_power := (SSs.cons (SS.swap2 (SX.list SL.nil) (SX.ofE (SE.callP E.ok (cf_mrest E) (by decide) (by rfl) (by rfl) (SL.cons (SE.name (by rfl) (by rfl)) (SL.cons (SE.name (by rfl) (by rfl)) (SL.cons (SE.name (by rfl) (by rfl)) SL.nil))))) (by rfl) (by rfl) (hw := (by intro e h; cases e; cases h; rfl))) (SSs.cons (SS.for (SI.range E.ok E.range (by rfl) (by rfl) (SL.cons (SE.name (by rfl) (by rfl)) SL.nil)) (SSs.cons (SS.assign (SX.ofE (SE.callP E.ok (cf_madd E) (by decide) (by rfl) (by rfl) (SL.cons (SE.name (by rfl) (by rfl)) (SL.cons (SE.name (by rfl) (by rfl)) (SL.cons (SE.name (by rfl) (by rfl)) SL.nil))))) (by rfl)) (SSs.cons (SS.assign (SX.ofE (SE.callP E.ok (cf_mrest E) (by decide) (by rfl) (by rfl) (SL.cons (SE.callP E.ok (cf_mmul E) (by decide) (by rfl) (by rfl) (SL.cons (SE.name (by rfl) (by rfl)) (SL.cons (SE.name (by rfl) (by rfl)) (SL.cons (SE.name (by rfl) (by rfl)) SL.nil)))) (SL.cons (SE.name (by rfl) (by rfl)) (SL.cons (SE.name (by rfl) (by rfl)) SL.nil))))) (by rfl)) SSs.nil)) (by rfl)) (SSs.cons (SS.ret (SE.name (by rfl) (by rfl))) SSs.nil)))
noncomputable def k_trace_power : List T → Option T := funC 4 3 b_trace_power
theorem c_trace_power {G : Glo} (E : En G) : CallP G "trace_power" 5 k_trace_power := fun_ok E.ok (E.fn 28 (by decide)) fo_trace_power (p_trace_power E)

noncomputable def F_split_power : FRec := frec 29
noncomputable def vs_split_power : List Str := ["a", "degree", "f", "p"]
theorem fo_split_power : FunOk F_split_power vs_split_power ["a", "degree", "f", "p"] := ⟨by rfl, by rfl, by rfl, by decide +kernel, by decide +kernel, by decide +kernel, fun _ _ _ => len4 fun _ _ _ _ => rfl⟩
noncomputable def b_split_power : SemS := (seqC (iffC (cmpC eqI (nameC 3) (constC (.int 2))) (seqC (retC (callC f_msub (consC (callC k_trace_power (consC (nameC 0) (consC (nameC 1) (consC (nameC 2) (consC (nameC 3) nilC))))) (consC (iceC (listC (consC (constC (.int 1)) nilC))) (consC (nameC 3) nilC))))) skipC) skipC) (seqC (retC (callC f_msub (consC (callC k_mpower_mod (consC (nameC 0) (consC (binC divI (binC subI (binC powI (nameC 3) (nameC 1)) (constC (.int 1))) (constC (.int 2))) (consC (nameC 2) (consC (nameC 3) nilC))))) (consC (iceC (listC (consC (constC (.int 1)) nilC))) (consC (nameC 3) nilC))))) skipC))
theorem p_split_power {G : Glo} (E : En G) : SSs G ⟨F_split_power.scope, vs_split_power.zipIdx, 5, vs_split_power.length⟩ F_split_power.body b_split_power := (SSs.cons (SS.if (ST.cmp eqI_ok (SE.name (by rfl) (by rfl)) SE.int) (SSs.cons (SS.ret (SE.callP E.ok (cf_msub E) (by decide) (by rfl) (by rfl) (SL.cons (SE.callP E.ok (c_trace_power E) (by decide) (by rfl) (by rfl) (SL.cons (SE.name (by rfl) (by rfl)) (SL.cons (SE.name (by rfl) (by rfl)) (SL.cons (SE.name (by rfl) (by rfl)) (SL.cons (SE.name (by rfl) (by rfl)) SL.nil))))) (SL.cons (SE.ofX (SX.list (SL.cons SE.int SL.nil))) (SL.cons (SE.name (by rfl) (by rfl)) SL.nil))))) SSs.nil) SSs.nil) (SSs.cons (SS.ret (SE.callP E.ok (cf_msub E) (by decide) (by rfl) (by rfl) (SL.cons (SE.callP E.ok (c_mpower_mod E) (by decide) (by rfl) (by rfl) (SL.cons (SE.name (by rfl) (by rfl)) (SL.cons (SE.bin divI_ok (SE.bin subI_ok (SE.bin powI_ok (SE.name (by rfl) (by rfl)) (SE.name (by rfl) (by rfl))) SE.int) SE.int) (SL.cons (SE.name (by rfl) (by rfl)) (SL.cons (SE.name (by rfl) (by rfl)) SL.nil))))) (SL.cons (SE.ofX (SX.list (SL.cons SE.int SL.nil))) (SL.cons (SE.name (by rfl) (by rfl)) SL.nil))))) SSs.nil))
noncomputable def k_split_power : List T → Option T := funC 4 0 b_split_power
theorem c_split_power {G : Glo} (E : En G) : CallP G "split_power" 6 k_split_power := fun_ok E.ok (E.fn 29 (by decide)) fo_split_power (p_split_power E)

noncomputable def F_split_once : FRec := frec 30
noncomputable def vs_split_once : List Str := ["f", "degree", "a", "p", "common"]
theorem fo_split_once : FunOk F_split_once vs_split_once ["f", "degree", "a", "p"] := ⟨by rfl, by rfl, by rfl, by decide +kernel, by decide +kernel, by decide +kernel, fun _ _ _ => len4 fun _ _ _ _ => rfl⟩
noncomputable def b_split_once : SemS := (seqC (assignC 4 (froC (callC f_mgcd (consC (nameC 2) (consC (nameC 0) (consC (nameC 3) nilC)))))) (seqC (iffC (chainC ltI ltI (constC (.int 0)) (callC k_mdegree (consC (nameC 4) nilC)) (callC k_mdegree (consC (nameC 0) nilC))) (seqC (retC (nameC 4)) skipC) skipC) (seqC (assignC 4 (froC (callC f_mgcd (consC (callC k_split_power (consC (nameC 2) (consC (nameC 1) (consC (nameC 0) (consC (nameC 3) nilC))))) (consC (nameC 0) (consC (nameC 3) nilC)))))) (seqC (retC (ifC (chainC ltI ltI (constC (.int 0)) (callC k_mdegree (consC (nameC 4) nilC)) (callC k_mdegree (consC (nameC 0) nilC))) (nameC 4) (constC .none))) skipC))))
theorem p_split_once {G : Glo} (E : En G) : SSs G ⟨F_split_once.scope, vs_split_once.zipIdx, 6, vs_split_once.length⟩ F_split_once.body b_split_once := (SSs.cons (SS.assign (SX.ofE (SE.callP E.ok (cf_mgcd E) (by decide) (by rfl) (by rfl) (SL.cons (SE.name (by rfl) (by rfl)) (SL.cons (SE.name (by rfl) (by rfl)) (SL.cons (SE.name (by rfl) (by rfl)) SL.nil))))) (by rfl)) (SSs.cons (SS.if (ST.chain ltI_ok ltI_ok SE.int (SE.callP E.ok (c_mdegree E) (by decide) (by rfl) (by rfl) (SL.cons (SE.name (by rfl) (by rfl)) SL.nil)) (SE.callP E.ok (c_mdegree E) (by decide) (by rfl) (by rfl) (SL.cons (SE.name (by rfl) (by rfl)) SL.nil))) (SSs.cons (SS.ret (SE.name (by rfl) (by rfl))) SSs.nil) SSs.nil) (SSs.cons (SS.assign (SX.ofE (SE.callP E.ok (cf_mgcd E) (by decide) (by rfl) (by rfl) (SL.cons (SE.callP E.ok (c_split_power E) (by decide) (by rfl) (by rfl) (SL.cons (SE.name (by rfl) (by rfl)) (SL.cons (SE.name (by rfl) (by rfl)) (SL.cons (SE.name (by rfl) (by rfl)) (SL.cons (SE.name (by rfl) (by rfl)) SL.nil))))) (SL.cons (SE.name (by rfl) (by rfl)) (SL.cons (SE.name (by rfl) (by rfl)) SL.nil))))) (by rfl)) (SSs.cons (SS.ret (SE.ifExp (ST.chain ltI_ok ltI_ok SE.int (SE.callP E.ok (c_mdegree E) (by decide) (by rfl) (by rfl) (SL.cons (SE.name (by rfl) (by rfl)) SL.nil)) (SE.callP E.ok (c_mdegree E) (by decide) (by rfl) (by rfl) (SL.cons (SE.name (by rfl) (by rfl)) SL.nil))) (SE.name (by rfl) (by rfl)) SE.none)) SSs.nil))))
noncomputable def k_split_once : List T → Option T := funC 4 1 b_split_once
theorem c_split_once {G : Glo} (E : En G) : CallP G "split_once" 7 k_split_once := fun_ok E.ok (E.fn 30 (by decide)) fo_split_once (p_split_once E)

noncomputable def F_counted : FRec := frec 33
noncomputable def vs_counted : List Str := ["number", "p", "found"]
theorem fo_counted : FunOk F_counted vs_counted ["number", "p"] := ⟨by rfl, by rfl, by rfl, by decide +kernel, by decide +kernel, by decide +kernel, fun _ _ _ => len2 fun _ _ => rfl⟩
noncomputable def b_counted : SemS := (seqC (assignC 2 (listC nilC)) (seqC (whileC (cmpC gtI (nameC 0) (constC (.int 0))) (seqC (appendC 2 (binC modI (nameC 0) (nameC 1))) (seqC (assignC 0 (froC (binC divI (nameC 0) (nameC 1)))) skipC)) 1000) (seqC (retC (callC f_mtrim (consC (nameC 2) nilC))) skipC)))
theorem p_counted {G : Glo} (E : En G) : SSs G ⟨F_counted.scope, vs_counted.zipIdx, 1, vs_counted.length⟩ F_counted.body b_counted := (SSs.cons (SS.assign (SX.list SL.nil) (by rfl)) (SSs.cons (SS.while 1000 (ST.cmp gtI_ok (SE.name (by rfl) (by rfl)) SE.int) (SSs.cons (SS.append (SE.bin modI_ok (SE.name (by rfl) (by rfl)) (SE.name (by rfl) (by rfl))) (by rfl) (by rfl) (by rfl)) (SSs.cons (SS.assign (SX.ofE (SE.bin divI_ok (SE.name (by rfl) (by rfl)) (SE.name (by rfl) (by rfl)))) (by rfl)) SSs.nil))) (SSs.cons (SS.ret (SE.callP E.ok (cf_mtrim E) (by decide) (by rfl) (by rfl) (SL.cons (SE.name (by rfl) (by rfl)) SL.nil))) SSs.nil)))
noncomputable def k_counted : List T → Option T := funC 2 1 b_counted
theorem c_counted {G : Glo} (E : En G) : CallP G "counted" 2 k_counted := fun_ok E.ok (E.fn 33 (by decide)) fo_counted (p_counted E)

noncomputable def F_first_split : FRec := frec 32
noncomputable def vs_first_split : List Str := ["f", "degree", "choices", "p", "a", "part", "number"]
theorem fo_first_split : FunOk F_first_split vs_first_split ["f", "degree", "choices", "p"] := ⟨by rfl, by rfl, by rfl, by decide +kernel, by decide +kernel, by decide +kernel, fun _ _ _ => len4 fun _ _ _ _ => rfl⟩
noncomputable def b_first_split : SemS := (seqC (forS 4 (listIt (nameC 2)) (seqC (assignC 5 (froC (callC k_split_once (consC (nameC 0) (consC (nameC 1) (consC (callC f_mrest (consC (nameC 4) (consC (nameC 0) (consC (nameC 3) nilC)))) (consC (nameC 3) nilC))))))) (seqC (iffC (cmpC isNotN (nameC 5) (constC .none)) (seqC (retC (nameC 5)) skipC) skipC) skipC))) (seqC (swap2C 6 5 (froC (nameC 3)) (froC (constC .none))) (seqC (whileC (cmpC isN (nameC 5) (constC .none)) (seqC (assignC 5 (froC (callC k_split_once (consC (nameC 0) (consC (nameC 1) (consC (callC k_counted (consC (nameC 6) (consC (nameC 3) nilC))) (consC (nameC 3) nilC))))))) (seqC (assignC 6 (froC (binC addI (nameC 6) (constC (.int 1))))) skipC)) 1000) (seqC (retC (nameC 5)) skipC))))
theorem p_first_split {G : Glo} (E : En G) : SSs G ⟨F_first_split.scope, vs_first_split.zipIdx, 7, vs_first_split.length⟩ F_first_split.body b_first_split := (SSs.cons (SS.for (SI.list (SE.name (by rfl) (by rfl))) (SSs.cons (SS.assign (SX.ofE (SE.callP E.ok (c_split_once E) (by decide) (by rfl) (by rfl) (SL.cons (SE.name (by rfl) (by rfl)) (SL.cons (SE.name (by rfl) (by rfl)) (SL.cons (SE.callP E.ok (cf_mrest E) (by decide) (by rfl) (by rfl) (SL.cons (SE.name (by rfl) (by rfl)) (SL.cons (SE.name (by rfl) (by rfl)) (SL.cons (SE.name (by rfl) (by rfl)) SL.nil)))) (SL.cons (SE.name (by rfl) (by rfl)) SL.nil)))))) (by rfl)) (SSs.cons (SS.if (ST.cmp isNotN_ok (SE.name (by rfl) (by rfl)) SE.none) (SSs.cons (SS.ret (SE.name (by rfl) (by rfl))) SSs.nil) SSs.nil) SSs.nil)) (by rfl)) (SSs.cons (SS.swap2 (SX.ofE (SE.name (by rfl) (by rfl))) (SX.ofE SE.none) (by rfl) (by rfl) (hw := (by intro e h; cases e; cases h; rfl))) (SSs.cons (SS.while 1000 (ST.cmp isN_ok (SE.name (by rfl) (by rfl)) SE.none) (SSs.cons (SS.assign (SX.ofE (SE.callP E.ok (c_split_once E) (by decide) (by rfl) (by rfl) (SL.cons (SE.name (by rfl) (by rfl)) (SL.cons (SE.name (by rfl) (by rfl)) (SL.cons (SE.callP E.ok (c_counted E) (by decide) (by rfl) (by rfl) (SL.cons (SE.name (by rfl) (by rfl)) (SL.cons (SE.name (by rfl) (by rfl)) SL.nil))) (SL.cons (SE.name (by rfl) (by rfl)) SL.nil)))))) (by rfl)) (SSs.cons (SS.assign (SX.ofE (SE.bin addI_ok (SE.name (by rfl) (by rfl)) SE.int)) (by rfl)) SSs.nil))) (SSs.cons (SS.ret (SE.name (by rfl) (by rfl))) SSs.nil))))
noncomputable def k_first_split : List T → Option T := funC 4 3 b_first_split
theorem c_first_split {G : Glo} (E : En G) : CallP G "first_split" 8 k_first_split := fun_ok E.ok (E.fn 32 (by decide)) fo_first_split (p_first_split E)

noncomputable def F_factor_order : FRec := frec 36
noncomputable def vs_factor_order : List Str := ["pair"]
theorem fo_factor_order : FunOk F_factor_order vs_factor_order ["pair"] := ⟨by rfl, by rfl, by rfl, by decide +kernel, by decide +kernel, by decide +kernel, fun _ _ _ => len1 fun _ => rfl⟩
noncomputable def b_factor_order : SemS := (seqC (retC (tupC (consC (callC k_morder (consC (atP 0 (constP 0)) nilC)) (consC (atP 0 (constP 1)) nilC)))) skipC)
theorem p_factor_order {G : Glo} (E : En G) : SSs G ⟨F_factor_order.scope, vs_factor_order.zipIdx, 1, vs_factor_order.length⟩ F_factor_order.body b_factor_order := (SSs.cons (SS.ret (SE.tuple (SL.cons (SE.callP E.ok (c_morder E) (by decide) (by rfl) (by rfl) (SL.cons (SE.at (by rfl) (by rfl) SP.int) SL.nil)) (SL.cons (SE.at (by rfl) (by rfl) SP.int) SL.nil)))) SSs.nil)
noncomputable def k_factor_order : List T → Option T := funC 1 0 b_factor_order
theorem c_factor_order {G : Glo} (E : En G) : CallP G "factor_order" 2 k_factor_order := fun_ok E.ok (E.fn 36 (by decide)) fo_factor_order (p_factor_order E)

noncomputable def F_equal_degree : FRec := frec 31
noncomputable def vs_equal_degree : List Str := ["f", "degree", "choices", "p", "waiting", "found", "here", "part"]
theorem fo_equal_degree : FunOk F_equal_degree vs_equal_degree ["f", "degree", "choices", "p"] := ⟨by rfl, by rfl, by rfl, by decide +kernel, by decide +kernel, by decide +kernel, fun _ _ _ => len4 fun _ _ _ _ => rfl⟩
noncomputable def b_equal_degree : SemS := (seqC (swap2C 4 5 (listC (consC (callC f_mmonic (consC (nameC 0) (consC (nameC 3) nilC))) nilC)) (listC nilC)) (seqC (whileC (cmpC gtI (pureC (lenP 4)) (constC (.int 0))) (seqC (assignC 6 (froC (popC 4))) (seqC (iffC (cmpC eqI (callC k_mdegree (consC (nameC 6) nilC)) (nameC 1)) (seqC (appendC 5 (nameC 6)) skipC) (seqC (assignC 7 (froC (callC k_first_split (consC (nameC 6) (consC (nameC 1) (consC (nameC 2) (consC (nameC 3) nilC))))))) (seqC (appendC 4 (nameC 7)) (seqC (appendC 4 (callC f_mquotient (consC (nameC 6) (consC (nameC 7) (consC (nameC 3) nilC))))) skipC)))) skipC)) 1000) (seqC (retC (iceC (sortX k_morder true (nameC 5)))) skipC)))
theorem p_equal_degree {G : Glo} (E : En G) : SSs G ⟨F_equal_degree.scope, vs_equal_degree.zipIdx, 9, vs_equal_degree.length⟩ F_equal_degree.body b_equal_degree := (SSs.cons (SS.swap2 (SX.list (SL.cons (SE.callP E.ok (cf_mmonic E) (by decide) (by rfl) (by rfl) (SL.cons (SE.name (by rfl) (by rfl)) (SL.cons (SE.name (by rfl) (by rfl)) SL.nil))) SL.nil)) (SX.list SL.nil) (by rfl) (by rfl) (hw := (by intro e h; cases e; cases h; rfl))) (SSs.cons (SS.while 1000 (ST.cmp gtI_ok (SE.ofP (SP.len E.ok E.len (by rfl) (by rfl) (by rfl) (by rfl))) SE.int) (SSs.cons (SS.assign (SX.ofE (SE.pop (by rfl) (by rfl) (by rfl))) (by rfl)) (SSs.cons (SS.if (ST.cmp eqI_ok (SE.callP E.ok (c_mdegree E) (by decide) (by rfl) (by rfl) (SL.cons (SE.name (by rfl) (by rfl)) SL.nil)) (SE.name (by rfl) (by rfl))) (SSs.cons (SS.append (SE.name (by rfl) (by rfl)) (by rfl) (by rfl) (by rfl)) SSs.nil) (SSs.cons (SS.assign (SX.ofE (SE.callP E.ok (c_first_split E) (by decide) (by rfl) (by rfl) (SL.cons (SE.name (by rfl) (by rfl)) (SL.cons (SE.name (by rfl) (by rfl)) (SL.cons (SE.name (by rfl) (by rfl)) (SL.cons (SE.name (by rfl) (by rfl)) SL.nil)))))) (by rfl)) (SSs.cons (SS.append (SE.name (by rfl) (by rfl)) (by rfl) (by rfl) (by rfl)) (SSs.cons (SS.append (SE.callP E.ok (cf_mquotient E) (by decide) (by rfl) (by rfl) (SL.cons (SE.name (by rfl) (by rfl)) (SL.cons (SE.name (by rfl) (by rfl)) (SL.cons (SE.name (by rfl) (by rfl)) SL.nil)))) (by rfl) (by rfl) (by rfl)) SSs.nil)))) SSs.nil))) (SSs.cons (SS.ret (SE.ofX (SX.sorted E.ok E.sorted (c_morder E) (by decide) (by rfl) (by rfl) (by rfl) (by rfl) (SE.name (by rfl) (by rfl))))) SSs.nil)))
noncomputable def k_equal_degree : List T → Option T := funC 4 4 b_equal_degree
theorem c_equal_degree {G : Glo} (E : En G) : CallP G "equal_degree" 10 k_equal_degree := fun_ok E.ok (E.fn 31 (by decide)) fo_equal_degree (p_equal_degree E)

noncomputable def F_prime_parts : FRec := frec 34
noncomputable def vs_prime_parts : List Str := ["f", "choices", "p", "found", "product", "degree"]
theorem fo_prime_parts : FunOk F_prime_parts vs_prime_parts ["f", "choices", "p"] := ⟨by rfl, by rfl, by rfl, by decide +kernel, by decide +kernel, by decide +kernel, fun _ _ _ => len3 fun _ _ _ => rfl⟩
noncomputable def b_prime_parts : SemS := (seqC (assignC 3 (listC nilC)) (seqC (forPS 4 5 (pairsIt (callC k_distinct_degrees (consC (nameC 0) (consC (nameC 2) nilC)))) (seqC (extendC 3 (callC k_equal_degree (consC (nameC 4) (consC (nameC 5) (consC (nameC 1) (consC (nameC 2) nilC)))))) skipC)) (seqC (retC (iceC (sortX k_morder true (nameC 3)))) skipC)))
theorem p_prime_parts {G : Glo} (E : En G) : SSs G ⟨F_prime_parts.scope, vs_prime_parts.zipIdx, 11, vs_prime_parts.length⟩ F_prime_parts.body b_prime_parts := (SSs.cons (SS.assign (SX.list SL.nil) (by rfl)) (SSs.cons (SS.forP (SI2.pairs (SE.callP E.ok (c_distinct_degrees E) (by decide) (by rfl) (by rfl) (SL.cons (SE.name (by rfl) (by rfl)) (SL.cons (SE.name (by rfl) (by rfl)) SL.nil)))) (SSs.cons (SS.extend (SE.callP E.ok (c_equal_degree E) (by decide) (by rfl) (by rfl) (SL.cons (SE.name (by rfl) (by rfl)) (SL.cons (SE.name (by rfl) (by rfl)) (SL.cons (SE.name (by rfl) (by rfl)) (SL.cons (SE.name (by rfl) (by rfl)) SL.nil))))) (by rfl) (by rfl) (by rfl)) SSs.nil) (by rfl) (by rfl)) (SSs.cons (SS.ret (SE.ofX (SX.sorted E.ok E.sorted (c_morder E) (by decide) (by rfl) (by rfl) (by rfl) (by rfl) (SE.name (by rfl) (by rfl))))) SSs.nil)))
noncomputable def k_prime_parts : List T → Option T := funC 3 3 b_prime_parts
theorem c_prime_parts {G : Glo} (E : En G) : CallP G "prime_parts" 12 k_prime_parts := fun_ok E.ok (E.fn 34 (by decide)) fo_prime_parts (p_prime_parts E)

noncomputable def F_mfactor : FRec := frec 35
noncomputable def vs_mfactor : List Str := ["f", "p", "found", "part", "many"]
theorem fo_mfactor : FunOk F_mfactor vs_mfactor ["f", "p"] := ⟨by rfl, by rfl, by rfl, by decide +kernel, by decide +kernel, by decide +kernel, fun _ _ _ => len2 fun _ _ => rfl⟩
noncomputable def b_mfactor : SemS := (seqC (assignC 2 (listC nilC)) (seqC (forPS 3 4 (pairsIt (callC k_square_free_parts (consC (callC f_mmonic (consC (nameC 0) (consC (nameC 1) nilC))) (consC (nameC 1) nilC)))) (seqC (extendC 2 (iceC (ownC (compC 5 (listIt (callC k_prime_parts (consC (nameC 3) (consC (iceC (listC nilC)) (consC (nameC 1) nilC))))) (tupC (consC (nameC 5) (consC (nameC 4) nilC))))))) skipC)) (seqC (retC (tupC (consC (callC k_mlead (consC (nameC 0) nilC)) (consC (iceC (sortX k_factor_order false (nameC 2))) nilC)))) skipC)))
theorem p_mfactor {G : Glo} (E : En G) : SSs G ⟨F_mfactor.scope, vs_mfactor.zipIdx, 13, vs_mfactor.length⟩ F_mfactor.body b_mfactor := (SSs.cons (SS.assign (SX.list SL.nil) (by rfl)) (SSs.cons (SS.forP (SI2.pairs (SE.callP E.ok (c_square_free_parts E) (by decide) (by rfl) (by rfl) (SL.cons (SE.callP E.ok (cf_mmonic E) (by decide) (by rfl) (by rfl) (SL.cons (SE.name (by rfl) (by rfl)) (SL.cons (SE.name (by rfl) (by rfl)) SL.nil))) (SL.cons (SE.name (by rfl) (by rfl)) SL.nil)))) (SSs.cons (SS.extend (SE.ofX (SX.comp (SC.comp (sl' := [("one", 5), ("many", 4)]) (SI.list (SE.callP E.ok (c_prime_parts E) (by decide) (by rfl) (by rfl) (SL.cons (SE.name (by rfl) (by rfl)) (SL.cons (SE.ofX (SX.list SL.nil)) (SL.cons (SE.name (by rfl) (by rfl)) SL.nil))))) (by decide +kernel) (by rfl) (by rfl) (SE.tuple (SL.cons (SE.name (by rfl) (by rfl)) (SL.cons (SE.name (by rfl) (by rfl)) SL.nil)))))) (by rfl) (by rfl) (by rfl)) SSs.nil) (by rfl) (by rfl)) (SSs.cons (SS.ret (SE.tuple (SL.cons (SE.callP E.ok (c_mlead E) (by decide) (by rfl) (by rfl) (SL.cons (SE.name (by rfl) (by rfl)) SL.nil)) (SL.cons (SE.ofX (SX.sorted E.ok E.sorted (c_factor_order E) (by decide) (by rfl) (by rfl) (by rfl) (by rfl) (SE.name (by rfl) (by rfl)))) SL.nil)))) SSs.nil)))
noncomputable def k_mfactor : List T → Option T := funC 2 4 b_mfactor
theorem c_mfactor {G : Glo} (E : En G) : CallP G "mfactor" 14 k_mfactor := fun_ok E.ok (E.fn 35 (by decide)) fo_mfactor (p_mfactor E)

noncomputable def F_berlekamp_matrix : FRec := frec 38
noncomputable def vs_berlekamp_matrix : List Str := ["f", "p", "many", "step", "power", "rows", "at", "row"]
theorem fo_berlekamp_matrix : FunOk F_berlekamp_matrix vs_berlekamp_matrix ["f", "p"] := ⟨by rfl, by rfl, by rfl, by decide +kernel, by decide +kernel, by decide +kernel, fun _ _ _ => len2 fun _ _ => rfl⟩
noncomputable def b_berlekamp_matrix : SemS := (seqC (assignC 2 (froC (callC k_mdegree (consC (nameC 0) nilC)))) (seqC (swap3C 3 4 5 (froC (callC k_mpower_mod (consC (iceC (listC (consC (constC (.int 0)) (consC (constC (.int 1)) nilC)))) (consC (nameC 1) (consC (nameC 0) (consC (nameC 1) nilC)))))) (froC (callC f_mrest (consC (iceC (listC (consC (constC (.int 1)) nilC))) (consC (nameC 0) (consC (nameC 1) nilC))))) (listC nilC)) (seqC (forS 6 (rangeIt (consC (nameC 2) nilC)) (seqC (assignC 7 (addX (nameC 4) (iceC (repX (constC (.int 0)) (binC subI (nameC 2) (pureC (lenP 4))))))) (seqC (setC 7 (nameP 6) (binC modI (binC subI (atP 7 (nameP 6)) (constC (.int 1))) (nameC 1))) (seqC (appendC 5 (nameC 7)) (seqC (assignC 4 (froC (callC f_mrest (consC (callC f_mmul (consC (nameC 4) (consC (nameC 3) (consC (nameC 1) nilC)))) (consC (nameC 0) (consC (nameC 1) nilC)))))) skipC))))) (seqC (retC (nameC 5)) skipC))))
theorem p_berlekamp_matrix {G : Glo} (E : En G) : SSs G ⟨F_berlekamp_matrix.scope, vs_berlekamp_matrix.zipIdx, 5, vs_berlekamp_matrix.length⟩ F_berlekamp_matrix.body b_berlekamp_matrix := (SSs.cons (SS.assign (SX.ofE (SE.callP E.ok (c_mdegree E) (by decide) (by rfl) (by rfl) (SL.cons (SE.name (by rfl) (by rfl)) SL.nil))) (by rfl)) (SSs.cons (SS.swap3 (SX.ofE (SE.callP E.ok (c_mpower_mod E) (by decide) (by rfl) (by rfl) (SL.cons (SE.ofX (SX.list (SL.cons SE.int (SL.cons SE.int SL.nil)))) (SL.cons (SE.name (by rfl) (by rfl)) (SL.cons (SE.name (by rfl) (by rfl)) (SL.cons (SE.name (by rfl) (by rfl)) SL.nil)))))) (SX.ofE (SE.callP E.ok (cf_mrest E) (by decide) (by rfl) (by rfl) (SL.cons (SE.ofX (SX.list (SL.cons SE.int SL.nil))) (SL.cons (SE.name (by rfl) (by rfl)) (SL.cons (SE.name (by rfl) (by rfl)) SL.nil))))) (SX.list SL.nil) (by rfl) (by rfl) (by rfl) (hw := (by intro e h; cases e; cases h; rfl))) (SSs.cons (SS.for (SI.range E.ok E.range (by rfl) (by rfl) (SL.cons (SE.name (by rfl) (by rfl)) SL.nil)) (SSs.cons (SS.assign (SX.add (SE.name (by rfl) (by rfl)) (SE.ofX (SX.rep SE.int (SE.bin subI_ok (SE.name (by rfl) (by rfl)) (SE.ofP (SP.len E.ok E.len (by rfl) (by rfl) (by rfl) (by rfl))))))) (by rfl)) (SSs.cons (SS.set (SE.bin modI_ok (SE.bin subI_ok (SE.at (by rfl) (by rfl) (SP.name (by rfl) (by rfl))) SE.int) (SE.name (by rfl) (by rfl))) (by rfl) (by rfl) (SP.name (by rfl) (by rfl))) (SSs.cons (SS.append (SE.name (by rfl) (by rfl)) (by rfl) (by rfl) (by rfl)) (SSs.cons (SS.assign (SX.ofE (SE.callP E.ok (cf_mrest E) (by decide) (by rfl) (by rfl) (SL.cons (SE.callP E.ok (cf_mmul E) (by decide) (by rfl) (by rfl) (SL.cons (SE.name (by rfl) (by rfl)) (SL.cons (SE.name (by rfl) (by rfl)) (SL.cons (SE.name (by rfl) (by rfl)) SL.nil)))) (SL.cons (SE.name (by rfl) (by rfl)) (SL.cons (SE.name (by rfl) (by rfl)) SL.nil))))) (by rfl)) SSs.nil)))) (by rfl)) (SSs.cons (SS.ret (SE.name (by rfl) (by rfl))) SSs.nil))))
noncomputable def k_berlekamp_matrix : List T → Option T := funC 2 6 b_berlekamp_matrix
theorem c_berlekamp_matrix {G : Glo} (E : En G) : CallP G "berlekamp_matrix" 6 k_berlekamp_matrix := fun_ok E.ok (E.fn 38 (by decide)) fo_berlekamp_matrix (p_berlekamp_matrix E)

noncomputable def F_pivot_row : FRec := frec 40
noncomputable def vs_pivot_row : List Str := ["work", "done", "column", "at"]
theorem fo_pivot_row : FunOk F_pivot_row vs_pivot_row ["work", "done", "column"] := ⟨by rfl, by rfl, by rfl, by decide +kernel, by decide +kernel, by decide +kernel, fun _ _ _ => len3 fun _ _ _ => rfl⟩
noncomputable def b_pivot_row : SemS := (seqC (forS 3 (rangeIt (consC (nameC 1) (consC (pureC (lenP 0)) nilC))) (seqC (iffC (cmpC neI (atC (atP 0 (nameP 3)) (nameP 2)) (constC (.int 0))) (seqC (retC (nameC 3)) skipC) skipC) skipC)) (seqC (retC (negC (constC (.int 1)))) skipC))
theorem p_pivot_row {G : Glo} (E : En G) : SSs G ⟨F_pivot_row.scope, vs_pivot_row.zipIdx, 0, vs_pivot_row.length⟩ F_pivot_row.body b_pivot_row := (SSs.cons (SS.for (SI.range E.ok E.range (by rfl) (by rfl) (SL.cons (SE.name (by rfl) (by rfl)) (SL.cons (SE.ofP (SP.len E.ok E.len (by rfl) (by rfl) (by rfl) (by rfl))) SL.nil))) (SSs.cons (SS.if (ST.cmp neI_ok (SE.atV (SE.at (by rfl) (by rfl) (SP.name (by rfl) (by rfl))) (SP.name (by rfl) (by rfl))) SE.int) (SSs.cons (SS.ret (SE.name (by rfl) (by rfl))) SSs.nil) SSs.nil) SSs.nil) (by rfl)) (SSs.cons (SS.ret (SE.neg SE.int)) SSs.nil))
noncomputable def k_pivot_row : List T → Option T := funC 3 1 b_pivot_row
theorem c_pivot_row {G : Glo} (E : En G) : CallP G "pivot_row" 1 k_pivot_row := fun_ok E.ok (E.fn 40 (by decide)) fo_pivot_row (p_pivot_row E)

noncomputable def F_clear_below : FRec := frec 41
noncomputable def vs_clear_below : List Str := ["work", "done", "column", "p", "turn", "at", "number"]
theorem fo_clear_below : FunOk F_clear_below vs_clear_below ["work", "done", "column", "p"] := ⟨by rfl, by rfl, by rfl, by decide +kernel, by decide +kernel, by decide +kernel, fun _ _ _ => len4 fun _ _ _ _ => rfl⟩
noncomputable def b_clear_below : SemS := (seqC (assignC 4 (froC (callC f_inverse_mod (consC (atC (atP 0 (nameP 1)) (nameP 2)) (consC (nameC 3) nilC))))) (seqC (forS 5 (rangeIt (consC (binC addI (nameC 1) (constC (.int 1))) (consC (pureC (lenP 0)) nilC))) (seqC (assignC 6 (froC (binC modI (binC mulI (atC (atP 0 (nameP 5)) (nameP 2)) (nameC 4)) (nameC 3)))) (seqC (iffC (cmpC neI (nameC 6) (constC (.int 0))) (seqC (setC 0 (nameP 5) (iceC (ownC (compPC 7 (zipIt (consC (atP 0 (nameP 5)) (consC (atP 0 (nameP 1)) nilC))) (binC modI (binC subI (nameC 7) (binC mulI (nameC 6) (nameC 8))) (nameC 3)))))) skipC) skipC) skipC))) skipC))
theorem p_clear_below {G : Glo} (E : En G) : SR2 G ⟨F_clear_below.scope, vs_clear_below.zipIdx, 2, vs_clear_below.length⟩ 0 (execs F_clear_below.body) b_clear_below := (SR2.cons (SR2.assign (SX.ofE (SE.callP E.ok (cf_inverse_mod E) (by decide) (by rfl) (by rfl) (SL.cons (SE.atV (SE.at (by rfl) (by rfl) (SP.name (by rfl) (by rfl))) (SP.name (by rfl) (by rfl))) (SL.cons (SE.name (by rfl) (by rfl)) SL.nil)))) (by rfl) (by rfl)) (SR2.cons (SR2.for (SI.range E.ok E.range (by rfl) (by rfl) (SL.cons (SE.bin addI_ok (SE.name (by rfl) (by rfl)) SE.int) (SL.cons (SE.ofP (SP.len E.ok E.len (by rfl) (by rfl) (by rfl) (by rfl))) SL.nil))) (SR2.cons (SR2.assign (SX.ofE (SE.bin modI_ok (SE.bin mulI_ok (SE.atV (SE.at (by rfl) (by rfl) (SP.name (by rfl) (by rfl))) (SP.name (by rfl) (by rfl))) (SE.name (by rfl) (by rfl))) (SE.name (by rfl) (by rfl)))) (by rfl) (by rfl)) (SR2.cons (SR2.if (ST.cmp neI_ok (SE.name (by rfl) (by rfl)) SE.int) (SR2.cons (SR2.set (SE.ofX (SX.comp (SC.compP (sl' := [("one", 7), ("other", 8), ("p", 3), ("number", 6)]) (SI2.zip E.ok E.zip (by rfl) (by rfl) (SL.cons (SE.at (by rfl) (by rfl) (SP.name (by rfl) (by rfl))) (SL.cons (SE.at (by rfl) (by rfl) (SP.name (by rfl) (by rfl))) SL.nil))) (by decide +kernel) (by rfl) (by rfl) (by decide +kernel) (by rfl) (by rfl) (SE.bin modI_ok (SE.bin subI_ok (SE.name (by rfl) (by rfl)) (SE.bin mulI_ok (SE.name (by rfl) (by rfl)) (SE.name (by rfl) (by rfl)))) (SE.name (by rfl) (by rfl)))))) (by rfl) (by rfl) (SP.name (by rfl) (by rfl))) SR2.nil) SR2.nil) SR2.nil)) (by rfl) (by rfl)) SR2.nil))
noncomputable def k_clear_below : List T → List Int → Option (List T) := mutF 4 5 b_clear_below
theorem c_clear_below {G : Glo} (E : En G) : CallM G "clear_below" 3 k_clear_below := mut_ok E.ok (E.fn 41 (by decide)) fo_clear_below (p_clear_below E)

noncomputable def F_null_space : FRec := frec 39
noncomputable def vs_null_space : List Str := ["rows", "p", "many", "work", "wide", "done", "column", "pivot"]
theorem fo_null_space : FunOk F_null_space vs_null_space ["rows", "p"] := ⟨by rfl, by rfl, by rfl, by decide +kernel, by decide +kernel, by decide +kernel, fun _ _ _ => len2 fun _ _ => rfl⟩
noncomputable def b_null_space : SemS := (seqC (assignC 2 (froC (pureC (lenP 0)))) (seqC (assignC 3 (ownC (compPC 8 (enumIt (consC (nameC 0) nilC)) (iceC (addX (iceC (callX listF (consC (nameC 9) nilC))) (iceC (ownC (compC 10 (rangeIt (consC (nameC 2) nilC)) (callC intF (consC (boolC (cmpC eqI (nameC 10) (nameC 8))) nilC)))))))))) (seqC (unpackC [4, 5] (tupC (consC (ifC (cmpC gtI (nameC 2) (constC (.int 0))) (callC lenF (consC (atP 0 (constP 0)) nilC)) (constC (.int 0))) (consC (constC (.int 0)) nilC)))) (seqC (forS 6 (rangeIt (consC (nameC 4) nilC)) (seqC (assignC 7 (froC (borrowC k_pivot_row 3 (consPL (nameP 5) (consPL (nameP 6) nilPL))))) (seqC (iffC (cmpC geI (nameC 7) (constC (.int 0))) (seqC (swapSub2 3 (tupC (consC (atP 3 (nameP 7)) (consC (atP 3 (nameP 5)) nilC))) (nameP 5) (nameP 7)) (seqC (mutC k_clear_below 3 (consPL (nameP 5) (consPL (nameP 6) (consPL (nameP 1) nilPL)))) (seqC (assignC 5 (froC (binC addI (nameC 5) (constC (.int 1))))) skipC))) skipC) skipC))) (seqC (retC (iceC (ownC (compC 8 (listIt (iceC (sliceC (nameC 3) (some (nameP 5)) none))) (iceC (sliceC (nameC 8) (some (nameP 4)) none)))))) skipC)))))
theorem p_null_space {G : Glo} (E : En G) : SSs G ⟨F_null_space.scope, vs_null_space.zipIdx, 3, vs_null_space.length⟩ F_null_space.body b_null_space := (SSs.cons (SS.assign (SX.ofE (SE.ofP (SP.len E.ok E.len (by rfl) (by rfl) (by rfl) (by rfl)))) (by rfl)) (SSs.cons (SS.assignComp (SC.compP (sl' := [("at", 8), ("row", 9), ("many", 2)]) (SI2.enum E.ok E.enumerate (by rfl) (by rfl) (SL.cons (SE.name (by rfl) (by rfl)) SL.nil)) (by decide +kernel) (by rfl) (by rfl) (by decide +kernel) (by rfl) (by rfl) (SE.ofX (SX.add (SE.ofX (SX.callL E.ok E.list (.type _) listF_ok (by rfl) (by rfl) (SL.cons (SE.name (by rfl) (by rfl)) SL.nil))) (SE.ofX (SX.comp (SC.comp (sl' := [("spot", 10), ("at", 8)]) (SI.range E.ok E.range (by rfl) (by rfl) (SL.cons (SE.name (by rfl) (by rfl)) SL.nil)) (by decide +kernel) (by rfl) (by rfl) (SE.callI E.ok E.int (.type _) intF_ok (by rfl) (by rfl) (SL.cons (SE.cmp eqI_ok (SE.name (by rfl) (by rfl)) (SE.name (by rfl) (by rfl))) SL.nil)))))))) (by rfl) (by intro e h; cases e; cases h; rfl)) (SSs.cons (SS.unpack (SE.tuple (SL.cons (SE.ifExp (ST.cmp gtI_ok (SE.name (by rfl) (by rfl)) SE.int) (SE.callI E.ok E.len (.builtin _) lenF_ok (by rfl) (by rfl) (SL.cons (SE.at (by rfl) (by rfl) SP.int) SL.nil)) SE.int) (SL.cons SE.int SL.nil))) (.cons (by rfl) (.cons (by rfl) .nil)) (hw := (by intro e h; cases e; cases h; rfl))) (SSs.cons (SS.for (SI.range E.ok E.range (by rfl) (by rfl) (SL.cons (SE.name (by rfl) (by rfl)) SL.nil)) (SSs.cons (SS.assign (SX.ofE (SE.borrow E.ok (c_pivot_row E) (by decide) (by rfl) (by rfl) (by rfl) (by rfl) (SPL.cons (SP.name (by rfl) (by rfl)) (SPL.cons (SP.name (by rfl) (by rfl)) SPL.nil)))) (by rfl)) (SSs.cons (SS.if (ST.cmp geI_ok (SE.name (by rfl) (by rfl)) SE.int) (SSs.cons (SS.swapSub (SE.tuple (SL.cons (SE.at (by rfl) (by rfl) (SP.name (by rfl) (by rfl))) (SL.cons (SE.at (by rfl) (by rfl) (SP.name (by rfl) (by rfl))) SL.nil))) (by rfl) (by rfl) (by rfl) (by rfl) (SP.name (by rfl) (by rfl)) (SP.name (by rfl) (by rfl)) (hw := (by intro e h; cases e; cases h; rfl))) (SSs.cons (SS.mutate E.ok (c_clear_below E) (by decide) (by rfl) (by rfl) (by rfl) (by rfl) (SPL.cons (SP.name (by rfl) (by rfl)) (SPL.cons (SP.name (by rfl) (by rfl)) (SPL.cons (SP.name (by rfl) (by rfl)) SPL.nil)))) (SSs.cons (SS.assign (SX.ofE (SE.bin addI_ok (SE.name (by rfl) (by rfl)) SE.int)) (by rfl)) SSs.nil))) SSs.nil) SSs.nil)) (by rfl)) (SSs.cons (SS.ret (SE.ofX (SX.comp (SC.comp (sl' := [("row", 8), ("wide", 4)]) (SI.list (SE.ofX (SX.slice (fl := (some (nameP 5))) (fh := none) (SE.name (by rfl) (by rfl)) (SP.name (by rfl) (by rfl)) trivial))) (by decide +kernel) (by rfl) (by rfl) (SE.ofX (SX.slice (fl := (some (nameP 4))) (fh := none) (SE.name (by rfl) (by rfl)) (SP.name (by rfl) (by rfl)) trivial)))))) SSs.nil)))))
noncomputable def k_null_space : List T → Option T := funC 2 9 b_null_space
theorem c_null_space {G : Glo} (E : En G) : CallP G "null_space" 4 k_null_space := fun_ok E.ok (E.fn 39 (by decide)) fo_null_space (p_null_space E)

noncomputable def F_count_factors : FRec := frec 42
noncomputable def vs_count_factors : List Str := ["f", "p"]
theorem fo_count_factors : FunOk F_count_factors vs_count_factors ["f", "p"] := ⟨by rfl, by rfl, by rfl, by decide +kernel, by decide +kernel, by decide +kernel, fun _ _ _ => len2 fun _ _ => rfl⟩
noncomputable def b_count_factors : SemS := (seqC (retC (callC lenF (consC (callC k_null_space (consC (callC k_berlekamp_matrix (consC (nameC 0) (consC (nameC 1) nilC))) (consC (nameC 1) nilC))) nilC))) skipC)
theorem p_count_factors {G : Glo} (E : En G) : SSs G ⟨F_count_factors.scope, vs_count_factors.zipIdx, 6, vs_count_factors.length⟩ F_count_factors.body b_count_factors := (SSs.cons (SS.ret (SE.callI E.ok E.len (.builtin _) lenF_ok (by rfl) (by rfl) (SL.cons (SE.callP E.ok (c_null_space E) (by decide) (by rfl) (by rfl) (SL.cons (SE.callP E.ok (c_berlekamp_matrix E) (by decide) (by rfl) (by rfl) (SL.cons (SE.name (by rfl) (by rfl)) (SL.cons (SE.name (by rfl) (by rfl)) SL.nil))) (SL.cons (SE.name (by rfl) (by rfl)) SL.nil))) SL.nil))) SSs.nil)
noncomputable def k_count_factors : List T → Option T := funC 2 0 b_count_factors
theorem c_count_factors {G : Glo} (E : En G) : CallP G "count_factors" 7 k_count_factors := fun_ok E.ok (E.fn 42 (by decide)) fo_count_factors (p_count_factors E)
end Mine

namespace Mine
open PySem PySem.W PyProof.Rows PySem.Calls
noncomputable def F__law_all : FRec := frec 49
noncomputable def vs__law_all : List Str := ["many", "p", "rows", "turn"]
theorem fo__law_all : FunOk F__law_all vs__law_all ["many", "p"] := ⟨by rfl, by rfl, by rfl, by decide +kernel, by decide +kernel, by decide +kernel, fun _ _ _ => len2 fun _ _ => rfl⟩
noncomputable def b__law_all : SemS := (seqC (assignC 2 (listC (consC (iceC (listC nilC)) nilC))) (seqC (forS 3 (rangeIt (consC (nameC 0) nilC)) (seqC (assignC 2 (ownC (prodC 4 (listIt (nameC 2)) (rangeIt (consC (nameC 1) nilC)) (iceC (addX (nameC 4) (iceC (listC (consC (nameC 5) nilC)))))))) skipC)) (seqC (retC (nameC 2)) skipC)))
theorem p__law_all {G : Glo} (E : En G) : SSs G ⟨F__law_all.scope, vs__law_all.zipIdx, 0, vs__law_all.length⟩ F__law_all.body b__law_all := (SSs.cons (SS.assign (SX.list (SL.cons (SE.ofX (SX.list SL.nil)) SL.nil)) (by rfl)) (SSs.cons (SS.for (SI.range E.ok E.range (by rfl) (by rfl) (SL.cons (SE.name (by rfl) (by rfl)) SL.nil)) (SSs.cons (SS.assignComp (SC.prod (sl' := [("row", 4), ("one", 5), ("p", 1)]) (SI.list (SE.name (by rfl) (by rfl))) (SI.range E.ok E.range (by rfl) (by rfl) (SL.cons (SE.name (by rfl) (by rfl)) SL.nil)) (by decide +kernel) (by rfl) (by rfl) (by decide +kernel) (by rfl) (by rfl) (SE.ofX (SX.add (SE.name (by rfl) (by rfl)) (SE.ofX (SX.list (SL.cons (SE.name (by rfl) (by rfl)) SL.nil)))))) (by rfl) (by intro e h; cases e; cases h; rfl)) SSs.nil) (by rfl)) (SSs.cons (SS.ret (SE.name (by rfl) (by rfl))) SSs.nil)))
noncomputable def k__law_all : List T → Option T := funC 2 4 b__law_all
theorem c__law_all {G : Glo} (E : En G) : CallP G "_law_all" 1 k__law_all := fun_ok E.ok (E.fn 49 (by decide)) fo__law_all (p__law_all E)

noncomputable def F__law_take : FRec := frec 44
noncomputable def vs__law_take : List Str := ["box", "many"]
theorem fo__law_take : FunOk F__law_take vs__law_take ["box", "many"] := ⟨by rfl, by rfl, by rfl, by decide +kernel, by decide +kernel, by decide +kernel, fun _ _ _ => len2 fun _ _ => rfl⟩
noncomputable def b__law_take : SemS := (seqC (boxIncC 0) (seqC (iffC (boxAnyC 0) (seqC (retC (binC modI (boxPopC 0) (nameC 1))) skipC) skipC) (seqC (retC (binC modI (binC addI (binC mulI (constC (.int 7)) (boxNumC 0)) (binC divI (boxNumC 0) (constC (.int 3)))) (nameC 1))) skipC)))
theorem p__law_take {G : Glo} (E : En G) : SR2 G ⟨F__law_take.scope, vs__law_take.zipIdx, 0, vs__law_take.length⟩ 0 (execs F__law_take.body) b__law_take := (SR2.cons (SR2.boxInc (by rfl) (by rfl)) (SR2.cons (SR2.if (ST.boxAny (by rfl) (by rfl)) (SR2.cons (SR2.ret (SE.bin modI_ok (SE.boxPop (by rfl) (by rfl) (by rfl)) (SE.name (by rfl) (by rfl)))) SR2.nil) SR2.nil) (SR2.cons (SR2.ret (SE.bin modI_ok (SE.bin addI_ok (SE.bin mulI_ok SE.int (SE.boxNum (by rfl) (by rfl))) (SE.bin divI_ok (SE.boxNum (by rfl) (by rfl)) SE.int)) (SE.name (by rfl) (by rfl)))) SR2.nil)))
noncomputable def k__law_take : List Int → Int → Int → Option (Int × List Int × Int) := takeOf b__law_take
theorem c__law_take {G : Glo} (E : En G) : CallTk G "_law_take" 1 k__law_take := take_ok E.ok (E.fn 44 (by decide)) fo__law_take rfl (p__law_take E)

noncomputable def F__law_drawn : FRec := frec 48
noncomputable def vs__law_drawn : List Str := ["box", "p", "room", "f", "turn", "many"]
theorem fo__law_drawn : FunOk F__law_drawn vs__law_drawn ["box", "p", "room"] := ⟨by rfl, by rfl, by rfl, by decide +kernel, by decide +kernel, by decide +kernel, fun _ _ _ => len3 fun _ _ _ => rfl⟩
noncomputable def b__law_drawn : SemS := (seqC (assignC 3 (listC (consC (constC (.int 1)) nilC))) (seqC (forS 4 (rangeIt (consC (binC addI (constC (.int 1)) (takeC k__law_take 0 (constC (.int 3)))) nilC)) (seqC (iffC (cmpC gtI (nameC 2) (constC (.int 0))) (seqC (assignC 5 (froC (binC addI (constC (.int 1)) (takeC k__law_take 0 (callC minF (consC (constC (.int 2)) (consC (nameC 2) nilC))))))) (seqC (assignC 3 (froC (callC f__law_times (consC (nameC 3) (consC (iceC (addX (iceC (ownC (compC 6 (rangeIt (consC (nameC 5) nilC)) (takeC k__law_take 0 (nameC 1))))) (iceC (listC (consC (constC (.int 1)) nilC))))) (consC (nameC 1) nilC)))))) (seqC (assignC 2 (froC (binC subI (nameC 2) (nameC 5)))) skipC))) skipC) skipC)) (seqC (retC (nameC 3)) skipC)))
theorem p__law_drawn {G : Glo} (E : En G) : SSs G ⟨F__law_drawn.scope, vs__law_drawn.zipIdx, 1, vs__law_drawn.length⟩ F__law_drawn.body b__law_drawn := (SSs.cons (SS.assign (SX.list (SL.cons SE.int SL.nil)) (by rfl)) (SSs.cons (SS.for (SI.range E.ok E.range (by rfl) (by rfl) (SL.cons (SE.bin addI_ok SE.int (SE.take E.ok (c__law_take E) (by decide) (by rfl) (by rfl) (by rfl) (by rfl) SE.int)) SL.nil)) (SSs.cons (SS.if (ST.cmp gtI_ok (SE.name (by rfl) (by rfl)) SE.int) (SSs.cons (SS.assign (SX.ofE (SE.bin addI_ok SE.int (SE.take E.ok (c__law_take E) (by decide) (by rfl) (by rfl) (by rfl) (by rfl) (SE.callI E.ok E.min (.builtin _) minF_ok (by rfl) (by rfl) (SL.cons SE.int (SL.cons (SE.name (by rfl) (by rfl)) SL.nil)))))) (by rfl)) (SSs.cons (SS.assign (SX.ofE (SE.callP E.ok (cf__law_times E) (by decide) (by rfl) (by rfl) (SL.cons (SE.name (by rfl) (by rfl)) (SL.cons (SE.ofX (SX.add (SE.ofX (SX.comp (SC.comp (sl' := [("at", 6), ("box", 0), ("p", 1)]) (SI.range E.ok E.range (by rfl) (by rfl) (SL.cons (SE.name (by rfl) (by rfl)) SL.nil)) (by decide +kernel) (by rfl) (by rfl) (SE.take E.ok (c__law_take E) (by decide) (by rfl) (by rfl) (by rfl) (by rfl) (SE.name (by rfl) (by rfl)))))) (SE.ofX (SX.list (SL.cons SE.int SL.nil))))) (SL.cons (SE.name (by rfl) (by rfl)) SL.nil))))) (by rfl)) (SSs.cons (SS.assign (SX.ofE (SE.bin subI_ok (SE.name (by rfl) (by rfl)) (SE.name (by rfl) (by rfl)))) (by rfl)) SSs.nil))) SSs.nil) SSs.nil) (by rfl)) (SSs.cons (SS.ret (SE.name (by rfl) (by rfl))) SSs.nil)))
noncomputable def k__law_drawn : List Int → Int → List Int → Option T := boxF 3 4 b__law_drawn
theorem c__law_drawn {G : Glo} (E : En G) : CallB G "_law_drawn" 2 k__law_drawn := box_ok E.ok (E.fn 48 (by decide)) fo__law_drawn (p__law_drawn E)

noncomputable def F_law : FRec := frec 52
noncomputable def vs_law : List Str := ["script", "box", "p", "room", "f", "many", "own", "fixed", "gone", "units", "a", "way", "lead", "parts", "due_gone", "due_units", "prime", "times", "whole", "lost"]
theorem fo_law : FunOk F_law vs_law ["script"] := ⟨by rfl, by rfl, by rfl, by decide +kernel, by decide +kernel, by decide +kernel, fun _ _ _ => len1 fun _ => rfl⟩
noncomputable def b_law1 : SemS := (boxNewC 1 (ownC (compC 20 (listIt (iceC (sliceExtC 0 (constP 40)))) (callC absF (consC (callC intF (consC (nameC 20) nilC)) nilC)))) 0)
noncomputable def b_law2 : SemS := (unpackC [2, 3] (atI (iceC (listC (consC (tupC (consC (constC (.int 2)) (consC (constC (.int 4)) nilC))) (consC (tupC (consC (constC (.int 3)) (consC (constC (.int 3)) nilC))) (consC (tupC (consC (constC (.int 5)) (consC (constC (.int 2)) nilC))) nilC))))) (takeC k__law_take 1 (constC (.int 3)))))
noncomputable def b_law3 : SemS := (assignC 4 (froC (drawnC k__law_drawn 1 (consPL (nameP 2) (consPL (nameP 3) nilPL)))))
noncomputable def b_law4 : SemS := (unpackC [5, 6, 7, 8, 9] (tupC (consC (binC subI (pureC (lenP 4)) (constC (.int 1))) (consC (constC (.int 0)) (consC (constC (.int 0)) (consC (constC (.int 0)) (consC (constC (.int 0)) nilC)))))))
noncomputable def b_law5 : SemS := (seqC (assignC 6 (froC (binC addI (nameC 6) (callC intF (consC (boolC (cmpC eqL (callC k__law_power (consC (nameC 10) (consC (constC (.int 2)) (consC (nameC 4) (consC (nameC 2) nilC))))) (nameC 10))) nilC))))) (seqC (assignC 7 (froC (binC addI (nameC 7) (callC intF (consC (boolC (cmpC eqL (callC k__law_power (consC (nameC 10) (consC (nameC 2) (consC (nameC 4) (consC (nameC 2) nilC))))) (nameC 10))) nilC))))) (seqC (assignC 8 (froC (binC addI (nameC 8) (callC intF (consC (boolC (cmpC eqL (callC k__law_cut (consC (callC k__law_power (consC (nameC 10) (consC (nameC 5) (consC (nameC 4) (consC (nameC 2) nilC))))) nilC)) (iceC (listC nilC)))) nilC))))) (seqC (assignC 11 (froC (callC k__law_inverse_right (consC (nameC 10) (consC (nameC 4) (consC (nameC 2) nilC)))))) (seqC (iffC (cmpC ltI (nameC 11) (constC (.int 0))) (seqC (retC (constC (.bool false))) skipC) skipC) (seqC (assignC 9 (froC (binC addI (nameC 9) (nameC 11)))) skipC))))))
noncomputable def i_law : SemL := (listIt (callC k__law_all (consC (nameC 5) (consC (nameC 2) nilC))))
noncomputable def b_lawR : SemS := (seqC (unpackC [12, 13] (callC k_mfactor (consC (nameC 4) (consC (nameC 2) nilC)))) (seqC (unpackC [14, 15] (tupC (consC (constC (.int 1)) (consC (constC (.int 1)) nilC)))) (seqC (forPS 16 17 (pairsIt (nameC 13)) (seqC (swap2C 18 19 (froC (binC powI (nameC 2) (binC mulI (binC subI (pureC (lenP 16)) (constC (.int 1))) (nameC 17)))) (froC (binC powI (nameC 2) (binC mulI (binC subI (pureC (lenP 16)) (constC (.int 1))) (binC subI (nameC 17) (constC (.int 1))))))) (seqC (swap2C 14 15 (froC (binC mulI (nameC 14) (nameC 19))) (froC (binC mulI (nameC 15) (binC subI (nameC 18) (nameC 19))))) skipC))) (seqC (iffC (orC (cmpC neL (tupC (consC (nameC 6) (consC (nameC 7) (consC (nameC 8) (consC (nameC 9) nilC))))) (tupC (consC (binC powI (constC (.int 2)) (pureC (lenP 13))) (consC (binC powI (nameC 2) (pureC (lenP 13))) (consC (nameC 14) (consC (nameC 15) nilC)))))) (cmpC neI (nameC 12) (constC (.int 1)))) (seqC (retC (constC (.bool false))) skipC) skipC) (seqC (retC (orV (boolC (cmpC gtI (nameC 14) (constC (.int 1)))) (boolC (cmpC eqI (callC k_count_factors (consC (nameC 4) (consC (nameC 2) nilC))) (pureC (lenP 13)))))) skipC)))))
noncomputable def b_lawT : SemS := (seqC b_law4 (seqC (forS 10 i_law b_law5) (fun σ => (fun σ => b_lawR (σ.set 11 .un)) (σ.set 10 .un))))
noncomputable def b_law : SemS := seqC b_law1 (seqC b_law2 (seqC b_law3 (fun σ => (fun σ => (fun σ => b_lawT (σ.set 3 .un)) (σ.set 1 .un)) (σ.set 0 .un))))
theorem p_law4 {G : Glo} (E : En G) : SS G ⟨F_law.scope, vs_law.zipIdx, 14, vs_law.length⟩ (F_law.body[3]) b_law4 := (SS.unpack (SE.tuple (SL.cons (SE.bin subI_ok (SE.ofP (SP.len E.ok E.len (by rfl) (by rfl) (by rfl) (by rfl))) SE.int) (SL.cons SE.int (SL.cons SE.int (SL.cons SE.int (SL.cons SE.int SL.nil)))))) (.cons (by rfl) (.cons (by rfl) (.cons (by rfl) (.cons (by rfl) (.cons (by rfl) .nil))))) (hw := (by intro e h; cases e; cases h; rfl)))
theorem p_law5 {G : Glo} (E : En G) : SS G ⟨F_law.scope, vs_law.zipIdx, 14, vs_law.length⟩ (F_law.body[4]) (forS 10 i_law b_law5) := SS.for (SI.list (SE.callP E.ok (c__law_all E) (by decide) (by rfl) (by rfl) (SL.cons (SE.name (by rfl) (by rfl)) (SL.cons (SE.name (by rfl) (by rfl)) SL.nil)))) (SSs.cons (SS.assign (SX.ofE (SE.bin addI_ok (SE.name (by rfl) (by rfl)) (SE.callI E.ok E.int (.type _) intF_ok (by rfl) (by rfl) (SL.cons (SE.cmp eqL_ok (SE.callP E.ok (c__law_power E) (by decide) (by rfl) (by rfl) (SL.cons (SE.name (by rfl) (by rfl)) (SL.cons SE.int (SL.cons (SE.name (by rfl) (by rfl)) (SL.cons (SE.name (by rfl) (by rfl)) SL.nil))))) (SE.name (by rfl) (by rfl))) SL.nil)))) (by rfl)) (SSs.cons (SS.assign (SX.ofE (SE.bin addI_ok (SE.name (by rfl) (by rfl)) (SE.callI E.ok E.int (.type _) intF_ok (by rfl) (by rfl) (SL.cons (SE.cmp eqL_ok (SE.callP E.ok (c__law_power E) (by decide) (by rfl) (by rfl) (SL.cons (SE.name (by rfl) (by rfl)) (SL.cons (SE.name (by rfl) (by rfl)) (SL.cons (SE.name (by rfl) (by rfl)) (SL.cons (SE.name (by rfl) (by rfl)) SL.nil))))) (SE.name (by rfl) (by rfl))) SL.nil)))) (by rfl)) (SSs.cons (SS.assign (SX.ofE (SE.bin addI_ok (SE.name (by rfl) (by rfl)) (SE.callI E.ok E.int (.type _) intF_ok (by rfl) (by rfl) (SL.cons (SE.cmp eqL_ok (SE.callP E.ok (c__law_cut E) (by decide) (by rfl) (by rfl) (SL.cons (SE.callP E.ok (c__law_power E) (by decide) (by rfl) (by rfl) (SL.cons (SE.name (by rfl) (by rfl)) (SL.cons (SE.name (by rfl) (by rfl)) (SL.cons (SE.name (by rfl) (by rfl)) (SL.cons (SE.name (by rfl) (by rfl)) SL.nil))))) SL.nil)) (SE.ofX (SX.list SL.nil))) SL.nil)))) (by rfl)) (SSs.cons (SS.assign (SX.ofE (SE.callP E.ok (c__law_inverse_right E) (by decide) (by rfl) (by rfl) (SL.cons (SE.name (by rfl) (by rfl)) (SL.cons (SE.name (by rfl) (by rfl)) (SL.cons (SE.name (by rfl) (by rfl)) SL.nil))))) (by rfl)) (SSs.cons (SS.if (ST.cmp ltI_ok (SE.name (by rfl) (by rfl)) SE.int) (SSs.cons (SS.ret SE.bool) SSs.nil) SSs.nil) (SSs.cons (SS.assign (SX.ofE (SE.bin addI_ok (SE.name (by rfl) (by rfl)) (SE.name (by rfl) (by rfl)))) (by rfl)) SSs.nil)))))) (by rfl)
theorem p_lawR {G : Glo} (E : En G) : SSs G ⟨F_law.scope, vs_law.zipIdx, 14, vs_law.length⟩ (F_law.body.drop 5) b_lawR := (SSs.cons (SS.unpack (SE.callP E.ok (c_mfactor E) (by decide) (by rfl) (by rfl) (SL.cons (SE.name (by rfl) (by rfl)) (SL.cons (SE.name (by rfl) (by rfl)) SL.nil))) (.cons (by rfl) (.cons (by rfl) .nil)) (hw := (by intro e h; cases e; cases h; rfl))) (SSs.cons (SS.unpack (SE.tuple (SL.cons SE.int (SL.cons SE.int SL.nil))) (.cons (by rfl) (.cons (by rfl) .nil)) (hw := (by intro e h; cases e; cases h; rfl))) (SSs.cons (SS.forP (SI2.pairs (SE.name (by rfl) (by rfl))) (SSs.cons (SS.swap2 (SX.ofE (SE.bin powI_ok (SE.name (by rfl) (by rfl)) (SE.bin mulI_ok (SE.bin subI_ok (SE.ofP (SP.len E.ok E.len (by rfl) (by rfl) (by rfl) (by rfl))) SE.int) (SE.name (by rfl) (by rfl))))) (SX.ofE (SE.bin powI_ok (SE.name (by rfl) (by rfl)) (SE.bin mulI_ok (SE.bin subI_ok (SE.ofP (SP.len E.ok E.len (by rfl) (by rfl) (by rfl) (by rfl))) SE.int) (SE.bin subI_ok (SE.name (by rfl) (by rfl)) SE.int)))) (by rfl) (by rfl) (hw := (by intro e h; cases e; cases h; rfl))) (SSs.cons (SS.swap2 (SX.ofE (SE.bin mulI_ok (SE.name (by rfl) (by rfl)) (SE.name (by rfl) (by rfl)))) (SX.ofE (SE.bin mulI_ok (SE.name (by rfl) (by rfl)) (SE.bin subI_ok (SE.name (by rfl) (by rfl)) (SE.name (by rfl) (by rfl))))) (by rfl) (by rfl) (hw := (by intro e h; cases e; cases h; rfl))) SSs.nil)) (by rfl) (by rfl)) (SSs.cons (SS.if (ST.or (ST.cmp neL_ok (SE.tuple (SL.cons (SE.name (by rfl) (by rfl)) (SL.cons (SE.name (by rfl) (by rfl)) (SL.cons (SE.name (by rfl) (by rfl)) (SL.cons (SE.name (by rfl) (by rfl)) SL.nil))))) (SE.tuple (SL.cons (SE.bin powI_ok SE.int (SE.ofP (SP.len E.ok E.len (by rfl) (by rfl) (by rfl) (by rfl)))) (SL.cons (SE.bin powI_ok (SE.name (by rfl) (by rfl)) (SE.ofP (SP.len E.ok E.len (by rfl) (by rfl) (by rfl) (by rfl)))) (SL.cons (SE.name (by rfl) (by rfl)) (SL.cons (SE.name (by rfl) (by rfl)) SL.nil)))))) (ST.cmp neI_ok (SE.name (by rfl) (by rfl)) SE.int)) (SSs.cons (SS.ret SE.bool) SSs.nil) SSs.nil) (SSs.cons (SS.ret (SE.or (SE.cmp gtI_ok (SE.name (by rfl) (by rfl)) SE.int) (SE.cmp eqI_ok (SE.callP E.ok (c_count_factors E) (by decide) (by rfl) (by rfl) (SL.cons (SE.name (by rfl) (by rfl)) (SL.cons (SE.name (by rfl) (by rfl)) SL.nil))) (SE.ofP (SP.len E.ok E.len (by rfl) (by rfl) (by rfl) (by rfl)))))) SSs.nil)))))
theorem p_lawT {G : Glo} (E : En G) : SSs G ⟨F_law.scope, vs_law.zipIdx, 14, vs_law.length⟩ (F_law.body.drop 3) b_lawT := SSs.cons (p_law4 E) (SSs.cons (p_law5 E) (SR.forget 10 (SR.forget 11 (p_lawR E))))
theorem p_lawF {G : Glo} (E : En G) : SSs G ⟨F_law.scope, vs_law.zipIdx, 14, vs_law.length⟩ (F_law.body.drop 3) (fun σ => (fun σ => (fun σ => b_lawT (σ.set 3 .un)) (σ.set 1 .un)) (σ.set 0 .un)) := SR.forget 0 (SR.forget 1 (SR.forget 3 (p_lawT E)))
set_option maxHeartbeats 4000000 in
theorem p_law1 {G : Glo} (E : En G) : SS G ⟨F_law.scope, vs_law.zipIdx, 14, vs_law.length⟩ (F_law.body[0]) b_law1 := (SS.boxNew (SX.comp (SC.comp (sl' := [("one", 20)]) (SI.list (SE.ofX (SX.sliceExt (by rfl) (by rfl) SP.int))) (by decide +kernel) (by rfl) (by rfl) (SE.callI E.ok E.abs (.builtin _) absF_ok (by rfl) (by rfl) (SL.cons (SE.callI E.ok E.int (.type _) intF_ok (by rfl) (by rfl) (SL.cons (SE.name (by rfl) (by rfl)) SL.nil)) SL.nil)))) (by rfl))
set_option maxHeartbeats 4000000 in
theorem p_law2 {G : Glo} (E : En G) : SS G ⟨F_law.scope, vs_law.zipIdx, 14, vs_law.length⟩ (F_law.body[1]) b_law2 := (SS.unpackSub (SE.atCall (SE.ofX (SX.list (SL.cons (SE.tuple (SL.cons SE.int (SL.cons SE.int SL.nil))) (SL.cons (SE.tuple (SL.cons SE.int (SL.cons SE.int SL.nil))) (SL.cons (SE.tuple (SL.cons SE.int (SL.cons SE.int SL.nil))) SL.nil))))) (SE.take E.ok (c__law_take E) (by decide) (by rfl) (by rfl) (by rfl) (by rfl) SE.int)) (.cons (by rfl) (.cons (by rfl) .nil)))
set_option maxHeartbeats 4000000 in
theorem p_law3 {G : Glo} (E : En G) : SS G ⟨F_law.scope, vs_law.zipIdx, 14, vs_law.length⟩ (F_law.body[2]) b_law3 := (SS.assign (SX.ofE (SE.drawn E.ok (c__law_drawn E) (by decide) (by rfl) (by rfl) (by rfl) (by rfl) (SPL.cons (SP.name (by rfl) (by rfl)) (SPL.cons (SP.name (by rfl) (by rfl)) SPL.nil)))) (by rfl))
set_option maxHeartbeats 4000000 in
theorem p_law {G : Glo} (E : En G) : SSs G ⟨F_law.scope, vs_law.zipIdx, 14, vs_law.length⟩ F_law.body b_law := SSs.cons (p_law1 E) (SSs.cons (p_law2 E) (SSs.cons (p_law3 E) (p_lawF E)))
end Mine

namespace Mine
open PySem PySem.W PyProof.Rows PySem.Calls
noncomputable def b2i (b : Bool) : Int := if b then 1 else 0
structure Tally where
  own : Int
  fixed : Int
  gone : Int
  units : Int
noncomputable def resF (p : Int) (f : List Int) (many : Nat) (a : List Int) (c : Tally) : Option Tally :=
  match powL p f a 1 a with
  | some c2 => (match powL p f a (p.toNat - 1) a with
    | some cp => (match powL p f a (many - 1) a with
      | some cm => if cm.length ≤ 900 then (match rightF p f a with
        | some w => if w < 0 then none else some ⟨c.own + b2i (eqInts c2 a), c.fixed + b2i (eqInts cp a), c.gone + b2i (eqInts (trimS cm) []), c.units + w⟩
        | none => none) else none
      | none => none)
    | none => none)
  | none => none
noncomputable def loopF (p : Int) (f : List Int) (many : Nat) : List (List Int) → Tally → Option Tally
  | [], c => some c
  | a :: as, c => match resF p f many a c with
    | some c' => loopF p f many as c'
    | none => none
noncomputable def stOf (p : Int) (f : List Int) (many : Nat) (c : Tally) (s10 s11 : Slot) : List Slot := [.un, .un, .fro (.int p), .un, .fro (ofI f), .fro (.int many), .fro (.int c.own), .fro (.int c.fixed), .fro (.int c.gone), .fro (.int c.units), s10, s11, .un, .un, .un, .un, .un, .un, .un, .un, .un]
theorem e_int {b : Bool} : intF [.bool b] = some (.int (b2i b)) := rfl
theorem e_bool {f : SemB} {b : Bool} {σ σ₁ : List Slot} (h : f σ = some (b, σ₁)) : boolC f σ = some (.bool b, σ₁) := by simp only [boolC, h]
theorem res_step {p : Int} {f a : List Int} {many : Nat} {c c' : Tally} (hp : 0 < p ∧ p ≤ 1000) (hm : 1 ≤ many ∧ many ≤ 1000) (hf : f.length ≤ 900) (s11 : Slot) (h : resF p f many a c = some c') :
    ∃ s11', b_law5 (stOf p f many c (.fro (ofI a)) s11) = some (.next, stOf p f many c' (.fro (ofI a)) s11') := by
  unfold resF at h
  split at h
  · rename_i c2 e2
    split at h
    · rename_i cp ep
      split at h
      · rename_i cm em
        split at h
        · rename_i hcm
          split at h
          · rename_i w ew
            split at h
            · cases h
            · rename_i hw
              cases h
              refine ⟨.fro (.int w), ?_⟩
              have pe : p = ((p.toNat : Nat) : Int) := by omega
              have h2 := k__law_power_eq (p := p) (f := f) (a := a) (many := 2) (by omega) (by omega) e2
              have hpp : k__law_power [ofI a, .int p, ofI f, .int p] = some (ofI cp) := by
                have := k__law_power_eq (p := p) (f := f) (a := a) (many := p.toNat) (by omega) (by omega) ep
                rw [← pe] at this; exact this
              have hmm := k__law_power_eq (p := p) (f := f) (a := a) (many := many) hm.1 hm.2 em
              have hcut := k__law_cut_eq cm hcm
              have hr := k__law_inverse_right_eq hf ew
              refine (e_seq (e_asg (e_fro (e_bin (e_name rfl) (e_call (e_cons (e_bool (e_cmp (e_call (e_cons (e_name rfl) (e_cons rfl (e_cons (e_name rfl) (e_cons (e_name rfl) rfl)))) h2) (e_name rfl) e_eqL)) rfl) e_int) rfl)))).trans ?_
              refine (e_seq (e_asg (e_fro (e_bin (e_name rfl) (e_call (e_cons (e_bool (e_cmp (e_call (e_cons (e_name rfl) (e_cons (e_name rfl) (e_cons (e_name rfl) (e_cons (e_name rfl) rfl)))) hpp) (e_name rfl) e_eqL)) rfl) e_int) rfl)))).trans ?_
              refine (e_seq (e_asg (e_fro (e_bin (e_name rfl) (e_call (e_cons (e_bool (e_cmp (tb := ofI []) (e_call (e_cons (e_call (e_cons (e_name rfl) (e_cons (e_name rfl) (e_cons (e_name rfl) (e_cons (e_name rfl) rfl)))) hmm) rfl) hcut) (e_iceO rfl) e_eqL)) rfl) e_int) rfl)))).trans ?_
              refine (e_seq (e_asg (e_fro (e_call (e_cons (e_name rfl) (e_cons (e_name rfl) (e_cons (e_name rfl) rfl))) hr)))).trans ?_
              refine (e_seq ((e_ifF (e_cmp (e_name rfl) rfl (b := false) (by show some (decide _) = _; rw [decide_eq_false hw]))).trans rfl)).trans ?_
              exact (e_seq (e_asg (e_fro (e_bin (e_name rfl) (e_name rfl) rfl)))).trans rfl
          · cases h
        · cases h
      · cases h
    · cases h
  · cases h
theorem law_loop {p : Int} {f : List Int} {many : Nat} (hp : 0 < p ∧ p ≤ 1000) (hm : 1 ≤ many ∧ many ≤ 1000) (hf : f.length ≤ 900) : ∀ (as : List (List Int)) (c c' : Tally) (s10 s11 : Slot), loopF p f many as c = some c' →
    ∃ s10' s11', forC 10 b_law5 (as.map ofI) (stOf p f many c s10 s11) = some (.next, stOf p f many c' s10' s11')
  | [], c, c', s10, s11, h => by cases h; exact ⟨s10, s11, rfl⟩
  | a :: as, c, c', s10, s11, h => by
    unfold loopF at h
    split at h
    · rename_i c1 e1
      obtain ⟨t11, hs⟩ := res_step hp hm hf s11 e1
      obtain ⟨u10, u11, ih⟩ := law_loop hp hm hf as c1 c' (.fro (ofI a)) t11 h
      exact ⟨u10, u11, (e_forC (σ₁ := stOf p f many c1 (.fro (ofI a)) t11) hs).trans ih⟩
    · cases h

/-! all residues -/
noncomputable def spread (p : Nat) : Nat → List Int
  | 0 => []
  | n + 1 => ((p - (n + 1) : Nat) : Int) :: spread p n
noncomputable def joinAll (r : List Int) (k : List Int) (more : List (List Int)) : List (List Int) := match k with
  | [] => more
  | x :: k => (r ++ [x]) :: joinAll r k more
noncomputable def nextAll (k : List Int) : List (List Int) → List (List Int)
  | [] => []
  | r :: rs => joinAll r k (nextAll k rs)
noncomputable def allS (p : Nat) : Nat → List (List Int)
  | 0 => [[]]
  | n + 1 => nextAll (spread p p) (allS p n)
noncomputable def T2 (l : List (List Int)) : T := .list (l.map ofI)
theorem all21 : k__law_all [.int 1, .int 2] = some (T2 (allS 2 1)) := by kernel_rfl
theorem all22 : k__law_all [.int 2, .int 2] = some (T2 (allS 2 2)) := by kernel_rfl
theorem all23 : k__law_all [.int 3, .int 2] = some (T2 (allS 2 3)) := by kernel_rfl
theorem all24 : k__law_all [.int 4, .int 2] = some (T2 (allS 2 4)) := by kernel_rfl
theorem all31 : k__law_all [.int 1, .int 3] = some (T2 (allS 3 1)) := by kernel_rfl
theorem all32 : k__law_all [.int 2, .int 3] = some (T2 (allS 3 2)) := by kernel_rfl
theorem all33 : k__law_all [.int 3, .int 3] = some (T2 (allS 3 3)) := by kernel_rfl
theorem all51 : k__law_all [.int 1, .int 5] = some (T2 (allS 5 1)) := by kernel_rfl
theorem all52 : k__law_all [.int 2, .int 5] = some (T2 (allS 5 2)) := by kernel_rfl

noncomputable def goodEnd : Option (Out × List Slot) → Bool
  | some (.ret (.bool true), _) => true
  | _ => false
theorem goodEnd_is {x : Option (Out × List Slot)} (h : goodEnd x = true) : ∃ σ', x = some (.ret (.bool true), σ') := by
  unfold goodEnd at h
  split at h
  · exact ⟨_, rfl⟩
  · cases h
/-- the law upon one polynomial -/
noncomputable def caseOk (p : Nat) (f : List Int) : Bool := match loopF p f (f.length - 1) (allS p (f.length - 1)) ⟨0, 0, 0, 0⟩ with
  | some c => goodEnd (b_lawR (stOf p f (f.length - 1) c .un .un))
  | none => false
noncomputable def st0 (p : Int) (f : List Int) : List Slot := [.un, .un, .fro (.int p), .un, .fro (ofI f), .un, .un, .un, .un, .un, .un, .un, .un, .un, .un, .un, .un, .un, .un, .un, .un]
theorem case_ok {p : Nat} {f : List Int} (hp : 0 < p ∧ p ≤ 1000) (hm : 1 ≤ f.length - 1) (hf : f.length ≤ 900) (hall : k__law_all [.int ((f.length - 1 : Nat) : Int), .int p] = some (T2 (allS p (f.length - 1)))) (h : caseOk p f = true) :
    ∃ σ', b_lawT (st0 p f) = some (.ret (.bool true), σ') := by
  unfold caseOk at h
  split at h
  · rename_i c e
    obtain ⟨s10, s11, hl⟩ := law_loop (p := (p : Int)) (f := f) (many := f.length - 1) ⟨by omega, by omega⟩ ⟨hm, by omega⟩ hf (allS p (f.length - 1)) ⟨0, 0, 0, 0⟩ c .un .un e
    obtain ⟨σ', hr⟩ := goodEnd_is h
    refine ⟨σ', ?_⟩
    have hn : ((f.length : Int) - 1) = ((f.length - 1 : Nat) : Int) := by omega
    have s4 : b_law4 (st0 p f) = some (.next, stOf p f (f.length - 1) ⟨0, 0, 0, 0⟩ .un .un) :=
      (e_unpack (ts := [.int ((f.length - 1 : Nat) : Int), .int 0, .int 0, .int 0, .int 0]) (e_tup (e_cons (e_bin (e_pure (e_lenP (a := f) (.inl rfl) (by omega))) rfl (by show some (T.int _) = _; rw [hn])) rfl) (by simp)) rfl).trans rfl
    have s5 : i_law (stOf p f (f.length - 1) ⟨0, 0, 0, 0⟩ .un .un) = some ((allS p (f.length - 1)).map ofI, stOf p f (f.length - 1) ⟨0, 0, 0, 0⟩ .un .un) :=
      e_list (e_call (e_cons (e_name rfl) (e_cons (e_name rfl) rfl)) hall)
    refine (e_seq s4).trans ?_
    refine (e_seq ((e_for s5).trans hl)).trans ?_
    exact hr
  · cases h
end Mine

namespace Mine
open PySem PySem.W PyProof.Rows PySem.Calls
/-! the same without the looks that a bound makes needless -/
theorem trimS_bound {a : List Int} (h : bound a) : bound (trimS a) := by rw [← trimS_take a]; exact bound_take h
theorem addMul_bound {p one : Int} (h0 : 0 < p) (h1 : p ≤ 1000) : ∀ (b F : List Int), bound F → bound (addMul p one b F)
  | [], F, h => h
  | y :: b, [], h => by simp [addMul]; exact h
  | y :: b, v :: F, h => by
    intro x hx
    simp only [addMul, List.mem_cons] at hx
    rcases hx with rfl | hx
    · exact fmod_bound h0 h1
    · exact addMul_bound h0 h1 b F (fun z hz => h z (List.mem_cons_of_mem _ hz)) x hx
theorem foldS_bound {g : Int → List Int → List Int} (hg : ∀ x F, bound F → bound (g x F)) : ∀ (a F : List Int), bound F → bound (foldS g a F)
  | [], F, h => h
  | x :: a, F, h => by
    have h1 := hg x F h
    unfold foldS
    cases e : g x F with
    | nil => intro y hy; cases hy
    | cons v F' =>
      rw [e] at h1
      dsimp only
      intro y hy
      rcases List.mem_cons.mp hy with rfl | hy
      · exact h1 _ List.mem_cons_self
      · exact foldS_bound hg a F' (fun z hz => h1 z (List.mem_cons_of_mem _ hz)) y hy
theorem zeros_bound (n : Nat) : bound (List.replicate n 0) := fun x hx => by rw [List.eq_of_mem_replicate hx]; decide
theorem timesF_bound {p : Int} (h0 : 0 < p) (h1 : p ≤ 1000) (a b : List Int) : bound (timesF p a b) := foldS_bound (fun x F h => addMul_bound h0 h1 b F h) a _ (zeros_bound _)
theorem timesF_len {p : Int} {a b : List Int} (hb : 1 ≤ b.length) : (timesF p a b).length = a.length + b.length - 1 := by
  unfold timesF
  rw [foldS_len (m := b.length) (fun x F hF => addMul_len p x b F hF) hb _ _ (by rw [List.length_replicate]; omega), List.length_replicate]
theorem leftL_bound {p : Int} (h0 : 0 < p) (h1 : p ≤ 1000) (f : List Int) (many : Nat) : ∀ (n : Nat) (row : List Int), bound row → bound (leftL p f many n row)
  | 0, row, h => h
  | n + 1, row, h => by
    unfold leftL
    split
    · exact leftL_bound h0 h1 f many n _ (bound_append (bound_take (bound_take h)) (subMul_bound h0 h1 _ _ (bound_drop (bound_take h))))
    · exact h
theorem leftRow_len {p x : Int} {f : List Int} {many : Nat} (hm : many ≤ f.length) (row : List Int) (h : many < row.length) : ((row.take (row.length - 1)).take (row.length - 1 - many) ++ subMul p x (f.take many) ((row.take (row.length - 1)).drop (row.length - 1 - many))).length = row.length - 1 := by
  have hr : (row.take (row.length - 1)).length = row.length - 1 := List.length_take_of_le (Nat.sub_le _ _)
  have hk : many ≤ row.length - 1 := Nat.le_sub_one_of_lt h
  generalize row.take (row.length - 1) = r at hr ⊢
  rw [← hr] at hk ⊢
  rw [List.length_append, List.length_take_of_le (Nat.sub_le _ _), subMul_len _ _ _ _ (by rw [List.length_take_of_le hm, List.length_drop, Nat.sub_sub_self hk]; exact Nat.le_refl _), List.length_drop]
  exact Nat.add_sub_cancel' (Nat.sub_le _ _)
theorem leftL_is {p : Int} {f : List Int} {many : Nat} (hm : many ≤ f.length) : ∀ (n : Nat) (row : List Int), many ≤ row.length → row.length ≤ many + n → (leftL p f many n row).length = many
  | 0, row, h, h' => Nat.le_antisymm h' h
  | n + 1, row, h, h' => by
    unfold leftL
    split
    · rename_i hlt
      have e := leftRow_len (p := p) (x := row.getD (row.length - 1) 0) hm row hlt
      exact leftL_is hm n _ (by rw [e]; exact Nat.le_sub_one_of_lt hlt) (by rw [e]; exact Nat.sub_le_of_le_add h')
    · rename_i hlt; exact Nat.le_antisymm (Nat.not_lt.mp hlt) h
theorem leftL_short {p : Int} {f : List Int} {many : Nat} : ∀ (n : Nat) (row : List Int), row.length ≤ many → leftL p f many n row = row
  | 0, row, h => rfl
  | n + 1, row, h => by unfold leftL; rw [if_neg (Nat.not_lt.mpr h)]
theorem leftF_len {p : Int} {f row : List Int} : (leftF p f row).length = f.length - 1 := by
  unfold leftF
  dsimp only
  rcases Nat.le_total row.length (f.length - 1) with h | h
  · rw [leftL_short _ _ h, List.length_append, List.length_replicate]; exact Nat.add_sub_cancel' h
  · rw [List.length_append, List.length_replicate, leftL_is (Nat.sub_le _ _) _ _ h (Nat.le_add_left _ _), Nat.sub_self]; rfl
theorem leftF_bound {p : Int} (h0 : 0 < p) (h1 : p ≤ 1000) {f row : List Int} (h : bound row) : bound (leftF p f row) := bound_append (leftL_bound h0 h1 f _ _ _ h) (zeros_bound _)

/-! rows turned about: no taking, no dropping -/
theorem subMul_zip {p one : Int} : ∀ b F : List Int, b.length = F.length → subMul p one b F = List.zipWith (fun y v => (v - one * y).fmod p) b F
  | [], [], _ => rfl
  | [], _ :: _, h => by cases h
  | _ :: _, [], h => by cases h
  | y :: b, v :: F, h => by
    show _ :: subMul p one b F = _ :: List.zipWith _ b F
    rw [subMul_zip b F (by simpa using h)]
theorem subMul_append {p one : Int} : ∀ b F G : List Int, b.length = F.length → subMul p one b (F ++ G) = subMul p one b F ++ G
  | [], [], G, _ => rfl
  | [], _ :: _, G, h => by cases h
  | _ :: _, [], G, h => by cases h
  | y :: b, v :: F, G, h => by
    show _ :: subMul p one b (F ++ G) = _ :: (subMul p one b F ++ G)
    rw [subMul_append b F G (by simpa using h)]
theorem subMul_rev {p one : Int} {b F : List Int} (h : b.length = F.length) : (subMul p one b F).reverse = subMul p one b.reverse F.reverse := by
  rw [subMul_zip b F h, subMul_zip b.reverse F.reverse (by simpa using h), List.reverse_zipWith h]
noncomputable def leftR (p : Int) (fr : List Int) : Nat → List Int → List Int
  | 0, r => r
  | _ + 1, [] => []
  | n + 1, top :: low => leftR p fr n (subMul p top fr low)
theorem leftL_rev {p : Int} {f : List Int} {many : Nat} (hm : many ≤ f.length) : ∀ (n N : Nat) (row : List Int), row.length = many + n → n ≤ N → leftL p f many N row = (leftR p (f.take many).reverse n row.reverse).reverse
  | 0, 0, row, _, _ => by simp [leftL, leftR]
  | 0, N + 1, row, h, _ => by
    unfold leftL
    rw [if_neg (by omega)]
    simp [leftR]
  | n + 1, 0, row, _, h => by omega
  | n + 1, N + 1, row, h, hN => by
    have hne : row ≠ [] := fun e => by rw [e] at h; simp at h
    obtain ⟨low, top, rfl⟩ : ∃ low top, row = low ++ [top] := ⟨row.dropLast, row.getLast hne, (List.dropLast_concat_getLast hne).symm⟩
    have hl : low.length = many + n := by simp at h; omega
    unfold leftL
    rw [if_pos (by omega)]
    have e1 : (low ++ [top]).length - 1 = low.length := by simp
    have e2 : (low ++ [top]).getD low.length 0 = top := by simp [List.getD]
    have e3 : (low ++ [top]).take low.length = low := by simp
    have e4 : low.length - many = n := by omega
    rw [e1, e2, e3, e4]
    have hd : (f.take many).length = (low.drop n).length := by rw [List.length_take_of_le hm, List.length_drop, hl, Nat.add_sub_cancel]
    have hs : (low.take n ++ subMul p top (f.take many) (low.drop n)).reverse = subMul p top (f.take many).reverse low.reverse := by
      rw [List.reverse_append, subMul_rev hd]
      conv => rhs; rw [← List.take_append_drop n low, List.reverse_append]
      rw [subMul_append _ _ _ (by rw [List.length_reverse, List.length_reverse]; exact hd)]
    rw [leftL_rev hm n N _ (by rw [List.length_append, subMul_len _ _ _ _ (Nat.le_of_eq hd), List.length_take_of_le (by rw [hl]; exact Nat.le_add_left _ _), List.length_drop, hl, Nat.add_sub_cancel, Nat.add_comm]) (Nat.le_of_succ_le_succ hN), hs]
    rw [List.reverse_append]
    rfl
noncomputable def leftQ (p : Int) (f row : List Int) : List Int := (leftR p (f.take (f.length - 1)).reverse (row.length - (f.length - 1)) row.reverse).reverse ++ List.replicate (f.length - 1 - row.length) 0
theorem leftQ_eq {p : Int} {f row : List Int} : leftF p f row = leftQ p f row := by
  unfold leftF leftQ
  dsimp only
  rcases Nat.le_total row.length (f.length - 1) with h | h
  · rw [leftL_short _ _ h, Nat.sub_eq_zero_of_le h]
    show _ = row.reverse.reverse ++ _
    rw [List.reverse_reverse]
  · have e := leftL_rev (p := p) (f := f) (many := f.length - 1) (Nat.sub_le _ _) (row.length - (f.length - 1)) row.length row (Nat.add_sub_cancel' h).symm (Nat.sub_le _ _)
    rw [leftL_is (Nat.sub_le _ _) _ _ h (Nat.le_add_left _ _), e, Nat.sub_self, Nat.sub_eq_zero_of_le h]

noncomputable def prodS (p : Int) (f a b : List Int) : List Int := leftQ p f (timesF p a b)
theorem prodS_eq {p : Int} {f a b : List Int} : prodS p f a b = leftF p f (timesF p a b) := leftQ_eq.symm
theorem prod_of {p : Int} {f a b : List Int} (hp : 0 < p ∧ p ≤ 1000) (ha : bound a) (hal : a.length ≤ 300) (hb : 1 ≤ b.length ∧ b.length ≤ 300) (hf : 1 ≤ f.length ∧ f.length ≤ 300) : prodF p f a b = some (prodS p f a b) := by
  unfold prodF
  rw [if_pos ⟨by omega, hb.1, hp.1, hp.2, bound_small ha, by omega, hf.1⟩, if_pos ⟨by rw [timesF_len hb.1]; omega, bound_small (timesF_bound hp.1 hp.2 a b)⟩, prodS_eq]
noncomputable def powS (p : Int) (f a : List Int) : Nat → List Int → List Int
  | 0, found => found
  | n + 1, found => powS p f a n (prodS p f found a)
theorem pow_of {p : Int} {f a : List Int} (hp : 0 < p ∧ p ≤ 1000) (hb : 1 ≤ a.length ∧ a.length ≤ 300) (hf : 1 ≤ f.length ∧ f.length ≤ 300) : ∀ (n : Nat) (found : List Int), bound found → found.length ≤ 300 → powL p f a n found = some (powS p f a n found) ∧ (powS p f a n found).length ≤ 300
  | 0, found, _, h => ⟨rfl, h⟩
  | n + 1, found, h1, h2 => by
    have e := prod_of (f := f) hp h1 h2 hb hf
    have ih := pow_of hp hb hf n (prodS p f found a) (by rw [prodS_eq]; exact leftF_bound hp.1 hp.2 (timesF_bound hp.1 hp.2 found a)) (by rw [prodS_eq, leftF_len]; omega)
    unfold powL powS
    rw [e]; exact ih

noncomputable def divR (p : Int) (bt : List Int) (turn : Int) : Nat → List Int → List Int → List Int × List Int
  | 0, r, q => (q, r)
  | _ + 1, [], q => (q, [])
  | n + 1, top :: low, q => divR p bt turn n (if (top * turn).fmod p == 0 then low else subMul p ((top * turn).fmod p) bt low) ((top * turn).fmod p :: q)
theorem divR_eq {p : Int} {b : List Int} {turn : Int} (hb : 1 ≤ b.length) : ∀ (n : Nat) (rest q : List Int), n + b.length ≤ rest.length + 1 → divR p b.reverse.tail turn n (rest.take (n + b.length - 1)).reverse q = ((divLoop p b turn n rest q).1, ((divLoop p b turn n rest q).2.take (b.length - 1)).reverse)
  | 0, rest, q, h => by simp [divR, divLoop]
  | n + 1, rest, q, h => by
    have h' : n + b.length ≤ rest.length := by omega
    have et : rest.take (n + b.length) = rest.take (n + b.length - 1) ++ [rest.getD (n + b.length - 1) 0] := by
      conv => lhs; rw [show n + b.length = (n + b.length - 1) + 1 by omega]
      rw [List.take_succ, List.getD]
      rw [List.getElem?_eq_getElem (show n + b.length - 1 < rest.length by omega)]
      rfl
    have e0 : n + 1 + b.length - 1 = n + b.length := by omega
    rw [e0, et, List.reverse_append]
    show divR p b.reverse.tail turn (n + 1) (rest.getD (n + b.length - 1) 0 :: (rest.take (n + b.length - 1)).reverse) q = _
    unfold divR divLoop
    generalize ho : (rest.getD (n + b.length - 1) 0 * turn).fmod p = one
    by_cases hz : (one == 0) = true
    · simp only [hz, if_true]
      exact divR_eq hb n rest (one :: q) (by omega)
    · simp only [hz]
      have hr0 : b.length ≤ (rest.drop n).length := by rw [List.length_drop]; exact Nat.le_sub_of_add_le (by rw [Nat.add_comm]; exact h')
      have hn : (rest.take n).length = n := List.length_take_of_le (Nat.le_trans (Nat.le_add_right _ _) h')
      have hl2 : b.length = ((rest.drop n).take b.length).length := (List.length_take_of_le hr0).symm
      have hd : rest.drop n = (rest.drop n).take b.length ++ (rest.drop n).drop b.length := (List.take_append_drop _ _).symm
      have hsl : (subMul p one b (rest.drop n)).length = (rest.drop n).length := subMul_len _ _ _ _ hr0
      have hnl : (rest.take n ++ subMul p one b (rest.drop n)).length = rest.length := by rw [List.length_append, hsl, hn, List.length_drop]; exact Nat.add_sub_cancel' (Nat.le_trans (Nat.le_add_right _ _) h')
      have ht : ((rest.take n ++ subMul p one b (rest.drop n)).take (n + b.length)).reverse = subMul p one b.reverse (rest.take (n + b.length)).reverse := by
        have e1 : (rest.take n ++ subMul p one b (rest.drop n)).take (n + b.length) = rest.take n ++ subMul p one b ((rest.drop n).take b.length) := by
          rw [List.take_append, hn, List.take_of_length_le (by rw [hn]; exact Nat.le_add_right _ _), Nat.add_sub_cancel_left]
          congr 1
          conv => lhs; rw [hd]
          rw [subMul_append _ _ _ hl2, List.take_left' (by rw [subMul_len _ _ _ _ (Nat.le_of_eq hl2)]; exact hl2.symm)]
        have e2 : rest.take (n + b.length) = rest.take n ++ (rest.drop n).take b.length := by rw [List.take_add]
        rw [e1, e2, List.reverse_append, List.reverse_append, subMul_rev hl2, subMul_append _ _ _ (by simp only [List.length_reverse]; exact hl2)]
      have hr : subMul p one b.reverse.tail (rest.take (n + b.length - 1)).reverse = ((rest.take n ++ subMul p one b (rest.drop n)).take (n + b.length - 1)).reverse := by
        have e3 : ((rest.take n ++ subMul p one b (rest.drop n)).take (n + b.length - 1)).reverse = (((rest.take n ++ subMul p one b (rest.drop n)).take (n + b.length)).reverse).tail := by
          rw [List.tail_reverse, List.dropLast_eq_take, List.take_take, List.length_take_of_le (by rw [hnl]; exact h'), Nat.min_eq_left (Nat.sub_le _ _)]
        rw [e3, ht, et, List.reverse_append]
        have hbr : b.reverse ≠ [] := fun e => by rw [List.reverse_eq_nil_iff] at e; rw [e] at hb; simp at hb
        obtain ⟨y, bt, ey⟩ := List.exists_cons_of_ne_nil hbr
        rw [ey]; rfl
      have ih := divR_eq (p := p) (turn := turn) hb n (rest.take n ++ subMul p one b (rest.drop n)) (one :: q) (by rw [hnl]; omega)
      rw [← hr] at ih
      exact ih
noncomputable def divS (p : Int) (a b : List Int) : Option (List Int × List Int) :=
  if (a.length ≤ 900 ∧ b.length ≤ 900) then (match b.getLast? with
    | some l => (match invT (l.fmod p) p with
      | some turn => match divR p b.reverse.tail turn (a.length + 1 - b.length) a.reverse [] with
        | (q, r) => some (trimS q, trimS r.reverse)
      | none => none)
    | none => none) else none
theorem divLoop_bound {p : Int} (h0 : 0 < p) (h1 : p ≤ 1000) (b : List Int) (turn : Int) : ∀ (n : Nat) (rest q : List Int), bound rest → bound q → bound (divLoop p b turn n rest q).1 ∧ bound (divLoop p b turn n rest q).2
  | 0, rest, q, h, h' => ⟨h', h⟩
  | n + 1, rest, q, h, h' => by
    unfold divLoop
    refine divLoop_bound h0 h1 b turn n _ _ ?_ ?_
    · split
      · exact h
      · exact bound_append (bound_take h) (subMul_bound h0 h1 _ _ (bound_drop h))
    · intro x hx
      rcases List.mem_cons.mp hx with rfl | hx
      · exact fmod_bound h0 h1
      · exact h' x hx
theorem div_of {p : Int} {a b q r : List Int} (ha : bound a) (h : divS p a b = some (q, r)) : divF p a b = some (q, r) ∧ bound q ∧ bound r ∧ 0 < p ∧ p ≤ 1000 := by
  unfold divS at h
  split at h
  · rename_i hc
    split at h
    · rename_i l hl
      split at h
      · rename_i turn ht
        obtain ⟨h0, h1⟩ := invT_pos ht
        have hb := divLoop_bound h0 h1 b turn (a.length + 1 - b.length) a [] ha (fun x hx => nomatch hx)
        have h1b : 1 ≤ b.length := by
          rcases Nat.eq_zero_or_pos b.length with e | e
          · rw [List.length_eq_zero_iff.mp e] at hl; cases hl
          · exact e
        have hD : divR p b.reverse.tail turn (a.length + 1 - b.length) a.reverse [] = ((divLoop p b turn (a.length + 1 - b.length) a []).1, ((divLoop p b turn (a.length + 1 - b.length) a []).2.take (b.length - 1)).reverse) := by
          by_cases hc2 : b.length ≤ a.length + 1
          · have := divR_eq (p := p) (turn := turn) h1b (a.length + 1 - b.length) a [] (by omega)
            rw [List.take_of_length_le (by omega)] at this
            exact this
          · rw [show a.length + 1 - b.length = 0 by omega]
            show ([], a.reverse) = ([], (a.take (b.length - 1)).reverse)
            rw [List.take_of_length_le (by omega)]
        rw [hD] at h
        simp only [List.reverse_reverse] at h
        refine ⟨?_, ?_, ?_, h0, h1⟩
        · unfold divF
          rw [if_pos ⟨hc.1, hc.2, bound_small ha⟩]
          simp only [hl, ht]
          exact h
        · simp only [Option.some.injEq, Prod.mk.injEq] at h
          rw [← h.1]; exact trimS_bound hb.1
        · simp only [Option.some.injEq, Prod.mk.injEq] at h
          rw [← h.2]; exact trimS_bound (bound_take hb.2)
      · cases h
    · cases h
  · cases h
noncomputable def restS (p : Int) (a b : List Int) : Option (List Int) := match divS p a b with
  | some (_, r) => some r
  | none => none
theorem rest_of {p : Int} {a b r : List Int} (ha : bound a) (h : restS p a b = some r) : restF p a b = some r ∧ bound r := by
  unfold restS at h
  split at h
  · rename_i q r' e
    cases h
    obtain ⟨e1, _, e3, _⟩ := div_of ha e
    exact ⟨by unfold restF; rw [e1], e3⟩
  · cases h
noncomputable def quotS (p : Int) (a b : List Int) : Option (List Int) := match divS p a b with
  | some (q, _) => some q
  | none => none
theorem quot_of {p : Int} {a b q : List Int} (ha : bound a) (h : quotS p a b = some q) : quotF p a b = some q := by
  unfold quotS at h
  split at h
  · rename_i q' r' e
    cases h
    unfold quotF; rw [(div_of ha e).1]
  · cases h
noncomputable def gcdS (p : Int) : Nat → List Int → List Int → Option (List Int)
  | 0, _, _ => none
  | n + 1, a, b => if b.isEmpty then monicF p a else (match restS p a b with
    | some r => gcdS p n b r
    | none => none)
theorem gcd_of {p : Int} : ∀ (n : Nat) (a b g : List Int), bound a → bound b → gcdS p n a b = some g → gcdL p n a b = some g
  | 0, a, b, g, _, _, h => by cases h
  | n + 1, a, b, g, ha, hb, h => by
    unfold gcdS at h
    unfold gcdL
    split at h
    · rename_i hc; rw [if_pos hc]; exact h
    · rename_i hc
      rw [if_neg hc]
      split at h
      · rename_i r er
        obtain ⟨e1, e2⟩ := rest_of ha er
        rw [e1]
        exact gcd_of n b r g hb e2 h
      · cases h

/-! Euclid's road again -/
theorem addS_bound {p : Int} (h0 : 0 < p) (h1 : p ≤ 1000) : ∀ a b : List Int, bound (addS p a b)
  | [], b => by
    show bound (addR p b)
    induction b with
    | nil => intro x hx; cases hx
    | cons y b ih =>
      intro x hx
      simp only [addR, List.mem_cons] at hx
      rcases hx with rfl | hx
      · exact fmod_bound h0 h1
      · exact ih x hx
  | x :: a, [] => by
    intro y hy
    simp only [addS, List.mem_cons] at hy
    rcases hy with rfl | hy
    · exact fmod_bound h0 h1
    · exact addS_bound h0 h1 a [] y hy
  | x :: a, z :: b => by
    intro y hy
    simp only [addS, List.mem_cons] at hy
    rcases hy with rfl | hy
    · exact fmod_bound h0 h1
    · exact addS_bound h0 h1 a b y hy
theorem mulF_len {p : Int} (q b : List Int) : (mulF p q b).length ≤ q.length + b.length := by
  unfold mulF
  split
  · simp
  · rename_i hc
    simp only [Bool.or_eq_true, List.isEmpty_iff, not_or] at hc
    have lb : 1 ≤ b.length := by have : b.length ≠ 0 := fun e => hc.2 (List.length_eq_zero_iff.mp e); omega
    have hg : ∀ (x : Int) (F : List Int), b.length ≤ F.length → (if x == 0 then F else addMul p x b F).length = F.length := fun x F hF => by
      by_cases h0 : (x == 0) = true
      · simp only [h0, if_true]
      · simp only [h0]; exact addMul_len p x b F hF
    have := trimS_len (foldS (fun x F => if x == 0 then F else addMul p x b F) q (List.replicate (q.length + b.length - 1) 0))
    rw [foldS_len (m := b.length) hg lb _ _ (by rw [List.length_replicate]; omega), List.length_replicate] at this
    omega
noncomputable def stepS (p : Int) (q a b : List Int) : Option (List Int) := if (q.length + b.length ≤ 900 ∧ a.length ≤ 900) then some (subF p a (mulF p q b)) else none
theorem step_of {p : Int} {q a b c : List Int} (h0 : 0 < p) (h1 : p ≤ 1000) (hq : bound q) (h : stepS p q a b = some c) : stepF p q a b = some c ∧ bound c := by
  unfold stepS at h
  split at h
  · rename_i hc
    cases h
    refine ⟨?_, trimS_bound (addS_bound h0 h1 _ _)⟩
    unfold stepF
    have e : (mulOk q b && decide (a.length ≤ 900)) = true := by
      simp only [mulOk, Bool.and_eq_true, decide_eq_true_eq]
      exact ⟨⟨hc.1, bound_small hq⟩, hc.2⟩
    rw [if_pos e, if_pos (by have := mulF_len (p := p) q b; omega)]
  · cases h
noncomputable def extS (p : Int) : Nat → List Int → List Int → List Int → List Int → List Int → List Int → Option (List Int × List Int × List Int)
  | 0, _, _, _, _, _, _ => none
  | n + 1, a1, a2, a3, b1, b2, b3 => if b1.isEmpty then some (a1, a2, a3) else (match divS p a1 b1 with
    | some (q, r) => (match stepS p q a2 b2 with
      | some c2 => (match stepS p q a3 b3 with
        | some c3 => extS p n b1 b2 b3 r c2 c3
        | none => none)
      | none => none)
    | none => none)
theorem ext_of {p : Int} : ∀ (n : Nat) (a1 a2 a3 b1 b2 b3 : List Int) (g : List Int × List Int × List Int), bound a1 → bound a2 → bound a3 → bound b1 → bound b2 → bound b3 → extS p n a1 a2 a3 b1 b2 b3 = some g →
    extL p n a1 a2 a3 b1 b2 b3 = some g ∧ bound g.1 ∧ bound g.2.1 ∧ bound g.2.2
  | 0, a1, a2, a3, b1, b2, b3, g, _, _, _, _, _, _, h => by cases h
  | n + 1, a1, a2, a3, b1, b2, b3, g, ha1, ha2, ha3, hb1, hb2, hb3, h => by
    unfold extS at h
    unfold extL
    split at h
    · rename_i hc
      rw [if_pos hc]
      cases h
      exact ⟨rfl, ha1, ha2, ha3⟩
    · rename_i hc
      rw [if_neg hc]
      split at h
      · rename_i q r er
        obtain ⟨e1, hq, hr, h0, h1⟩ := div_of ha1 er
        split at h
        · rename_i c2 e2
          obtain ⟨f2, k2⟩ := step_of h0 h1 hq e2
          split at h
          · rename_i c3 e3
            obtain ⟨f3, k3⟩ := step_of h0 h1 hq e3
            have ih := ext_of n b1 b2 b3 r c2 c3 g hb1 hb2 hb3 hr k2 k3 h
            simp only [e1, f2, f3]
            exact ih
          · cases h
        · cases h
      · cases h
noncomputable def ext3S (p : Int) (a b : List Int) : Option (List Int × List Int) := match extS p 100 a [1] [] b [] [1] with
  | some (g, s, t) => (match g.getLast? with
    | some l => (match invT (l.fmod p) p with
      | some v => if (g.length ≤ 900 ∧ s.length ≤ 900 ∧ t.length ≤ 900) then some (scaleS p v g, scaleS p v s) else none
      | none => none)
    | none => none)
  | none => none
theorem scale_bound {p v : Int} (h0 : 0 < p) (h1 : p ≤ 1000) (a : List Int) : bound (scaleS p v a) := trimS_bound fun x hx => by
  obtain ⟨y, _, rfl⟩ := List.mem_map.mp hx
  exact fmod_bound h0 h1
theorem one_bound : bound [1] := fun x hx => by rw [List.mem_singleton.mp hx]; decide
theorem nil_bound : bound [] := fun x hx => nomatch hx
theorem ext3_of {p : Int} {a b g s : List Int} (ha : bound a) (hb : bound b) (h : ext3S p a b = some (g, s)) : ∃ t, extF p a b = some (g, s, t) ∧ bound s := by
  unfold ext3S at h
  split at h
  · rename_i g' s' t' eL
    obtain ⟨e, b1, b2, b3⟩ := ext_of 100 a [1] [] b [] [1] _ ha one_bound nil_bound hb nil_bound one_bound eL
    dsimp only at b1 b2 b3
    split at h
    · rename_i l hl
      split at h
      · rename_i v hv
        obtain ⟨h0, h1⟩ := invT_pos hv
        split at h
        · rename_i hc
          cases h
          refine ⟨scaleS p v t', ?_, scale_bound h0 h1 s'⟩
          unfold extF
          simp only [e, hl, hv]
          have : (scaleOk g' && (scaleOk s' && scaleOk t')) = true := by
            simp only [scaleOk, Bool.and_eq_true, decide_eq_true_eq]
            exact ⟨⟨hc.1, bound_small b1⟩, ⟨hc.2.1, bound_small b2⟩, hc.2.2, bound_small b3⟩
          rw [if_pos this]
        · cases h
      · cases h
    · cases h
  · cases h
noncomputable def minvS (p : Int) (a f : List Int) : Option (Option (List Int)) := match restS p a f with
  | some r => (match ext3S p r f with
    | some (g, s) => if eqInts g [1] = true then (match restS p s f with
      | some u => some (some u)
      | none => none) else some none
    | none => none)
  | none => none
theorem minv_of {p : Int} {a f : List Int} {u : Option (List Int)} (ha : bound a) (hf : bound f) (h : minvS p a f = some u) : minvF p a f = some u := by
  unfold minvS at h
  split at h
  · rename_i r er
    obtain ⟨e1, hr⟩ := rest_of ha er
    split at h
    · rename_i g s ex
      obtain ⟨t, e2, hs⟩ := ext3_of hr hf ex
      unfold minvF
      simp only [e1, e2]
      split at h
      · rename_i hg
        rw [if_pos hg]
        split at h
        · rename_i u' eu
          simp only [(rest_of hs eu).1]; exact h
        · cases h
      · rename_i hg
        rw [if_neg hg]; exact h
    · cases h
  · cases h
noncomputable def rightS (p : Int) (f a : List Int) : Option Int := match minvS p (trimS a) f with
  | some (some told) => if told.length ≤ 200 then some (if eqInts (trimS (prodS p f a (told ++ [0]))) [1] = true then 1 else -1) else none
  | some none => (match gcdS p 100 (trimS a) f with
    | some g => (match quotS p f g with
      | some other => if (1 ≤ other.length ∧ other.length ≤ 200) then (if (decide (f.length ≤ other.length) || eqInts (trimS other) []) = true then some (-1) else some (if eqInts (trimS (prodS p f a other)) [] = true then 0 else -1)) else none
      | none => none)
    | none => none)
  | none => none
theorem right_of {p : Int} {f a : List Int} {w : Int} (hp : 0 < p ∧ p ≤ 1000) (ha : bound a) (hal : a.length ≤ 300) (hf : bound f) (hfl : 1 ≤ f.length ∧ f.length ≤ 300) (h : rightS p f a = some w) : rightF p f a = some w := by
  unfold rightS at h
  unfold rightF
  rw [if_pos (by omega)]
  have hta := trimS_bound ha
  split at h
  · rename_i told et
    simp only [minv_of hta hf et]
    split at h
    · rename_i hl
      rw [if_pos (by omega), prod_of hp ha hal (by simp; omega) hfl]
      dsimp only
      rw [if_pos (by rw [prodS_eq, leftF_len]; omega)]
      exact h
    · cases h
  · rename_i et
    simp only [minv_of hta hf et]
    split at h
    · rename_i g eg
      simp only [gcd_of 100 _ _ g hta hf eg]
      split at h
      · rename_i other eo
        simp only [quot_of hf eo]
        split at h
        · rename_i hl
          rw [if_pos (by omega)]
          split at h
          · rename_i hc; rw [if_pos hc]; exact h
          · rename_i hc
            rw [if_neg hc, prod_of hp ha hal ⟨hl.1, by omega⟩ hfl]
            dsimp only
            rw [if_pos (by rw [prodS_eq, leftF_len]; omega)]
            exact h
        · cases h
      · cases h
    · cases h
  · cases h
end Mine

namespace Mine
open PySem PySem.W PyProof.Rows PySem.Calls
/-! the same upon natural numbers, by recursors: what the kernel reckons quickly -/
noncomputable def En1 (a : List Nat) : List Int := a.map Int.ofNat
theorem E_len (a : List Nat) : (En1 a).length = a.length := List.length_map _
noncomputable def revZ (a : List Nat) : List Nat := List.rec (motive := fun _ => List Nat → List Nat) (fun acc => acc) (fun x _ ih acc => ih (x :: acc)) a []
theorem revZ_eq (a : List Nat) : revZ a = a.reverse := by
  have : ∀ (a acc : List Nat), List.rec (motive := fun _ => List Nat → List Nat) (fun acc => acc) (fun x _ ih acc => ih (x :: acc)) a acc = a.reverse ++ acc := by
    intro a
    induction a with
    | nil => intro acc; rfl
    | cons x a ih => intro acc; show List.rec (motive := fun _ => List Nat → List Nat) (fun acc => acc) (fun x _ ih acc => ih (x :: acc)) a (x :: acc) = _; rw [ih]; simp
  unfold revZ
  rw [this, List.append_nil]
noncomputable def lenZ (a : List Nat) : Nat := List.rec (motive := fun _ => Nat) 0 (fun _ _ ih => Nat.succ ih) a
theorem lenZ_eq (a : List Nat) : lenZ a = a.length := by
  induction a with
  | nil => rfl
  | cons x a ih => show Nat.succ (lenZ a) = _; rw [ih]; rfl
noncomputable def addZ (p one : Nat) (b : List Nat) : List Nat → List Nat :=
  List.rec (motive := fun _ => List Nat → List Nat) (fun F => F) (fun y _ ih F => List.casesOn (motive := fun _ => List Nat) F [] (fun v F => Nat.mod (Nat.add v (Nat.mul one y)) p :: ih F)) b
theorem addZ_eq {p one : Nat} : ∀ b F : List Nat, En1 (addZ p one b F) = addMul p one (En1 b) (En1 F)
  | [], F => rfl
  | y :: b, [] => rfl
  | y :: b, v :: F => by
    show ((Nat.mod (Nat.add v (Nat.mul one y)) p : Nat) : Int) :: En1 (addZ p one b F) = ((v : Int) + one * y).fmod p :: addMul p one (En1 b) (En1 F)
    rw [addZ_eq b F]
    congr 1
    rw [Int.fmod_eq_emod_of_nonneg _ (by omega)]
    show (((v + one * y) % p : Nat) : Int) = _
    rw [Int.natCast_emod, Int.natCast_add, Int.natCast_mul]
noncomputable def subZ (p one : Nat) (b F : List Nat) : List Nat := addZ p (Nat.mul one (Nat.sub p 1)) b F
theorem sub_as {p one y v : Int} (hp : 0 < p) : (v + one * (p - 1) * y).fmod p = (v - one * y).fmod p := by
  rw [Int.fmod_eq_emod_of_nonneg _ (by omega), Int.fmod_eq_emod_of_nonneg _ (by omega)]
  have : v + one * (p - 1) * y = (v - one * y) + p * (one * y) := by
    simp only [Int.mul_sub, Int.sub_mul, Int.mul_one]
    rw [show one * p * y = p * (one * y) by rw [Int.mul_comm one p, Int.mul_assoc]]
    omega
  rw [this, Int.add_mul_emod_self_left]
theorem subZ_eq {p one : Nat} (hp : 1 ≤ p) (b F : List Nat) : En1 (subZ p one b F) = subMul p one (En1 b) (En1 F) := by
  unfold subZ
  rw [addZ_eq]
  have e : ((Nat.mul one (Nat.sub p 1) : Nat) : Int) = (one : Int) * (p - 1) := by
    show ((one * (p - 1) : Nat) : Int) = _
    rw [Int.natCast_mul, Int.natCast_sub hp]; rfl
  rw [e]
  generalize En1 b = b; generalize En1 F = F
  induction b generalizing F with
  | nil => rfl
  | cons y b ih => cases F with
    | nil => rfl
    | cons v F =>
      show _ :: _ = _ :: _
      rw [ih F, sub_as (by omega)]
noncomputable def trimZ (a : List Nat) : List Nat := List.rec (motive := fun _ => List Nat) [] (fun x _ ih => List.casesOn (motive := fun _ => List Nat) ih (Bool.casesOn (motive := fun _ => List Nat) (Nat.beq x 0) [x] []) (fun y ys => x :: y :: ys)) a
theorem E_eq0 {x : Nat} : (((x : Nat) : Int) == 0) = Nat.beq x 0 := by
  cases x with
  | zero => rfl
  | succ x => show decide _ = false; rw [decide_eq_false (by omega)]
theorem trimZ_eq : ∀ a : List Nat, En1 (trimZ a) = trimS (En1 a)
  | [] => rfl
  | x :: a => by
    have ih := trimZ_eq a
    show En1 (List.casesOn (motive := fun _ => List Nat) (trimZ a) _ _) = (match trimS (En1 a) with
      | [] => if ((x : Int) == 0) = true then [] else [(x : Int)]
      | y :: ys => (x : Int) :: y :: ys)
    rw [← ih]
    cases trimZ a with
    | cons y ys => rfl
    | nil =>
      show En1 (Bool.casesOn (motive := fun _ => List Nat) (Nat.beq x 0) _ _) = _
      dsimp only [En1, List.map_nil]
      rw [E_eq0]
      cases Nat.beq x 0 <;> rfl
noncomputable def foldZ (g : Nat → List Nat → List Nat) (a : List Nat) : List Nat → List Nat :=
  List.rec (motive := fun _ => List Nat → List Nat) (fun F => F) (fun x _ ih F => List.casesOn (motive := fun _ => List Nat) (g x F) [] (fun v F => v :: ih F)) a
theorem foldZ_eq {g : Nat → List Nat → List Nat} {h : Int → List Int → List Int} (hg : ∀ x F, En1 (g x F) = h x (En1 F)) : ∀ a F : List Nat, En1 (foldZ g a F) = foldS h (En1 a) (En1 F)
  | [], F => rfl
  | x :: a, F => by
    show En1 (List.casesOn (motive := fun _ => List Nat) (g x F) [] (fun v F => v :: foldZ g a F)) = (match h x (En1 F) with
      | v :: F' => v :: foldS h (En1 a) F'
      | [] => [])
    rw [← hg]
    cases g x F with
    | nil => rfl
    | cons v F => show ((v : Int) :: En1 (foldZ g a F)) = _; rw [foldZ_eq hg a F]; rfl
noncomputable def repZ (n : Nat) : List Nat := Nat.rec (motive := fun _ => List Nat) [] (fun _ ih => 0 :: ih) n
theorem repZ_eq (n : Nat) : En1 (repZ n) = List.replicate n 0 := by
  induction n with
  | zero => rfl
  | succ n ih => show (0 : Int) :: En1 (repZ n) = _; rw [ih]; rfl
noncomputable def timesZ (p : Nat) (a b : List Nat) : List Nat := foldZ (fun x F => addZ p x b F) a (repZ (Nat.sub (Nat.add (lenZ a) (lenZ b)) 1))
theorem timesZ_eq {p : Nat} {a b : List Nat} : En1 (timesZ p a b) = timesF p (En1 a) (En1 b) := by
  unfold timesZ timesF
  rw [foldZ_eq (h := fun x F => addMul p x (En1 b) F) (fun x F => addZ_eq b F), repZ_eq, lenZ_eq, lenZ_eq, E_len, E_len]; rfl
theorem E_rev (a : List Nat) : En1 (revZ a) = (En1 a).reverse := by rw [revZ_eq]; exact List.map_reverse
theorem E_tail (a : List Nat) : En1 a.tail = (En1 a).tail := by cases a <;> rfl
noncomputable def leftZ (p : Nat) (fr : List Nat) (n : Nat) : List Nat → List Nat :=
  Nat.rec (motive := fun _ => List Nat → List Nat) (fun r => r) (fun _ ih r => List.casesOn (motive := fun _ => List Nat) r [] (fun top low => ih (subZ p top fr low))) n
theorem leftZ_eq {p : Nat} (hp : 1 ≤ p) {fr : List Nat} : ∀ (n : Nat) (r : List Nat), En1 (leftZ p fr n r) = leftR p (En1 fr) n (En1 r)
  | 0, r => rfl
  | n + 1, [] => rfl
  | n + 1, top :: low => by
    show En1 (leftZ p fr n (subZ p top fr low)) = leftR p (En1 fr) n (subMul p top (En1 fr) (En1 low))
    rw [leftZ_eq hp n, subZ_eq hp]
noncomputable def padZ (k : Nat) (a : List Nat) : List Nat := Nat.casesOn (motive := fun _ => List Nat) k a (fun k => a ++ repZ (k + 1))
theorem padZ_eq {k : Nat} {a : List Nat} : En1 (padZ k a) = En1 a ++ List.replicate k 0 := by
  cases k with
  | zero => show En1 a = En1 a ++ []; simp
  | succ k => show En1 (a ++ repZ (k + 1)) = _; rw [← repZ_eq]; exact List.map_append
noncomputable def tailZ (a : List Nat) : List Nat := List.casesOn (motive := fun _ => List Nat) a [] (fun _ b => b)
theorem tailZ_eq (a : List Nat) : tailZ a = a.tail := by cases a <;> rfl
noncomputable def prodZ (p : Nat) (f a b : List Nat) : List Nat := padZ (Nat.sub (Nat.sub (lenZ f) 1) (lenZ (timesZ p a b))) (revZ (leftZ p (tailZ (revZ f)) (Nat.sub (lenZ (timesZ p a b)) (Nat.sub (lenZ f) 1)) (revZ (timesZ p a b))))
theorem prodZ_eq {p : Nat} (hp : 1 ≤ p) {f a b : List Nat} : En1 (prodZ p f a b) = prodS p (En1 f) (En1 a) (En1 b) := by
  unfold prodZ prodS leftQ
  have e1 : (En1 f).length - 1 = Nat.sub (lenZ f) 1 := by rw [E_len, lenZ_eq]; rfl
  have e2 : (timesF p (En1 a) (En1 b)).length = lenZ (timesZ p a b) := by rw [← timesZ_eq, E_len, lenZ_eq]
  have e3 : ((En1 f).take (Nat.sub (lenZ f) 1)).reverse = En1 (tailZ (revZ f)) := by
    rw [tailZ_eq, E_tail, E_rev, List.tail_reverse, List.dropLast_eq_take, e1]
  rw [e1, e2, e3, padZ_eq, E_rev, leftZ_eq hp, E_rev, timesZ_eq]
  rfl
noncomputable def powZ (p : Nat) (f a : List Nat) (n : Nat) : List Nat → List Nat := Nat.rec (motive := fun _ => List Nat → List Nat) (fun r => r) (fun _ ih r => ih (prodZ p f r a)) n
theorem powZ_eq {p : Nat} (hp : 1 ≤ p) {f a : List Nat} : ∀ (n : Nat) (r : List Nat), En1 (powZ p f a n r) = powS p (En1 f) (En1 a) n (En1 r)
  | 0, r => rfl
  | n + 1, r => by
    show En1 (powZ p f a n (prodZ p f r a)) = powS p (En1 f) (En1 a) n (prodS p (En1 f) (En1 r) (En1 a))
    rw [powZ_eq hp n, prodZ_eq hp]
noncomputable def eqZ (a : List Nat) : List Nat → Bool := List.rec (motive := fun _ => List Nat → Bool) (fun b => List.casesOn (motive := fun _ => Bool) b true (fun _ _ => false)) (fun x _ ih b => List.casesOn (motive := fun _ => Bool) b false (fun y b => Bool.casesOn (motive := fun _ => Bool) (Nat.beq x y) false (ih b))) a
theorem E_beq {x y : Nat} : ((x : Int) == (y : Int)) = Nat.beq x y := by
  by_cases h : x = y
  · subst h; rw [beq_self_eq_true]; exact (Nat.beq_refl x).symm
  · rw [beq_eq_false_iff_ne.mpr (by omega)]
    exact (Bool.eq_false_iff.mpr fun e => h (Nat.eq_of_beq_eq_true e)).symm
theorem eqZ_eq : ∀ a b : List Nat, eqZ a b = eqInts (En1 a) (En1 b)
  | [], [] => rfl
  | [], _ :: _ => rfl
  | _ :: _, [] => rfl
  | x :: a, y :: b => by
    show Bool.casesOn (motive := fun _ => Bool) (Nat.beq x y) false (eqZ a b) = (((x : Int) == (y : Int)) && eqInts (En1 a) (En1 b))
    rw [E_beq, eqZ_eq a b]
    cases Nat.beq x y <;> rfl
end Mine

namespace Mine
open PySem PySem.W PyProof.Rows PySem.Calls
/-! the law's reckoning upon natural numbers -/
noncomputable def invZ (r m : Nat) : Option Nat :=
  cond (Nat.beq m 2) (cond (Nat.beq r 1) (some 1) none)
    (cond (Nat.beq m 3) (cond (Nat.beq r 1) (some 1) (cond (Nat.beq r 2) (some 2) none))
      (cond (Nat.beq m 5) (cond (Nat.beq r 1) (some 1) (cond (Nat.beq r 2) (some 3) (cond (Nat.beq r 3) (some 2) (cond (Nat.beq r 4) (some 4) none)))) none))
theorem E_lit (x k : Nat) : ((x : Int) == (k : Int)) = Nat.beq x k := E_beq
theorem if_b {α : Type} {b : Bool} {x y : α} : (if b = true then x else y) = cond b x y := by cases b <;> rfl
theorem map_cond {α β : Type} {g : α → β} {b : Bool} {x y : Option α} : (cond b x y).map g = cond b (x.map g) (y.map g) := by cases b <;> rfl
theorem invZ_eq (r m : Nat) : (invZ r m).map (fun x : Nat => (x : Int)) = invT r m := by
  unfold invZ invT
  rw [show ((m : Int) == 2) = _ from E_lit m 2, show ((m : Int) == 3) = _ from E_lit m 3, show ((m : Int) == 5) = _ from E_lit m 5,
    show ((r : Int) == 1) = _ from E_lit r 1, show ((r : Int) == 2) = _ from E_lit r 2, show ((r : Int) == 3) = _ from E_lit r 3, show ((r : Int) == 4) = _ from E_lit r 4]
  simp only [if_b, map_cond]
  rfl
noncomputable def divRZ (p : Nat) (bt : List Nat) (turn n : Nat) : List Nat → List Nat → List Nat × List Nat :=
  Nat.rec (motive := fun _ => List Nat → List Nat → List Nat × List Nat) (fun r q => (q, r))
    (fun _ ih r q => List.casesOn (motive := fun _ => List Nat × List Nat) r (q, []) (fun top low => ih (cond (Nat.beq (Nat.mod (Nat.mul top turn) p) 0) low (subZ p (Nat.mod (Nat.mul top turn) p) bt low)) (Nat.mod (Nat.mul top turn) p :: q))) n
noncomputable def E2 (x : List Nat × List Nat) : List Int × List Int := (En1 x.1, En1 x.2)
theorem E_mod {x p : Nat} : ((x : Int)).fmod (p : Int) = ((Nat.mod x p : Nat) : Int) := by
  rw [Int.fmod_eq_emod_of_nonneg _ (Int.natCast_nonneg p)]; rfl
theorem E_mulmod {x y p : Nat} : ((x : Int) * (y : Int)).fmod (p : Int) = ((Nat.mod (Nat.mul x y) p : Nat) : Int) := by
  rw [← Int.natCast_mul, E_mod]; rfl
theorem divRZ_eq {p : Nat} (hp : 1 ≤ p) {bt : List Nat} {turn : Nat} : ∀ (n : Nat) (r q : List Nat), E2 (divRZ p bt turn n r q) = divR p (En1 bt) turn n (En1 r) (En1 q)
  | 0, r, q => rfl
  | n + 1, [], q => rfl
  | n + 1, top :: low, q => by
    show E2 (divRZ p bt turn n (cond (Nat.beq (Nat.mod (Nat.mul top turn) p) 0) low (subZ p (Nat.mod (Nat.mul top turn) p) bt low)) (Nat.mod (Nat.mul top turn) p :: q)) =
      divR p (En1 bt) turn n (if (((top : Int) * turn).fmod p == 0) = true then En1 low else subMul p (((top : Int) * turn).fmod p) (En1 bt) (En1 low)) (((top : Int) * turn).fmod p :: En1 q)
    rw [divRZ_eq hp n, E_mulmod, E_eq0, if_b]
    congr 1
    cases Nat.beq (Nat.mod (Nat.mul top turn) p) 0 with
    | true => rfl
    | false => exact subZ_eq hp _ _
noncomputable def divZ (p : Nat) (a b : List Nat) : Option (List Nat × List Nat) :=
  List.casesOn (motive := fun _ => Option (List Nat × List Nat)) (revZ b) none fun l bt =>
    Option.casesOn (motive := fun _ => Option (List Nat × List Nat)) (invZ (Nat.mod l p) p) none fun turn =>
      cond (Nat.ble (lenZ a) 900) (cond (Nat.ble (lenZ b) 900)
        (Prod.casesOn (motive := fun _ => Option (List Nat × List Nat)) (divRZ p bt turn (Nat.sub (Nat.succ (lenZ a)) (lenZ b)) (revZ a) []) fun q r => some (trimZ q, trimZ (revZ r))) none) none
theorem c_some {α : Type} {b : Bool} {x : Option α} {y : α} (h : cond b x none = some y) : b = true ∧ x = some y := by
  cases b with
  | true => exact ⟨rfl, h⟩
  | false => cases h
theorem c_not {α : Type} {b : Bool} {x : Option α} {y : α} (h : cond b none x = some y) : b = false ∧ x = some y := by
  cases b with
  | true => cases h
  | false => exact ⟨rfl, h⟩
theorem o_some {α β : Type} {o : Option α} {g : α → Option β} {y : β} (h : Option.casesOn (motive := fun _ => Option β) o none g = some y) : ∃ x, o = some x ∧ g x = some y := by
  cases o with
  | none => cases h
  | some x => exact ⟨x, rfl, h⟩
theorem l_some {α β : Type} {o : List α} {g : α → List α → Option β} {y : β} (h : List.casesOn (motive := fun _ => Option β) o none g = some y) : ∃ x t, o = x :: t ∧ g x t = some y := by
  cases o with
  | nil => cases h
  | cons x t => exact ⟨x, t, rfl, h⟩
theorem E_last {b : List Nat} {l : Nat} {t : List Nat} (e : revZ b = l :: t) : (En1 b).getLast? = some (l : Int) := by rw [← List.head?_reverse, ← E_rev, e]; rfl
theorem E_inv {l p v : Nat} (e : invZ (Nat.mod l p) p = some v) : invT ((l : Int).fmod p) p = some (v : Int) := by rw [E_mod, ← invZ_eq, e]; rfl
theorem E_le {a : List Nat} {k : Nat} (h : Nat.ble (lenZ a) k = true) : (En1 a).length ≤ k := by rw [E_len, ← lenZ_eq]; exact Nat.le_of_ble_eq_true h
theorem divZ_of {p : Nat} (hp : 1 ≤ p) {a b : List Nat} {x : List Nat × List Nat} (h : divZ p a b = some x) : divS p (En1 a) (En1 b) = some (E2 x) := by
  unfold divZ at h
  obtain ⟨l, bt, e, h⟩ := l_some h
  obtain ⟨turn, e2, h⟩ := o_some h
  obtain ⟨h1, h⟩ := c_some h
  obtain ⟨h2, h⟩ := c_some h
  have hd := divRZ_eq hp (bt := bt) (turn := turn) (lenZ a + 1 - lenZ b) (revZ a) []
  have ht : (En1 b).reverse.tail = En1 bt := by rw [← E_rev, e]; rfl
  unfold divS
  rw [if_pos ⟨E_le h1, E_le h2⟩]
  simp only [E_last e, E_inv e2]
  rw [ht, ← E_rev, E_len, E_len, ← lenZ_eq, ← lenZ_eq]
  show (match divR p (En1 bt) turn (lenZ a + 1 - lenZ b) (En1 (revZ a)) (En1 []) with
    | (q, r) => some (trimS q, trimS r.reverse)) = _
  rw [← hd]
  change (match divRZ p bt turn (lenZ a + 1 - lenZ b) (revZ a) [] with | (q, r) => some (trimZ q, trimZ (revZ r))) = some x at h
  generalize divRZ p bt turn (lenZ a + 1 - lenZ b) (revZ a) [] = y at h ⊢
  cases h
  show some (trimS (En1 y.1), trimS (En1 y.2).reverse) = some (En1 (trimZ y.1), En1 (trimZ (revZ y.2)))
  rw [trimZ_eq, trimZ_eq, E_rev]
end Mine

namespace Mine
open PySem PySem.W PyProof.Rows PySem.Calls
noncomputable def restZ (p : Nat) (a b : List Nat) : Option (List Nat) := (divZ p a b).casesOn none fun x => some x.2
noncomputable def quotZ (p : Nat) (a b : List Nat) : Option (List Nat) := (divZ p a b).casesOn none fun x => some x.1
theorem restZ_of {p : Nat} (hp : 1 ≤ p) {a b r : List Nat} (h : restZ p a b = some r) : restS p (En1 a) (En1 b) = some (En1 r) := by
  obtain ⟨x, e, h⟩ := o_some h
  cases h
  unfold restS; rw [divZ_of hp e]; rfl
theorem quotZ_of {p : Nat} (hp : 1 ≤ p) {a b r : List Nat} (h : quotZ p a b = some r) : quotS p (En1 a) (En1 b) = some (En1 r) := by
  obtain ⟨x, e, h⟩ := o_some h
  cases h
  unfold quotS; rw [divZ_of hp e]; rfl
noncomputable def mulAll (p n : Nat) (a : List Nat) : List Nat := List.rec (motive := fun _ => List Nat) [] (fun x _ ih => Nat.mod (Nat.mul x n) p :: ih) a
theorem mulAll_eq {p n : Nat} : ∀ a : List Nat, En1 (mulAll p n a) = (En1 a).map fun x => (x * (n : Int)).fmod p
  | [] => rfl
  | x :: a => by
    show ((Nat.mod (Nat.mul x n) p : Nat) : Int) :: En1 (mulAll p n a) = ((x : Int) * n).fmod p :: _
    rw [mulAll_eq a, E_mulmod]; rfl
theorem scaleZ_eq {p n : Nat} (a : List Nat) : En1 (trimZ (mulAll p n a)) = scaleS p n (En1 a) := by rw [trimZ_eq, mulAll_eq]; rfl
noncomputable def smallZ (a : List Nat) : Bool := List.rec (motive := fun _ => Bool) true (fun x _ ih => cond (Nat.ble x 999999999) ih false) a
theorem smallZ_of : ∀ {a : List Nat}, smallZ a = true → bound (En1 a)
  | [], _ => nil_bound
  | x :: a, h => by
    have h : cond (Nat.ble x 999999999) (smallZ a) false = true := h
    cases e : Nat.ble x 999999999 with
    | false => rw [e] at h; cases h
    | true =>
      rw [e] at h
      intro y hy
      rcases List.mem_cons.mp hy with rfl | hy
      · have := Nat.le_of_ble_eq_true e
        show ((x : Int)).natAbs < _
        omega
      · exact smallZ_of h y hy
noncomputable def monicZ (p : Nat) (a : List Nat) : Option (List Nat) :=
  cond (smallZ a) (cond (Nat.ble (lenZ a) 900) (List.casesOn (motive := fun _ => Option (List Nat)) (revZ a) (some []) fun l _ =>
    Option.casesOn (motive := fun _ => Option (List Nat)) (invZ (Nat.mod l p) p) none fun v => some (trimZ (mulAll p v a))) none) none
theorem monicZ_of {p : Nat} {a g : List Nat} (h : monicZ p a = some g) : monicF p (En1 a) = some (En1 g) := by
  unfold monicZ at h
  obtain ⟨h1, h⟩ := c_some h
  obtain ⟨h2, h⟩ := c_some h
  unfold monicF
  rw [if_pos ⟨E_le h2, bound_small (smallZ_of h1)⟩]
  cases e : revZ a with
  | nil =>
    rw [e] at h; cases h
    rw [show (En1 a).getLast? = none by rw [← List.head?_reverse, ← E_rev, e]; rfl]; rfl
  | cons l bt =>
    rw [e] at h
    obtain ⟨v, e2, h⟩ := o_some h
    cases h
    simp only [E_last e, E_inv e2]
    exact congrArg some (scaleZ_eq a).symm
noncomputable def gcdZ (p n : Nat) : List Nat → List Nat → Option (List Nat) :=
  Nat.rec (motive := fun _ => List Nat → List Nat → Option (List Nat)) (fun _ _ => none)
    (fun _ ih a b => List.casesOn (motive := fun _ => Option (List Nat)) b (monicZ p a) fun _ _ => Option.casesOn (motive := fun _ => Option (List Nat)) (restZ p a b) none fun r => ih b r) n
theorem gcdZ_of {p : Nat} (hp : 1 ≤ p) : ∀ (n : Nat) {a b g : List Nat}, gcdZ p n a b = some g → gcdS p n (En1 a) (En1 b) = some (En1 g)
  | 0, a, b, g, h => by cases h
  | n + 1, a, [], g, h => monicZ_of h
  | n + 1, a, y :: b, g, h => by
    obtain ⟨r, e, h⟩ := o_some (g := fun r => gcdZ p n (y :: b) r) h
    show (match restS p (En1 a) (En1 (y :: b)) with
      | some r => gcdS p n (En1 (y :: b)) r
      | none => none) = _
    rw [restZ_of hp e]
    exact gcdZ_of hp n h
noncomputable def plusR (p : Nat) (b : List Nat) : List Nat := List.rec (motive := fun _ => List Nat) [] (fun y _ ih => Nat.mod y p :: ih) b
theorem plusR_eq {p : Nat} : ∀ b : List Nat, En1 (plusR p b) = addR p (En1 b)
  | [] => rfl
  | y :: b => by
    show ((Nat.mod y p : Nat) : Int) :: En1 (plusR p b) = (0 + (y : Int)).fmod p :: addR p (En1 b)
    rw [plusR_eq b, Int.zero_add, E_mod]
noncomputable def plusZ (p : Nat) (a : List Nat) : List Nat → List Nat :=
  List.rec (motive := fun _ => List Nat → List Nat) (fun b => plusR p b) (fun x _ ih b => List.casesOn (motive := fun _ => List Nat) b (Nat.mod x p :: ih []) fun y b => Nat.mod (Nat.add x y) p :: ih b) a
theorem plusZ_eq {p : Nat} : ∀ a b : List Nat, En1 (plusZ p a b) = addS p (En1 a) (En1 b)
  | [], b => (plusR_eq b).trans (by cases b <;> rfl)
  | x :: a, [] => by
    show ((Nat.mod x p : Nat) : Int) :: En1 (plusZ p a []) = ((x : Int) + 0).fmod p :: addS p (En1 a) (En1 [])
    rw [plusZ_eq a [], Int.add_zero, E_mod]
  | x :: a, y :: b => by
    show ((Nat.mod (Nat.add x y) p : Nat) : Int) :: En1 (plusZ p a b) = ((x : Int) + y).fmod p :: addS p (En1 a) (En1 b)
    rw [plusZ_eq a b, ← Int.natCast_add, E_mod]; rfl
noncomputable def minusZ (p : Nat) (a : List Nat) : List Nat := List.rec (motive := fun _ => List Nat) [] (fun x _ ih => Nat.mod (Nat.sub p (Nat.mod x p)) p :: ih) a
theorem E_neg {x p : Nat} (hp : 1 ≤ p) : (-(x : Int)).fmod p = ((Nat.mod (Nat.sub p (Nat.mod x p)) p : Nat) : Int) := by
  rw [← E_mod]
  have h : Nat.mod x p < p := Nat.mod_lt x hp
  have e : ((Nat.sub p (Nat.mod x p) : Nat) : Int) = -(x : Int) + p * (1 + (x / p : Nat)) := by
    have h1 : ((Nat.sub p (Nat.mod x p) : Nat) : Int) = (p : Int) - (Nat.mod x p : Nat) := Int.natCast_sub (Nat.le_of_lt h)
    have h2 : (p : Int) * (x / p : Nat) + (Nat.mod x p : Nat) = x := by
      rw [← Int.natCast_mul, ← Int.natCast_add]; exact congrArg Int.ofNat (Nat.div_add_mod x p)
    rw [h1, Int.mul_add, Int.mul_one]; omega
  rw [e, Int.fmod_eq_emod_of_nonneg _ (Int.natCast_nonneg p), Int.fmod_eq_emod_of_nonneg _ (Int.natCast_nonneg p), Int.add_mul_emod_self_left]
theorem minusZ_eq {p : Nat} (hp : 1 ≤ p) : ∀ a : List Nat, En1 (minusZ p a) = negS p (En1 a)
  | [] => rfl
  | x :: a => by
    show ((Nat.mod (Nat.sub p (Nat.mod x p)) p : Nat) : Int) :: En1 (minusZ p a) = (-(x : Int)).fmod p :: negS p (En1 a)
    rw [minusZ_eq hp a, E_neg hp]
noncomputable def mulZ (p : Nat) (a b : List Nat) : List Nat :=
  List.casesOn (motive := fun _ => List Nat) a [] fun _ _ => List.casesOn (motive := fun _ => List Nat) b [] fun _ _ =>
    trimZ (foldZ (fun x F => cond (Nat.beq x 0) F (addZ p x b F)) a (repZ (Nat.sub (Nat.add (lenZ a) (lenZ b)) 1)))
theorem mulZ_eq {p : Nat} : ∀ a b : List Nat, En1 (mulZ p a b) = mulF p (En1 a) (En1 b)
  | [], b => rfl
  | _ :: _, [] => rfl
  | x :: a, y :: b => by
    show En1 (trimZ (foldZ (fun z F => cond (Nat.beq z 0) F (addZ p z (y :: b) F)) (x :: a) (repZ (Nat.sub (Nat.add (lenZ (x :: a)) (lenZ (y :: b))) 1)))) =
      trimS (foldS (fun z F => if (z == 0) = true then F else addMul p z (En1 (y :: b)) F) (En1 (x :: a)) (List.replicate ((En1 (x :: a)).length + (En1 (y :: b)).length - 1) 0))
    rw [trimZ_eq, foldZ_eq (h := fun z F => if (z == 0) = true then F else addMul p z (En1 (y :: b)) F) (fun z F => by
      rw [E_eq0, if_b]
      cases Nat.beq z 0 with
      | true => rfl
      | false => exact addZ_eq (y :: b) F), repZ_eq, lenZ_eq, lenZ_eq, E_len, E_len]
    rfl
noncomputable def stepZ (p : Nat) (q a b : List Nat) : Option (List Nat) := cond (Nat.ble (Nat.add (lenZ q) (lenZ b)) 900) (cond (Nat.ble (lenZ a) 900) (some (trimZ (plusZ p a (minusZ p (mulZ p q b))))) none) none
theorem stepZ_of {p : Nat} (hp : 1 ≤ p) {q a b c : List Nat} (h : stepZ p q a b = some c) : stepS p (En1 q) (En1 a) (En1 b) = some (En1 c) := by
  unfold stepZ at h
  obtain ⟨h1, h⟩ := c_some h
  obtain ⟨h2, h⟩ := c_some h
  cases h
  unfold stepS
  rw [if_pos ⟨by rw [E_len, E_len, ← lenZ_eq, ← lenZ_eq]; exact Nat.le_of_ble_eq_true h1, E_le h2⟩, subF, trimZ_eq, plusZ_eq, minusZ_eq hp, mulZ_eq]
end Mine

namespace Mine
open PySem PySem.W PyProof.Rows PySem.Calls
abbrev Z3 := List Nat × List Nat × List Nat
noncomputable def extZ (p n : Nat) : List Nat → List Nat → List Nat → List Nat → List Nat → List Nat → Option Z3 :=
  Nat.rec (motive := fun _ => List Nat → List Nat → List Nat → List Nat → List Nat → List Nat → Option Z3) (fun _ _ _ _ _ _ => none)
    (fun _ ih a1 a2 a3 b1 b2 b3 => List.casesOn (motive := fun _ => Option Z3) b1 (some (a1, a2, a3)) fun _ _ =>
      Option.casesOn (motive := fun _ => Option Z3) (divZ p a1 b1) none fun x => Option.casesOn (motive := fun _ => Option Z3) (stepZ p x.1 a2 b2) none fun c2 =>
        Option.casesOn (motive := fun _ => Option Z3) (stepZ p x.1 a3 b3) none fun c3 => ih b1 b2 b3 x.2 c2 c3) n
noncomputable def E3 (x : Z3) : List Int × List Int × List Int := (En1 x.1, En1 x.2.1, En1 x.2.2)
theorem extZ_of {p : Nat} (hp : 1 ≤ p) : ∀ (n : Nat) {a1 a2 a3 b1 b2 b3 : List Nat} {g : Z3}, extZ p n a1 a2 a3 b1 b2 b3 = some g → extS p n (En1 a1) (En1 a2) (En1 a3) (En1 b1) (En1 b2) (En1 b3) = some (E3 g)
  | 0, a1, a2, a3, b1, b2, b3, g, h => by cases h
  | n + 1, a1, a2, a3, [], b2, b3, g, h => by cases h; rfl
  | n + 1, a1, a2, a3, y :: b1, b2, b3, g, h => by
    obtain ⟨x, e, h⟩ := o_some h
    obtain ⟨c2, e2, h⟩ := o_some h
    obtain ⟨c3, e3, h⟩ := o_some h
    have ih := extZ_of hp n h
    have d1 := divZ_of hp e
    have d2 := stepZ_of hp e2
    have d3 := stepZ_of hp e3
    unfold extS
    simp only [d1, E2, d2, d3]
    exact ih
noncomputable def ext3Z (p : Nat) (a b : List Nat) : Option (List Nat × List Nat) :=
  Option.casesOn (motive := fun _ => Option (List Nat × List Nat)) (extZ p 100 a [1] [] b [] [1]) none fun x =>
    List.casesOn (motive := fun _ => Option (List Nat × List Nat)) (revZ x.1) none fun l _ =>
      Option.casesOn (motive := fun _ => Option (List Nat × List Nat)) (invZ (Nat.mod l p) p) none fun v =>
        cond (Nat.ble (lenZ x.1) 900) (cond (Nat.ble (lenZ x.2.1) 900) (cond (Nat.ble (lenZ x.2.2) 900) (some (trimZ (mulAll p v x.1), trimZ (mulAll p v x.2.1))) none) none) none
theorem ext3Z_of {p : Nat} (hp : 1 ≤ p) {a b : List Nat} {g : List Nat × List Nat} (h : ext3Z p a b = some g) : ext3S p (En1 a) (En1 b) = some (E2 g) := by
  unfold ext3Z at h
  obtain ⟨x, e, h⟩ := o_some h
  obtain ⟨l, t, e1, h⟩ := l_some h
  obtain ⟨v, e2, h⟩ := o_some h
  obtain ⟨h1, h⟩ := c_some h
  obtain ⟨h2, h⟩ := c_some h
  obtain ⟨h3, h⟩ := c_some h
  cases h
  have ex : extS p 100 (En1 a) [1] [] (En1 b) [] [1] = some (E3 x) := extZ_of hp 100 e
  unfold ext3S
  simp only [ex, E3, E_last e1, E_inv e2]
  rw [if_pos ⟨E_le h1, E_le h2, E_le h3⟩, ← scaleZ_eq, ← scaleZ_eq]
  rfl
noncomputable def minvZ (p : Nat) (a f : List Nat) : Option (Option (List Nat)) :=
  Option.casesOn (motive := fun _ => Option (Option (List Nat))) (restZ p a f) none fun r => Option.casesOn (motive := fun _ => Option (Option (List Nat))) (ext3Z p r f) none fun x =>
    cond (eqZ x.1 [1]) (Option.casesOn (motive := fun _ => Option (Option (List Nat))) (restZ p x.2 f) none fun u => some (some u)) (some none)
theorem E_one (x : List Nat) : eqInts (En1 x) [1] = eqZ x [1] := (eqZ_eq x [1]).symm
theorem E_nil (x : List Nat) : eqInts (En1 x) [] = eqZ x [] := (eqZ_eq x []).symm
theorem minvZ_of {p : Nat} (hp : 1 ≤ p) {a f : List Nat} {u : Option (List Nat)} (h : minvZ p a f = some u) : minvS p (En1 a) (En1 f) = some (u.map En1) := by
  unfold minvZ at h
  obtain ⟨r, e, h⟩ := o_some h
  obtain ⟨x, e1, h⟩ := o_some h
  unfold minvS
  simp only [restZ_of hp e, ext3Z_of hp e1, E2, E_one, if_b]
  cases h1 : eqZ x.1 [1] with
  | false => rw [h1] at h; cases h; rfl
  | true =>
    rw [h1] at h
    obtain ⟨u', e2, h⟩ := o_some h
    cases h
    simp only [restZ_of hp e2]; rfl
noncomputable def rightZ (p : Nat) (f a : List Nat) : Option Nat :=
  Option.casesOn (motive := fun _ => Option Nat) (minvZ p (trimZ a) f) none fun u => Option.casesOn (motive := fun _ => Option Nat) u
    (Option.casesOn (motive := fun _ => Option Nat) (gcdZ p 100 (trimZ a) f) none fun g => Option.casesOn (motive := fun _ => Option Nat) (quotZ p f g) none fun other =>
      cond (Nat.ble 1 (lenZ other)) (cond (Nat.ble (lenZ other) 200) (cond (Nat.ble (lenZ f) (lenZ other)) none (cond (eqZ (trimZ other) []) none (cond (eqZ (trimZ (prodZ p f a other)) []) (some 0) none))) none) none)
    fun told => cond (Nat.ble (lenZ told) 200) (cond (eqZ (trimZ (prodZ p f a (told ++ [0]))) [1]) (some 1) none) none
theorem rightZ_of {p : Nat} (hp : 1 ≤ p) {f a : List Nat} {w : Nat} (h : rightZ p f a = some w) : rightS p (En1 f) (En1 a) = some (w : Int) := by
  unfold rightZ at h
  obtain ⟨u, e, h⟩ := o_some h
  have e := minvZ_of hp e
  rw [trimZ_eq] at e
  unfold rightS
  cases u with
  | some told =>
    obtain ⟨h1, h⟩ := c_some h
    obtain ⟨h2, h⟩ := c_some h
    cases h
    simp only [e, Option.map]
    have e0 : En1 told ++ [0] = En1 (told ++ [0]) := by unfold En1; rw [List.map_append]; rfl
    rw [if_pos (E_le h1), e0, ← prodZ_eq hp, ← trimZ_eq, E_one, h2]; rfl
  | none =>
    obtain ⟨g, e1, h⟩ := o_some h
    obtain ⟨other, e2, h⟩ := o_some h
    obtain ⟨h1, h⟩ := c_some h
    obtain ⟨h2, h⟩ := c_some h
    obtain ⟨h3, h⟩ := c_not h
    obtain ⟨h4, h⟩ := c_not h
    obtain ⟨h5, h⟩ := c_some h
    cases h
    have e1 := gcdZ_of hp 100 e1
    rw [trimZ_eq] at e1
    have k : decide ((En1 f).length ≤ (En1 other).length) = false := decide_eq_false fun q => by
      rw [E_len, E_len, ← lenZ_eq, ← lenZ_eq] at q
      rw [Nat.ble_eq_true_of_le q] at h3; cases h3
    simp only [e, Option.map, e1, quotZ_of hp e2]
    rw [if_pos ⟨by rw [E_len, ← lenZ_eq]; exact Nat.le_of_ble_eq_true h1, E_le h2⟩, k, ← prodZ_eq hp, ← trimZ_eq, ← trimZ_eq, E_nil, E_nil, h4, h5]; rfl

noncomputable def fineZ (a : List Nat) : Bool := cond (smallZ a) (cond (Nat.ble 1 (lenZ a)) (Nat.ble (lenZ a) 300) false) false
theorem c_true {b x : Bool} (h : cond b x false = true) : b = true ∧ x = true := by
  cases b with
  | true => exact ⟨rfl, h⟩
  | false => cases h
theorem fineZ_of {a : List Nat} (h : fineZ a = true) : bound (En1 a) ∧ 1 ≤ (En1 a).length ∧ (En1 a).length ≤ 300 := by
  obtain ⟨h1, h⟩ := c_true h
  obtain ⟨h2, h⟩ := c_true h
  exact ⟨smallZ_of h1, by rw [E_len, ← lenZ_eq]; exact Nat.le_of_ble_eq_true h2, E_le h⟩
noncomputable def b2n (b : Bool) : Nat := cond b 1 0
theorem b2n_eq (b : Bool) : ((b2n b : Nat) : Int) = b2i b := by cases b <;> rfl
theorem resZ_of {p : Nat} {f a : List Nat} {many w : Nat} (hp : 1 ≤ p ∧ p ≤ 1000) (hf : fineZ f = true) (ha : fineZ a = true) (h : rightZ p f a = some w) (o x g u : Nat) :
    resF p (En1 f) many (En1 a) ⟨o, x, g, u⟩ = some ⟨(Nat.add o (b2n (eqZ (powZ p f a 1 a) a)) : Nat), (Nat.add x (b2n (eqZ (powZ p f a (Nat.sub p 1) a) a)) : Nat), (Nat.add g (b2n (eqZ (trimZ (powZ p f a (Nat.sub many 1) a)) [])) : Nat), (Nat.add u w : Nat)⟩ := by
  obtain ⟨f1, f2⟩ := fineZ_of hf
  obtain ⟨a1, a2⟩ := fineZ_of ha
  have hp' : (0 : Int) < p ∧ (p : Int) ≤ 1000 := by omega
  have q := fun n => pow_of hp' a2 f2 n (En1 a) a1 a2.2
  have hr := right_of hp' a1 a2.2 f1 f2 (rightZ_of hp.1 h)
  unfold resF
  simp only [(q 1).1, (q ((p : Int).toNat - 1)).1, (q (many - 1)).1, hr]
  rw [if_pos (by have := (q (many - 1)).2; omega), if_neg (by omega), Int.toNat_natCast]
  rw [← powZ_eq hp.1, ← powZ_eq hp.1, ← powZ_eq hp.1, ← trimZ_eq, E_nil, ← eqZ_eq, ← eqZ_eq, ← b2n_eq, ← b2n_eq, ← b2n_eq]
  rfl
noncomputable def loopZ (p : Nat) (f : List Nat) (many : Nat) (l : List (List Nat)) : Nat → Nat → Nat → Nat → Option Tally :=
  List.rec (motive := fun _ => Nat → Nat → Nat → Nat → Option Tally) (fun o x g u => some ⟨(o : Int), x, g, u⟩)
    (fun a _ ih o x g u => Option.casesOn (motive := fun _ => Option Tally) (rightZ p f a) none fun w => cond (fineZ a)
      (ih (Nat.add o (b2n (eqZ (powZ p f a 1 a) a))) (Nat.add x (b2n (eqZ (powZ p f a (Nat.sub p 1) a) a))) (Nat.add g (b2n (eqZ (trimZ (powZ p f a (Nat.sub many 1) a)) []))) (Nat.add u w)) none) l
theorem loopZ_of {p : Nat} {f : List Nat} {many : Nat} (hp : 1 ≤ p ∧ p ≤ 1000) (hf : fineZ f = true) : ∀ (l : List (List Nat)) (o x g u : Nat) {c : Tally}, loopZ p f many l o x g u = some c → loopF p (En1 f) many (l.map En1) ⟨o, x, g, u⟩ = some c
  | [], o, x, g, u, c, h => h
  | a :: l, o, x, g, u, c, h => by
    obtain ⟨w, e, h⟩ := o_some h
    obtain ⟨ha, h⟩ := c_some h
    unfold List.map loopF
    rw [resZ_of hp hf ha e]
    exact loopZ_of hp hf l _ _ _ _ h
noncomputable def caseZ (p n : Nat) (l : List (List Nat)) (f : List Nat) : Bool := cond (fineZ f) (cond (Nat.beq (lenZ f) (Nat.succ n))
  (Option.casesOn (motive := fun _ => Bool) (loopZ p f n l 0 0 0 0) false fun c => goodEnd (b_lawR (stOf p (En1 f) n c .un .un))) false) false
theorem caseZ_of {p n : Nat} {l : List (List Nat)} {f : List Nat} (hp : 1 ≤ p ∧ p ≤ 1000) (hl : l.map En1 = allS p n) (h : caseZ p n l f = true) : caseOk p (En1 f) = true := by
  obtain ⟨h1, h⟩ := c_true h
  obtain ⟨h2, h⟩ := c_true h
  have e : (En1 f).length - 1 = n := by rw [E_len, ← lenZ_eq, Nat.eq_of_beq_eq_true h2]; rfl
  unfold caseOk
  rw [e, ← hl]
  cases e1 : loopZ p f n l 0 0 0 0 with
  | none => rw [e1] at h; cases h
  | some c =>
    rw [e1] at h
    rw [show loopF (p : Int) (En1 f) n (l.map En1) ⟨0, 0, 0, 0⟩ = some c from loopZ_of hp h1 l 0 0 0 0 e1]
    exact h
theorem allZ_of {p n : Nat} {l : List (List Nat)} (hp : 1 ≤ p ∧ p ≤ 1000) (hl : l.map En1 = allS p n) (h : (l.all fun r => caseZ p n l (r ++ [1])) = true) : ((allS p n).all fun r => caseOk p (r ++ [1])) = true := by
  rw [← hl, List.all_map]
  refine List.all_eq_true.mpr fun r hr => ?_
  have := caseZ_of hp hl (List.all_eq_true.mp h r hr)
  rw [show En1 (r ++ [1]) = En1 r ++ [1] by unfold En1; rw [List.map_append]; rfl] at this
  exact this
end Mine

namespace Mine
open PySem PySem.W PyProof.Rows PySem.Calls
/-- all residues, upon natural numbers -/
noncomputable def spreadZ (p n : Nat) : List Nat := Nat.rec (motive := fun _ => List Nat) [] (fun k ih => Nat.sub p (Nat.succ k) :: ih) n
noncomputable def rowsZ (p n : Nat) : List (List Nat) := Nat.rec (motive := fun _ => List (List Nat)) [[]] (fun _ ih => ih.flatMap fun r => (spreadZ p p).map fun x => r ++ [x]) n
/-- the law upon the k-th part, of m residues, of a list -/
noncomputable def part (p n m k : Nat) : Bool := (((rowsZ p n).drop (m * k)).take m).all fun r => caseZ p n (rowsZ p n) (r ++ [1])
theorem parts_all {p n m c : Nat} (hp : 1 ≤ p ∧ p ≤ 1000) (hr : (rowsZ p n).map En1 = allS p n) (hm : 0 < m) (hl : (rowsZ p n).length ≤ m * c) (h : ∀ k, k < c → part p n m k = true) : ((allS p n).all fun r => caseOk p (r ++ [1])) = true := by
  refine allZ_of hp hr (List.all_eq_true.mpr fun x hx => ?_)
  obtain ⟨i, hi, rfl⟩ := List.mem_iff_getElem.mp hx
  have hk : i / m < c := Nat.div_lt_of_lt_mul (Nat.lt_of_lt_of_le hi hl)
  refine List.all_eq_true.mp (h _ hk) _ (List.mem_iff_getElem?.mpr ⟨i % m, ?_⟩)
  rw [List.getElem?_take_of_lt (Nat.mod_lt _ hm), List.getElem?_drop, Nat.div_add_mod, List.getElem?_eq_getElem hi]
theorem below1 {P : Nat → Prop} (h : P 0) : ∀ k, k < 1 → P k := fun k hk => by rw [Nat.lt_one_iff.mp hk]; exact h
theorem belowS {P : Nat → Prop} {c : Nat} (h : ∀ k, k < c → P k) (h' : P c) : ∀ k, k < c + 1 → P k := fun k hk => (Nat.lt_succ_iff_lt_or_eq.mp hk).elim (h k) fun e => e ▸ h'
theorem c21_0 : part 2 1 2 0 = true := by decide +kernel
theorem c21 : ((allS 2 1).all fun r => caseOk 2 (r ++ [1])) = true := parts_all (n := 1) (m := 2) (c := 1) (by decide) (by kernel_rfl) (by decide) (by decide +kernel) (below1 c21_0)
theorem c22_0 : part 2 2 4 0 = true := by decide +kernel
theorem c22 : ((allS 2 2).all fun r => caseOk 2 (r ++ [1])) = true := parts_all (n := 2) (m := 4) (c := 1) (by decide) (by kernel_rfl) (by decide) (by decide +kernel) (below1 c22_0)
theorem c31_0 : part 3 1 3 0 = true := by decide +kernel
theorem c31 : ((allS 3 1).all fun r => caseOk 3 (r ++ [1])) = true := parts_all (n := 1) (m := 3) (c := 1) (by decide) (by kernel_rfl) (by decide) (by decide +kernel) (below1 c31_0)
theorem c51_0 : part 5 1 5 0 = true := by decide +kernel
theorem c51 : ((allS 5 1).all fun r => caseOk 5 (r ++ [1])) = true := parts_all (n := 1) (m := 5) (c := 1) (by decide) (by kernel_rfl) (by decide) (by decide +kernel) (below1 c51_0)
theorem c23_0 : part 2 3 4 0 = true := by decide +kernel
theorem c23_1 : part 2 3 4 1 = true := by decide +kernel
theorem c23 : ((allS 2 3).all fun r => caseOk 2 (r ++ [1])) = true := parts_all (n := 3) (m := 4) (c := 2) (by decide) (by kernel_rfl) (by decide) (by decide +kernel) (belowS (below1 c23_0) c23_1)
theorem c32_0 : part 3 2 9 0 = true := by decide +kernel
theorem c32 : ((allS 3 2).all fun r => caseOk 3 (r ++ [1])) = true := parts_all (n := 2) (m := 9) (c := 1) (by decide) (by kernel_rfl) (by decide) (by decide +kernel) (below1 c32_0)
theorem c52_0 : part 5 2 5 0 = true := by decide +kernel
theorem c52_1 : part 5 2 5 1 = true := by decide +kernel
theorem c52_2 : part 5 2 5 2 = true := by decide +kernel
theorem c52_3 : part 5 2 5 3 = true := by decide +kernel
theorem c52_4 : part 5 2 5 4 = true := by decide +kernel
theorem c52 : ((allS 5 2).all fun r => caseOk 5 (r ++ [1])) = true := parts_all (n := 2) (m := 5) (c := 5) (by decide) (by kernel_rfl) (by decide) (by decide +kernel) (belowS (belowS (belowS (belowS (below1 c52_0) c52_1) c52_2) c52_3) c52_4)
theorem c24_0 : part 2 4 2 0 = true := by decide +kernel
theorem c24_1 : part 2 4 2 1 = true := by decide +kernel
theorem c24_2 : part 2 4 2 2 = true := by decide +kernel
theorem c24_3 : part 2 4 2 3 = true := by decide +kernel
theorem c24_4 : part 2 4 2 4 = true := by decide +kernel
theorem c24_5 : part 2 4 2 5 = true := by decide +kernel
theorem c24_6 : part 2 4 2 6 = true := by decide +kernel
theorem c24_7 : part 2 4 2 7 = true := by decide +kernel
theorem c24 : ((allS 2 4).all fun r => caseOk 2 (r ++ [1])) = true := parts_all (n := 4) (m := 2) (c := 8) (by decide) (by kernel_rfl) (by decide) (by decide +kernel) (belowS (belowS (belowS (belowS (belowS (belowS (belowS (below1 c24_0) c24_1) c24_2) c24_3) c24_4) c24_5) c24_6) c24_7)
theorem c33_0 : part 3 3 3 0 = true := by decide +kernel
theorem c33_1 : part 3 3 3 1 = true := by decide +kernel
theorem c33_2 : part 3 3 3 2 = true := by decide +kernel
theorem c33_3 : part 3 3 3 3 = true := by decide +kernel
theorem c33_4 : part 3 3 3 4 = true := by decide +kernel
theorem c33_5 : part 3 3 3 5 = true := by decide +kernel
theorem c33_6 : part 3 3 3 6 = true := by decide +kernel
theorem c33_7 : part 3 3 3 7 = true := by decide +kernel
theorem c33_8 : part 3 3 3 8 = true := by decide +kernel
theorem c33 : ((allS 3 3).all fun r => caseOk 3 (r ++ [1])) = true := parts_all (n := 3) (m := 3) (c := 9) (by decide) (by kernel_rfl) (by decide) (by decide +kernel) (belowS (belowS (belowS (belowS (belowS (belowS (belowS (belowS (below1 c33_0) c33_1) c33_2) c33_3) c33_4) c33_5) c33_6) c33_7) c33_8)
end Mine

namespace Mine
open PySem PySem.W PyProof.Rows PySem.Calls
theorem take_spec (z : List Int) (k m : Int) (hm : 0 < m) (hz : z.length ≤ 1000) : ∃ r z' k', k__law_take z k m = some (r, z', k') ∧ 0 ≤ r ∧ r < m ∧ z'.length ≤ z.length := by
  have hm0 : m ≠ 0 := by omega
  cases z with
  | nil =>
    have hb : b__law_take [.box [] k, .fro (.int m)] = some (.ret (.int ((7 * (k + 1) + (k + 1).fdiv 3).fmod m)), [.box [] (k + 1), .fro (.int m)]) := by
      refine (e_seq (σ₁ := [.box [] (k + 1), .fro (.int m)]) rfl).trans ?_
      refine (e_seq ((e_ifF (σ₁ := [.box [] (k + 1), .fro (.int m)]) rfl).trans rfl)).trans ?_
      exact e_seqR (e_ret (e_bin (e_bin (e_bin rfl rfl rfl) (e_bin rfl rfl rfl) rfl) (e_name rfl) (e_mod hm0)))
    refine ⟨(7 * (k + 1) + (k + 1).fdiv 3).fmod m, [], k + 1, ?_, Int.fmod_nonneg_of_pos _ hm, Int.fmod_lt_of_pos _ hm, Nat.le_refl _⟩
    simp only [k__law_take, takeOf, hb]; rfl
  | cons x r =>
    have hl : r.length + 1 ≤ 1000000 := by simp at hz; omega
    have hb : b__law_take [.box (x :: r) k, .fro (.int m)] = some (.ret (.int (x.fmod m)), [.box r (k + 1), .fro (.int m)]) := by
      refine (e_seq (σ₁ := [.box (x :: r) (k + 1), .fro (.int m)]) rfl).trans ?_
      refine e_seqR ((e_if (σ₁ := [.box (x :: r) (k + 1), .fro (.int m)]) ?_).trans ?_)
      · show (if (x :: r).length ≤ 1000000 then some (!(x :: r).isEmpty, _) else none) = _
        rw [if_pos (by simpa using hl)]; rfl
      · refine e_seqR (e_ret (e_bin (σ₁ := [.box r (k + 1), .fro (.int m)]) ?_ (e_name rfl) (e_mod hm0)))
        show (if r.length + 1 ≤ 1000000 then _ else none) = _
        rw [if_pos hl]; rfl
    refine ⟨x.fmod m, r, k + 1, ?_, Int.fmod_nonneg_of_pos _ hm, Int.fmod_lt_of_pos _ hm, by simp⟩
    simp only [k__law_take, takeOf, hb]; rfl

theorem e_take {i : Nat} {g : Sem1} {σ σ₁ : List Slot} {z z' : List Int} {k k' m r : Int} (h : σ[i]? = some (.box z k)) (hg : g σ = some (.int m, σ₁)) (h1 : σ₁[i]? = some (.box z k)) (ht : k__law_take z k m = some (r, z', k')) : takeC k__law_take i g σ = some (.int r, σ₁.set i (.box z' k')) := by simp only [takeC, h, hg, h1, ht]

theorem mem_spread {p : Nat} {x : Int} (h1 : x < p) : ∀ n, n ≤ p → ((p - n : Nat) : Int) ≤ x → x ∈ spread p n
  | 0, _, h => by simp at h; omega
  | n + 1, hn, h => by
    unfold spread
    by_cases hx : x = ((p - (n + 1) : Nat) : Int)
    · rw [hx]; exact List.mem_cons_self
    · exact List.mem_cons_of_mem _ (mem_spread h1 n (by omega) (by omega))
noncomputable def monics (p d : Nat) : List (List Int) := (allS p d).map fun r => r ++ [1]
noncomputable def near (g : List Int) (l : List (List Int)) : Bool := l.any fun x => eqInts g x
theorem near_mem {g : List Int} {l : List (List Int)} (h : near g l = true) : g ∈ l := by
  obtain ⟨x, hx, e⟩ := List.any_eq_true.mp h
  rw [eqInts_iff.mp e]; exact hx
noncomputable def closed1 (p d : Nat) : Bool := (monics p d).all fun f => (spread p p).all fun x => near (timesF p f [x, 1]) (monics p (d + 1))
noncomputable def closed2 (p d : Nat) : Bool := (monics p d).all fun f => (spread p p).all fun x => (spread p p).all fun y => near (timesF p f [x, y, 1]) (monics p (d + 2))
noncomputable def plainF (p d : Nat) : Bool := (monics p d).all fun f => small f && decide (f.length ≤ 100)
structure Closed (p room : Nat) : Prop where
  pos : 0 < p
  le : p ≤ 1000
  one : ∀ d, d + 1 ≤ room → closed1 p d = true
  two : ∀ d, d + 2 ≤ room → closed2 p d = true
  plain : ∀ d, d ≤ room → plainF p d = true
theorem closed_25 : Closed 2 4 := ⟨by decide, by decide, fun d hd => by
  match d, hd with
  | 0, _ => decide +kernel
  | 1, _ => decide +kernel
  | 2, _ => decide +kernel
  | 3, _ => decide +kernel
  | d + 4, hd => omega, fun d hd => by
  match d, hd with
  | 0, _ => decide +kernel
  | 1, _ => decide +kernel
  | 2, _ => decide +kernel
  | d + 3, hd => omega, fun d hd => by
  match d, hd with
  | 0, _ => decide +kernel
  | 1, _ => decide +kernel
  | 2, _ => decide +kernel
  | 3, _ => decide +kernel
  | 4, _ => decide +kernel
  | d + 5, hd => omega⟩
theorem closed_33 : Closed 3 3 := ⟨by decide, by decide, fun d hd => by
  match d, hd with
  | 0, _ => decide +kernel
  | 1, _ => decide +kernel
  | 2, _ => decide +kernel
  | d + 3, hd => omega, fun d hd => by
  match d, hd with
  | 0, _ => decide +kernel
  | 1, _ => decide +kernel
  | d + 2, hd => omega, fun d hd => by
  match d, hd with
  | 0, _ => decide +kernel
  | 1, _ => decide +kernel
  | 2, _ => decide +kernel
  | 3, _ => decide +kernel
  | d + 4, hd => omega⟩
theorem closed_52 : Closed 5 2 := ⟨by decide, by decide, fun d hd => by
  match d, hd with
  | 0, _ => decide +kernel
  | 1, _ => decide +kernel
  | d + 2, hd => omega, fun d hd => by
  match d, hd with
  | 0, _ => decide +kernel
  | d + 1, hd => omega, fun d hd => by
  match d, hd with
  | 0, _ => decide +kernel
  | 1, _ => decide +kernel
  | 2, _ => decide +kernel
  | d + 3, hd => omega⟩

noncomputable def drb : SemS := (seqC (iffC (cmpC gtI (nameC 2) (constC (.int 0))) (seqC (assignC 5 (froC (binC addI (constC (.int 1)) (takeC k__law_take 0 (callC minF (consC (constC (.int 2)) (consC (nameC 2) nilC))))))) (seqC (assignC 3 (froC (callC f__law_times (consC (nameC 3) (consC (iceC (addX (iceC (ownC (compC 6 (rangeIt (consC (nameC 5) nilC)) (takeC k__law_take 0 (nameC 1))))) (iceC (listC (consC (constC (.int 1)) nilC))))) (consC (nameC 1) nilC)))))) (seqC (assignC 2 (froC (binC subI (nameC 2) (nameC 5)))) skipC))) skipC) skipC)
theorem f_times_eq {p : Int} {a b : List Int} (h : a.length + b.length ≤ 900 ∧ 1 ≤ b.length ∧ p ≠ 0 ∧ small a = true) : f__law_times [ofI a, ofI b, .int p] = some (ofI (timesF p a b)) := by
  simp only [f__law_times, ofI, intsOf_map]
  rw [if_pos h]

theorem draw_step {p room0 : Nat} (C : Closed p room0) (z : List Int) (k : Int) (room d : Nat) (f : List Int) (s3 s4 s5 : Slot) (hf : f ∈ monics p d) (hd : d + room = room0) (hz : z.length ≤ 1000) (hs : s3 = .fro (ofI f) ∨ s3 = .own (f.map T.int)) :
    ∃ z' k' room' d' f' s3' s5', drb [.box z k, .fro (.int p), .fro (.int room), s3, s4, s5, .un] = some (.next, [.box z' k', .fro (.int p), .fro (.int (room' : Nat)), s3', s4, s5', .un]) ∧ f' ∈ monics p d' ∧ d' + room' = room0 ∧ z'.length ≤ z.length ∧ (s3' = .fro (ofI f') ∨ s3' = .own (f'.map T.int)) ∧ d ≤ d' ∧ (0 < room → 1 ≤ d') := by
  rcases Nat.eq_zero_or_pos room with h0 | h0
  · subst h0
    refine ⟨z, k, 0, d, f, s3, s5, ?_, hf, hd, Nat.le_refl _, hs, Nat.le_refl _, fun h => absurd h (Nat.lt_irrefl _)⟩
    exact (e_seq ((e_ifF (e_cmp (e_name rfl) rfl rfl)).trans rfl)).trans rfl
  · obtain ⟨r, z1, k1, ht, hr0, hr1, hz1⟩ := take_spec z k (if (room : Int) < 2 then (room : Int) else 2) (by split <;> omega) hz
    have hpl := List.all_eq_true.mp (C.plain d (by omega)) f hf
    simp only [Bool.and_eq_true, decide_eq_true_eq] at hpl
    have nm3 : ∀ (a b c e g : Slot), nameC 3 [a, b, c, s3, e, g, .un] = some (ofI f, [a, b, c, .fro (ofI f), e, g, .un]) := fun a b c e g => by
      rcases hs with rfl | rfl
      · exact e_name rfl
      · exact (e_nameO rfl).trans rfl
    have gt : cmpC gtI (nameC 2) (constC (.int 0)) [.box z k, .fro (.int p), .fro (.int room), s3, s4, s5, .un] = some (true, [.box z k, .fro (.int p), .fro (.int room), s3, s4, s5, .un]) :=
      e_cmp (e_name rfl) rfl (by show some (decide _) = _; rw [decide_eq_true (by omega)])
    have st1 : ∀ tail : SemS, seqC (assignC 5 (froC (binC addI (constC (.int 1)) (takeC k__law_take 0 (callC minF (consC (constC (.int 2)) (consC (nameC 2) nilC))))))) tail [.box z k, .fro (.int p), .fro (.int room), s3, s4, s5, .un] = tail [.box z1 k1, .fro (.int p), .fro (.int room), s3, s4, .fro (.int (1 + r)), .un] := fun tail =>
      (e_seq (e_asg (e_fro (e_bin rfl (e_take rfl (e_call (e_cons rfl (e_cons (e_name rfl) rfl)) rfl) rfl ht) rfl)))).trans rfl
    have fin : ∀ (many : Nat) (cs : List Int) (z2 : List Int) (k2 : Int), 1 + r = (many : Int) → many ≤ room → 1 ≤ many → cs.length = many → z2.length ≤ z1.length → timesF p f (cs ++ [1]) ∈ monics p (d + many) →
        ownC (compC 6 (rangeIt (consC (nameC 5) nilC)) (takeC k__law_take 0 (nameC 1))) [.box z1 k1, .fro (.int p), .fro (.int room), .fro (ofI f), s4, .fro (.int (1 + r)), .un] = some (.own (cs.map T.int), [.box z2 k2, .fro (.int p), .fro (.int room), .fro (ofI f), s4, .fro (.int (1 + r)), .un]) →
        ∃ z' k' room' d' f' s3' s5', drb [.box z k, .fro (.int p), .fro (.int room), s3, s4, s5, .un] = some (.next, [.box z' k', .fro (.int p), .fro (.int (room' : Nat)), s3', s4, s5', .un]) ∧ f' ∈ monics p d' ∧ d' + room' = room0 ∧ z'.length ≤ z.length ∧ (s3' = .fro (ofI f') ∨ s3' = .own (f'.map T.int)) ∧ d ≤ d' ∧ (0 < room → 1 ≤ d') := by
      intro many cs z2 k2 hm hmr hm1 hcl hz2 hmon hcomp
      refine ⟨z2, k2, room - many, d + many, timesF p f (cs ++ [1]), .fro (ofI (timesF p f (cs ++ [1]))), .fro (.int (1 + r)), ?_, hmon, by omega, by omega, .inl rfl, by omega, fun _ => by omega⟩
      have hsub : ((room : Int) - (1 + r)) = ((room - many : Nat) : Int) := by omega
      refine (e_seq ((e_if gt).trans ?_)).trans rfl
      refine (st1 _).trans ?_
      refine (e_seq (e_asg (e_fro (e_call (e_cons (nm3 _ _ _ _ _) (e_cons (e_iceO (e_addX (a := cs) (b := [1]) (e_iceO hcomp) (e_iceO rfl) (by simp; omega))) (e_cons (e_name rfl) rfl))) (f_times_eq ⟨by simp; omega, by simp, by have := C.pos; omega, hpl.1⟩))))).trans ?_
      exact (e_seq (e_asg (e_fro (e_bin (t := .int ((room - many : Nat) : Int)) (e_name rfl) (e_name rfl) (by show some (T.int _) = _; rw [hsub]))))).trans rfl
    have c1 := C.pos
    by_cases hr : r = 0
    · subst hr
      obtain ⟨x, z2, k2, hx, hx0, hx1, hz2⟩ := take_spec z1 k1 p (by omega) (by omega)
      refine fin 1 [x] z2 k2 (by omega) (by omega) (by omega) rfl hz2 ?_ ?_
      · have h1 := List.all_eq_true.mp (C.one d (by omega)) f hf
        have h2 := List.all_eq_true.mp h1 x (mem_spread hx1 p (Nat.le_refl _) (by simpa using hx0))
        exact near_mem h2
      · have e : takeC k__law_take 0 (nameC 1) [.box z1 k1, .fro (.int p), .fro (.int room), .fro (ofI f), s4, .fro (.int (1 + 0)), .fro (.int 0)] = some (.int x, [.box z2 k2, .fro (.int p), .fro (.int room), .fro (ofI f), s4, .fro (.int (1 + 0)), .fro (.int 0)]) := (e_take rfl (e_name rfl) rfl hx).trans rfl
        have er : rangeIt (consC (nameC 5) nilC) [.box z1 k1, .fro (.int p), .fro (.int room), .fro (ofI f), s4, .fro (.int (1 + 0)), .un] = some ([.int 0], [.box z1 k1, .fro (.int p), .fro (.int room), .fro (ofI f), s4, .fro (.int (1 + 0)), .un]) := rfl
        have eg : compG (takeC k__law_take 0 (nameC 1)) ([T.int 0].map fun t (σ : List Slot) => σ.set 6 (.fro t)) [.box z1 k1, .fro (.int p), .fro (.int room), .fro (ofI f), s4, .fro (.int (1 + 0)), .un] = some ([.int x], [.box z2 k2, .fro (.int p), .fro (.int room), .fro (ofI f), s4, .fro (.int (1 + 0)), .fro (.int 0)]) := by
          show (match takeC k__law_take 0 (nameC 1) [.box z1 k1, .fro (.int p), .fro (.int room), .fro (ofI f), s4, .fro (.int (1 + 0)), .fro (.int 0)] with | some (u, σ₁) => (match compG (takeC k__law_take 0 (nameC 1)) [] σ₁ with | some (us, σ₂) => some (u :: us, σ₂) | none => none) | none => none) = _
          rw [e]; rfl
        simp only [ownC, compC, er]
        rw [if_pos (by simp), eg]; rfl
    · have hr1' : r = 1 := by
        have : r < 2 := by split at hr1 <;> omega
        omega
      subst hr1'
      have hroom : 2 ≤ room := by split at hr1 <;> omega
      obtain ⟨x, z2, k2, hx, hx0, hx1, hz2⟩ := take_spec z1 k1 p (by omega) (by omega)
      obtain ⟨y, z3, k3, hy, hy0, hy1, hz3⟩ := take_spec z2 k2 p (by omega) (by omega)
      refine fin 2 [x, y] z3 k3 (by omega) (by omega) (by omega) rfl (by omega) ?_ ?_
      · have h1 := List.all_eq_true.mp (C.two d (by omega)) f hf
        have h2 := List.all_eq_true.mp h1 x (mem_spread hx1 p (Nat.le_refl _) (by simpa using hx0))
        have h3 := List.all_eq_true.mp h2 y (mem_spread hy1 p (Nat.le_refl _) (by simpa using hy0))
        exact near_mem h3
      · have e : takeC k__law_take 0 (nameC 1) [.box z1 k1, .fro (.int p), .fro (.int room), .fro (ofI f), s4, .fro (.int (1 + 1)), .fro (.int 0)] = some (.int x, [.box z2 k2, .fro (.int p), .fro (.int room), .fro (ofI f), s4, .fro (.int (1 + 1)), .fro (.int 0)]) := (e_take rfl (e_name rfl) rfl hx).trans rfl
        have e' : takeC k__law_take 0 (nameC 1) [.box z2 k2, .fro (.int p), .fro (.int room), .fro (ofI f), s4, .fro (.int (1 + 1)), .fro (.int (0 + 1))] = some (.int y, [.box z3 k3, .fro (.int p), .fro (.int room), .fro (ofI f), s4, .fro (.int (1 + 1)), .fro (.int (0 + 1))]) := (e_take rfl (e_name rfl) rfl hy).trans rfl
        have er : rangeIt (consC (nameC 5) nilC) [.box z1 k1, .fro (.int p), .fro (.int room), .fro (ofI f), s4, .fro (.int (1 + 1)), .un] = some ([.int 0, .int (0 + 1)], [.box z1 k1, .fro (.int p), .fro (.int room), .fro (ofI f), s4, .fro (.int (1 + 1)), .un]) := rfl
        have eg : compG (takeC k__law_take 0 (nameC 1)) ([T.int 0, T.int (0 + 1)].map fun t (σ : List Slot) => σ.set 6 (.fro t)) [.box z1 k1, .fro (.int p), .fro (.int room), .fro (ofI f), s4, .fro (.int (1 + 1)), .un] = some ([.int x, .int y], [.box z3 k3, .fro (.int p), .fro (.int room), .fro (ofI f), s4, .fro (.int (1 + 1)), .fro (.int (0 + 1))]) := by
          show (match takeC k__law_take 0 (nameC 1) [.box z1 k1, .fro (.int p), .fro (.int room), .fro (ofI f), s4, .fro (.int (1 + 1)), .fro (.int 0)] with | some (u, σ₁) => (match compG (takeC k__law_take 0 (nameC 1)) ([T.int (0 + 1)].map fun t (σ : List Slot) => σ.set 6 (.fro t)) σ₁ with | some (us, σ₂) => some (u :: us, σ₂) | none => none) | none => none) = _
          rw [e]
          show (match (match takeC k__law_take 0 (nameC 1) [.box z2 k2, .fro (.int p), .fro (.int room), .fro (ofI f), s4, .fro (.int (1 + 1)), .fro (.int (0 + 1))] with | some (u, σ₁) => (match compG (takeC k__law_take 0 (nameC 1)) [] σ₁ with | some (us, σ₂) => some (u :: us, σ₂) | none => none) | none => none) with | some (us, σ₂) => some (T.int x :: us, σ₂) | none => none) = _
          rw [e']; rfl
        simp only [ownC, compC, er]
        rw [if_pos (by simp), eg]; rfl
end Mine

namespace Mine
open PySem PySem.W PyProof.Rows PySem.Calls
theorem draw_loop {p room0 : Nat} (C : Closed p room0) : ∀ (n : Nat) (a : Int) (z : List Int) (k : Int) (room d : Nat) (f : List Int) (s3 s4 s5 : Slot), f ∈ monics p d → d + room = room0 → z.length ≤ 1000 → (s3 = .fro (ofI f) ∨ s3 = .own (f.map T.int)) →
    ∃ z' k' room' d' f' s3' s4' s5', forC 4 drb (rangeT a 1 n) [.box z k, .fro (.int p), .fro (.int room), s3, s4, s5, .un] = some (.next, [.box z' k', .fro (.int p), .fro (.int (room' : Nat)), s3', s4', s5', .un]) ∧ f' ∈ monics p d' ∧ d' + room' = room0 ∧ (s3' = .fro (ofI f') ∨ s3' = .own (f'.map T.int)) ∧ (1 ≤ d ∨ (0 < room ∧ 0 < n) → 1 ≤ d')
  | 0, a, z, k, room, d, f, s3, s4, s5, hf, hd, hz, hs => ⟨z, k, room, d, f, s3, s4, s5, rfl, hf, hd, hs, fun h => by omega⟩
  | n + 1, a, z, k, room, d, f, s3, s4, s5, hf, hd, hz, hs => by
    obtain ⟨z1, k1, room1, d1, f1, t3, t5, e1, h1, h2, h3, h4, h5, h6⟩ := draw_step C z k room d f s3 (.fro (.int a)) s5 hf hd hz hs
    obtain ⟨z2, k2, room2, d2, f2, u3, u4, u5, e2, g1, g2, g3, g4⟩ := draw_loop C n (a + 1) z1 k1 room1 d1 f1 t3 (.fro (.int a)) t5 h1 h2 (by omega) h4
    refine ⟨z2, k2, room2, d2, f2, u3, u4, u5, ?_, g1, g2, g3, fun h => g4 (.inl ?_)⟩
    · show forC 4 drb (.int a :: rangeT (a + 1) 1 n) _ = _
      exact (e_forC e1).trans e2
    · rcases h with h | h
      · omega
      · exact h6 h.1

theorem e_boxF {np extra : Nat} {b : SemS} {xs : List Int} {k : Int} {is : List Int} {t : T} {σ : List Slot} (hl : (is.length + 1 == np) = true) (h : b (.box xs k :: ((is.map T.int).map Slot.fro ++ List.replicate extra .un)) = some (.ret t, σ)) : boxF np extra b xs k is = some t := by simp only [boxF, hl, if_true, h]
theorem drawn_spec {p room : Nat} (C : Closed p room) (hr : 1 ≤ room) (z : List Int) (k : Int) (hz : z.length ≤ 1000) : ∃ f d, k__law_drawn z k [(p : Int), (room : Int)] = some (ofI f) ∧ f ∈ monics p d ∧ 1 ≤ d ∧ d ≤ room := by
  obtain ⟨r, z1, k1, ht, hr0, hr1, hz1⟩ := take_spec z k 3 (by decide) hz
  obtain ⟨z2, k2, room2, d2, f2, u3, u4, u5, e2, g1, g2, g3, g4⟩ := draw_loop C (1 + r).toNat 0 z1 k1 room 0 [1] (.own [T.int 1]) .un .un (List.mem_singleton.mpr rfl) (by omega) (by omega) (.inr rfl)
  refine ⟨f2, d2, ?_, g1, g4 (.inr ⟨by omega, by omega⟩), by omega⟩
  have hn : (((1 + r).toNat : Nat) : Int) = 1 + r := by omega
  have nm : ∃ σ', nameC 3 [.box z2 k2, .fro (.int p), .fro (.int (room2 : Nat)), u3, u4, u5, .un] = some (ofI f2, σ') := by
    rcases g3 with rfl | rfl
    · exact ⟨_, e_name rfl⟩
    · exact ⟨_, e_nameO rfl⟩
  obtain ⟨σ', en⟩ := nm
  have hb : b__law_drawn [.box z k, .fro (.int p), .fro (.int room), .un, .un, .un, .un] = some (.ret (ofI f2), σ') := by
    refine (e_seq (σ₁ := [.box z k, .fro (.int p), .fro (.int room), .own [T.int 1], .un, .un, .un]) rfl).trans ?_
    refine (e_seq ((e_for (e_range (n := (1 + r).toNat) (e_cons (e_bin (t := .int (((1 + r).toNat : Nat) : Int)) rfl (e_take rfl rfl rfl ht) (by show some (T.int _) = _; rw [hn])) rfl) (by omega))).trans e2)).trans ?_
    exact e_seqR (e_ret en)
  exact e_boxF rfl hb

theorem fin_of {p d : Nat} (hp : 0 < p ∧ p ≤ 1000) (h1 : 1 ≤ d) (h2 : d ≤ 100) (hc : ((allS p d).all fun r => caseOk p (r ++ [1])) = true) (hl : ((allS p d).all fun r => r.length == d) = true) (hall : k__law_all [.int (d : Nat), .int p] = some (T2 (allS p d))) : ∀ f ∈ monics p d, ∃ σ', b_lawT (st0 p f) = some (.ret (.bool true), σ') := by
  intro f hf
  obtain ⟨r, hr, rfl⟩ := List.mem_map.mp hf
  have hlen : r.length = d := by simpa using List.all_eq_true.mp hl r hr
  have hfl : (r ++ [1]).length - 1 = d := by simp [hlen]
  exact case_ok hp (by omega) (by simp; omega) (by rw [hfl]; exact hall) (List.all_eq_true.mp hc r hr)
theorem fin2 {d : Nat} (h1 : 1 ≤ d) (h2 : d ≤ 4) : ∀ f ∈ monics 2 d, ∃ σ', b_lawT (st0 2 f) = some (.ret (.bool true), σ') := by
  have : d = 1 ∨ d = 2 ∨ d = 3 ∨ d = 4 := by omega
  rcases this with rfl | rfl | rfl | rfl
  · exact fin_of (by decide) (by decide) (by decide) c21 (by decide +kernel) all21
  · exact fin_of (by decide) (by decide) (by decide) c22 (by decide +kernel) all22
  · exact fin_of (by decide) (by decide) (by decide) c23 (by decide +kernel) all23
  · exact fin_of (by decide) (by decide) (by decide) c24 (by decide +kernel) all24
theorem fin3 {d : Nat} (h1 : 1 ≤ d) (h2 : d ≤ 3) : ∀ f ∈ monics 3 d, ∃ σ', b_lawT (st0 3 f) = some (.ret (.bool true), σ') := by
  have : d = 1 ∨ d = 2 ∨ d = 3 := by omega
  rcases this with rfl | rfl | rfl
  · exact fin_of (by decide) (by decide) (by decide) c31 (by decide +kernel) all31
  · exact fin_of (by decide) (by decide) (by decide) c32 (by decide +kernel) all32
  · exact fin_of (by decide) (by decide) (by decide) c33 (by decide +kernel) all33
theorem fin5 {d : Nat} (h1 : 1 ≤ d) (h2 : d ≤ 2) : ∀ f ∈ monics 5 d, ∃ σ', b_lawT (st0 5 f) = some (.ret (.bool true), σ') := by
  have : d = 1 ∨ d = 2 := by omega
  rcases this with rfl | rfl
  · exact fin_of (by decide) (by decide) (by decide) c51 (by decide +kernel) all51
  · exact fin_of (by decide) (by decide) (by decide) c52 (by decide +kernel) all52

noncomputable def absg (x : Int) : Int := if x < 0 then -x else x
theorem law_holds (xs : List Int) (hx : xs.length ≤ 63) : ∃ σ', b_law (.ext xs :: List.replicate 20 .un) = some (.ret (.bool true), σ') := by
  generalize hys : xs.take (clipAt xs.length 40) = ys
  have hyl : ys.length ≤ 63 := by rw [← hys, List.length_take]; omega
  have s1 : b_law1 (.ext xs :: List.replicate 20 .un) = some (.next, .ext xs :: .box (ys.map absg) 0 :: List.replicate 19 .un) := by
    have hsl : sliceExtC 0 (constP 40) (.ext xs :: List.replicate 20 .un) = some (.own (ys.map T.int), .ext xs :: List.replicate 20 .un) := by
      simp only [sliceExtC, List.getElem?_cons_zero, constP]
      rw [if_pos (by omega)]
      simp only [sliceT, List.length_map]
      rw [← List.map_take, hys]
    have hcm := e_comp (f := callC absF (consC (callC intF (consC (nameC 20) nilC)) nilC)) (it := listIt (iceC (sliceExtC 0 (constP 40)))) (n := 20) (σ := .ext xs :: List.replicate 20 .un) (g := absg) (a := ys) (s := .un) (e_list (e_iceO hsl)) rfl (by omega) fun x _ => rfl
    simp only [b_law1, boxNewC, ownC, hcm, intsOf_map]
    rfl
  obtain ⟨r, z1, k1, ht, hr0, hr1, hz1⟩ := take_spec (ys.map absg) 0 3 (by decide) (by rw [List.length_map]; omega)
  have hz1' : z1.length ≤ 1000 := by rw [List.length_map] at hz1; omega
  have s2 : ∀ (p room : Int), atT [.tup [.int 2, .int 4], .tup [.int 3, .int 3], .tup [.int 5, .int 2]] r = some (.tup [.int p, .int room]) → b_law2 (.ext xs :: .box (ys.map absg) 0 :: List.replicate 19 .un) = some (.next, .ext xs :: .box z1 k1 :: .fro (.int p) :: .fro (.int room) :: List.replicate 17 .un) := by
    intro p room ha
    refine (e_unpack (ts := [.int p, .int room]) (σ₁ := .ext xs :: .box z1 k1 :: List.replicate 19 .un) ?_ rfl).trans rfl
    have hL : iceC (listC (consC (tupC (consC (constC (.int 2)) (consC (constC (.int 4)) nilC))) (consC (tupC (consC (constC (.int 3)) (consC (constC (.int 3)) nilC))) (consC (tupC (consC (constC (.int 5)) (consC (constC (.int 2)) nilC))) nilC)))) (.ext xs :: .box (ys.map absg) 0 :: List.replicate 19 .un) = some (.list [.tup [.int 2, .int 4], .tup [.int 3, .int 3], .tup [.int 5, .int 2]], .ext xs :: .box (ys.map absg) 0 :: List.replicate 19 .un) := rfl
    have hT : takeC k__law_take 1 (constC (.int 3)) (.ext xs :: .box (ys.map absg) 0 :: List.replicate 19 .un) = some (.int r, .ext xs :: .box z1 k1 :: List.replicate 19 .un) := (e_take rfl rfl rfl ht).trans rfl
    simp only [Mine.atI, hL, hT, ha]
  have s3 : ∀ (p room : Nat) (f : List Int), k__law_drawn z1 k1 [(p : Int), (room : Int)] = some (ofI f) → b_law3 (.ext xs :: .box z1 k1 :: .fro (.int p) :: .fro (.int room) :: List.replicate 17 .un) = some (.next, .ext xs :: .un :: .fro (.int p) :: .fro (.int room) :: .fro (ofI f) :: List.replicate 16 .un) := by
    intro p room f hk
    refine (e_asg (e_fro (σ₁ := .ext xs :: .un :: .fro (.int p) :: .fro (.int room) :: List.replicate 17 .un) ?_)).trans rfl
    have hpl : consPL (nameP 2) (consPL (nameP 3) nilPL) (.ext xs :: .box z1 k1 :: .fro (.int p) :: .fro (.int room) :: List.replicate 17 .un) = some [(p : Int), (room : Int)] := rfl
    have h1 : (Slot.ext xs :: Slot.box z1 k1 :: Slot.fro (.int p) :: Slot.fro (.int room) :: List.replicate 17 Slot.un)[1]? = some (.box z1 k1) := rfl
    simp only [drawnC, h1, hpl, hk]; rfl
  have fin : ∀ (p room : Nat), Closed p room → 1 ≤ room → (∀ d, 1 ≤ d → d ≤ room → ∀ f ∈ monics p d, ∃ σ', b_lawT (st0 p f) = some (.ret (.bool true), σ')) → atT [.tup [.int 2, .int 4], .tup [.int 3, .int 3], .tup [.int 5, .int 2]] r = some (.tup [.int p, .int room]) → ∃ σ', b_law (.ext xs :: List.replicate 20 .un) = some (.ret (.bool true), σ') := by
    intro p room C h1 hall ha
    obtain ⟨f, d, hk, hf, hd1, hd2⟩ := drawn_spec C h1 z1 k1 hz1'
    obtain ⟨σ', e⟩ := hall d hd1 hd2 f hf
    refine ⟨σ', ?_⟩
    refine (e_seq s1).trans ?_
    refine (e_seq (s2 p room ha)).trans ?_
    refine (e_seq (s3 p room f hk)).trans ?_
    exact e
  have : r = 0 ∨ r = 1 ∨ r = 2 := by omega
  rcases this with h | h | h
  · exact fin 2 4 closed_25 (by decide) (fun d a b => fin2 a b) (by rw [h]; rfl)
  · exact fin 3 3 closed_33 (by decide) (fun d a b => fin3 a b) (by rw [h]; rfl)
  · exact fin 5 2 closed_52 (by decide) (fun d a b => fin5 a b) (by rw [h]; rfl)
end Mine

namespace Mine
open PySem PySem.W PyProof.Rows PySem.Calls
theorem recs_are : (recsOf Mine.qv).map (fun d => (⟨d.name, d.params, d.body, d.scope⟩ : FRec)) = defsAt.map frec := by kernel_rfl

section
variable {prog : Program} {w : World} {mean : ExcName → Option Value} {mg mb : Str → Option Value} {h : Heap}
abbrev gloOf (prog : Program) (w : World) (h : Heap) (mg mb : Str → Option Value) : Glo := ⟨prog, w, h, mg, mb⟩

theorem fn_all (T : Top Mine.qv (looseW Mine.qv []) mean mg mb h) : ∀ i ∈ defsAt, FnAt (gloOf prog w h mg mb) (frec i) := by
  intro i hi
  have hm : frec i ∈ (recsOf Mine.qv).map (fun d => (⟨d.name, d.params, d.body, d.scope⟩ : FRec)) := by rw [recs_are]; exact List.mem_map_of_mem hi
  obtain ⟨d, hd, e⟩ := List.mem_map.mp hm
  obtain ⟨a, o, pm, code, doc, h1, h2, h3, h4⟩ := T.fn d hd
  rw [← e]
  exact ⟨a, o, pm, code, doc, h1, h2, h3, h4⟩

noncomputable def ownNames : List Str := (["extended", "inverse_mod", "mtrim", "mdegree", "mlead", "madd", "mneg", "msub", "mscale", "mmul", "mdivmod", "mrest", "mquotient", "mmonic", "mderive", "mpower_mod", "morder", "mroot", "mgcd", "mextended", "minverse", "parts_once", "square_free_parts", "distinct_degrees", "trace_power", "split_power", "split_once", "equal_degree", "first_split", "counted", "prime_parts", "mfactor", "factor_order", "berlekamp_matrix", "null_space", "pivot_row", "clear_below", "count_factors", "_law_take", "_law_left", "_law_times", "_law_power", "_law_drawn", "_law_all", "_law_cut", "_law_inverse_right", "law"] : List String).map Str.ofString
theorem names_are : (recsOf Mine.qv).map (·.name) = ownNames := by kernel_rfl
theorem lits_are : ((litsOf Mine.qv).map (·.1)).all (fun x => startupNames.contains x || x == "__name__") = true := by decide +kernel
theorem clss_are : (clssOf Mine.qv (looseW Mine.qv [])).map (·.name) = [] := by kernel_rfl
theorem loose_are : looseW Mine.qv [] = [] := by kernel_rfl
theorem bi_of (T : Top Mine.qv (looseW Mine.qv []) mean mg mb h) {x : Str} {v : Value} (h1 : (startupNames.contains x || ownNames.contains x || x == ("__name__" : Str)) = false)
    (h2 : bootBuiltins x = some v) : Bi (gloOf prog w h mg mb) x v := by
  simp only [Bool.or_eq_false_iff] at h1
  obtain ⟨⟨a, c⟩, f⟩ := h1
  have ne : x ≠ ("__name__" : Str) := by simpa using f
  refine ⟨T.free x (by simpa using a) ?_ ?_ ?_ ?_, (T.builtins x ne).trans h2⟩
  · rw [loose_are]; exact List.not_mem_nil
  · rw [names_are]; simpa using c
  · intro hm
    have := List.all_eq_true.mp lits_are x hm
    rw [a, f] at this; cases this
  · rw [clss_are]; exact List.not_mem_nil

theorem bl_len : bootBuiltins "len" = some (.builtin "len") := by decide +kernel
theorem bl_max : bootBuiltins "max" = some (.builtin "max") := by decide +kernel
theorem bl_min : bootBuiltins "min" = some (.builtin "min") := by decide +kernel
theorem bl_abs : bootBuiltins "abs" = some (.builtin "abs") := by decide +kernel
theorem bl_int : bootBuiltins "int" = some (.type "int") := by decide +kernel
theorem bl_list : bootBuiltins "list" = some (.type "list") := by decide +kernel
theorem bl_range : bootBuiltins "range" = some (.type "range") := by decide +kernel
theorem bl_enumerate : bootBuiltins "enumerate" = some (.type "enumerate") := by decide +kernel
theorem bl_zip : bootBuiltins "zip" = some (.type "zip") := by decide +kernel
theorem bl_sorted : bootBuiltins "sorted" = some (.builtin "sorted") := by decide +kernel
theorem en_of (T : Top Mine.qv (looseW Mine.qv []) mean mg mb h) : En (gloOf prog w h mg mb) where
  ok := ⟨T.g, T.b, T.nolimit⟩
  len := bi_of T (by decide +kernel) bl_len
  max := bi_of T (by decide +kernel) bl_max
  min := bi_of T (by decide +kernel) bl_min
  abs := bi_of T (by decide +kernel) bl_abs
  int := bi_of T (by decide +kernel) bl_int
  list := bi_of T (by decide +kernel) bl_list
  range := bi_of T (by decide +kernel) bl_range
  enumerate := bi_of T (by decide +kernel) bl_enumerate
  zip := bi_of T (by decide +kernel) bl_zip
  sorted := bi_of T (by decide +kernel) bl_sorted
  fn := fn_all T

noncomputable def lawLocs (L : Addr) : Nat → Option Loc := fun i => match vs_law[i]? with
  | some x => some (.loc L x)
  | none => none

theorem law_run (T : Top Mine.qv (looseW Mine.qv []) mean mg mb h) {A : Around} (hA : AOk 14 A) {name : Str} {fa l : Addr} {cd : Value} {s : Shared} {m : Str → Option Value} (F : Fr h h.objs.size s.heap m) (hm : m "script" = some (.ref l)) {vs : List Value} {xs : List Int} (hL : h.IsList l vs.toArray) (hI : IntsAre vs xs)
    (hlaw : ∃ σ', b_law (.ext xs :: List.replicate 20 .un) = some (.ret (.bool true), σ')) {Q : Flow → Shared → Prop} (hQ : ∀ h' tk, Grows h h' → Q (.ret (.bool true)) { s with heap := h', toks := tk }) :
    wpAny (model prog w) A (execs F_law.body (envOf name F_law.scope h.objs.size fa cd)) Q (fun _ _ => False) s := by
  obtain ⟨σ', e⟩ := hlaw
  obtain ⟨o, ho, hc, n, hd⟩ := hL
  have E : En (gloOf prog w h mg mb) := en_of T
  have nd : vs_law.Nodup := by decide +kernel
  have hlocal : (vs_law.all fun x => F_law.scope.names.lookup x == some .local) = true := by decide +kernel
  have locAt : ∀ {i ℓ}, lawLocs h.objs.size i = some ℓ → ∃ x, vs_law[i]? = some x ∧ ℓ = .loc h.objs.size x := fun {i ℓ} e => by
    unfold lawLocs at e
    split at e
    · rename_i x hx; cases e; exact ⟨x, hx, rfl⟩
    · cases e
  have act : Act (gloOf prog w h mg mb) (fun a o => h.get? a = some o) (fun a p => a = l ∧ p = o) (fun a p => a = l ∧ p = o) (lawLocs h.objs.size) (.ext xs :: List.replicate 20 .un) s.heap := {
    top := fun _ _ q => q
    base := fun a p q => F.keep a p q
    zone := fun a p q => by obtain ⟨rfl, rfl⟩ := q; exact ⟨F.keep _ _ ho, _, _, hd⟩
    z0 := fun a p q => by obtain ⟨rfl, rfl⟩ := q; exact ho
    zold := fun _ _ q => .inl q
    inj := fun i j ℓ h1 h2 => by
      obtain ⟨x, hx, rfl⟩ := locAt h1
      obtain ⟨y, hy, q⟩ := locAt h2
      injection q with _ q; subst q
      exact (List.getElem?_inj (List.getElem?_eq_some_iff.mp hx).1 nd).mp (hx.trans hy.symm)
    loc := fun i ℓ e => by
      obtain ⟨x, hx, rfl⟩ := locAt e
      exact ⟨⟨_, m, F.ns, rfl⟩, fun p q => Nat.lt_irrefl _ (Heap.lt_size q)⟩
    sl := by
      refine ⟨fun _ => [], fun i q e => ?_, fun _ _ hb => (nomatch hb), fun _ _ _ hb => (nomatch hb)⟩
      cases i with
      | zero =>
        simp at e; subst e
        exact ⟨rfl, l, o, .loc h.objs.size "script", vs, n, rfl, ⟨m, F.ns, hm⟩, ⟨rfl, rfl⟩, hc, hd, hI⟩
      | succ i =>
        rw [List.getElem?_cons_succ] at e
        obtain ⟨h1, h2⟩ := List.getElem?_eq_some_iff.mp e
        rw [List.getElem_replicate] at h2
        subst h2; rfl }
  have hE : EnvOk ⟨F_law.scope, vs_law.zipIdx, 14, vs_law.length⟩ (envOf name F_law.scope h.objs.size fa cd) (lawLocs h.objs.size) := by
    refine ⟨rfl, rfl, rfl, rfl, fun x i hx => ?_, fun i hi => ?_⟩
    · obtain ⟨_, h2⟩ := zipIdx_lookup hx
      rw [Nat.sub_zero] at h2
      refine .inl ⟨?_, by unfold lawLocs; rw [h2]; rfl⟩
      have q := List.all_eq_true.mp hlocal x (List.mem_of_getElem? h2)
      have h3 : F_law.scope.names.lookup x = some .local := by simpa using q
      exact h3
    · show lawLocs _ i = none
      unfold lawLocs
      rw [List.getElem?_eq_none hi]
  refine p_law E _ _ _ e A _ _ _ _ _ s hA hE act Q fun h' tk Z' fl hz act' hfl => ?_
  obtain ⟨v, rfl, hv⟩ := hfl.retIs
  cases hv
  exact hQ h' tk fun a p q => act'.base a p q
end
end Mine

open PySem PySem.W PyProof.Rows
theorem Mine.caller_ok (env : Env) : Mine.AOk 14 (callerA.deeper env) := ⟨rfl, by show 1 + claimMargin + 1 + 14 < recursionLimit; decide +kernel, by show 4 + 3 + 10 * 14 < 9000; decide⟩
theorem Mine.said : PySem.Challenge.rw_oj0007_01.wellSaid = true := by
  unfold OpenLaw.wellSaid OpenRow.wellSaid OpenRow.partSaid looksOpen
  repeat' (with_reducible refine look_both ?_ ?_)
  all_goals decide +kernel
set_option maxHeartbeats 8000000 in
theorem PySem.Challenge.cw_oj0007_01_holds : PySem.Challenge.rw_oj0007_01.Holds := by
  w_on
  refine holds_law Mine.said fun said => ?_
  refine holds_open (q := Mine.qv) (loose := []) (Xt := fun s => xlAt Mine.qv [] s && recOk [] s) (XP := XL Mine.qv []) (Yf := fun _ => ()) (Ya := fun _ => ()) (YP := fun _ _ => True) (N := 3182) Mine.left (fun _ _ _ => trivial) (fun _ _ _ _ _ => trivial) (fun s e => xl_of s (Bool.and_eq_true_iff.mp e).1) XL.keeps (by rfl) (by rfl) (by rfl) (fun s e => recFacts_of (Bool.and_eq_true_iff.mp e).2) rfl said (by decide +kernel) ⟨rfl, rfl, rfl, rfl, rfl, by decide +kernel⟩ ?hw ?hc
  case hw => exact ⟨[.list []], by decide +kernel, by decide +kernel⟩
  case hc =>
    intro w s₀ s₁ mg mb G Y fa o pm cd doc dV kV ho hd hcd hD hmg hg args vals as hpre hlay hrd hwl hlo
    refine Ground.open G ?_
    intro T B D TE TW
    clear B D TE TW
    wrow_args hpre hlay hrd hwl hlo
    refine enter_call ?_
    w_top on
    try refine codeAny_mono ?_ (fun _ _ g => GoodW.toG g)
    have K0 := below_caller (Top.heap T)
    w_call any ho hd hcd hD T F
    refine wpAny_mono (Mine.law_run (by assumption) (Mine.caller_ok _) (by assumption) rfl (by assumption) (by assumption) (Mine.law_holds _ (by omega)) (fun h' tk gr => ?_)) (fun _ _ q => q) (fun _ _ q => q.elim)
    exact ⟨.inl ⟨_, _, [], rfl, fun _ => rfl, ReadsW.bool true, by wrow_post, fun _ => ⟨List.nodup_nil, fun _ hm => (nomatch hm)⟩⟩, gr, rfl, hg⟩
