import PyProof.Rows.All
import Wide.All
import OpenK.AllK
import Wide.FinOn
import PySem.Challenge.RW_ov0067_01
open PySem PySem.W PyProof.Rows PySem.Calls PySem.SeqAt
set_option Elab.async false
set_option maxRecDepth 100000
set_option linter.unusedVariables false
set_option maxHeartbeats 8000000
set_option compiler.extract_closed false
namespace Mine
noncomputable section TextMW1
abbrev Led := Addr → Option Obj
def upd (σ : Led) (a : Addr) (o : Obj) : Led := fun b => if b = a then some o else σ b
theorem upd_same {σ : Led} {a : Addr} {o : Obj} : upd σ a o a = some o := if_pos rfl
theorem upd_ne {σ : Led} {a b : Addr} {o : Obj} (h : b ≠ a) : upd σ a o b = σ b := if_neg h
theorem upd_get {σ : Led} {a b : Addr} {o ob : Obj} (h : σ a = none) (hb : σ b = some ob) : upd σ a o b = some ob := by
  rw [upd_ne (by rintro rfl; rw [h] at hb; cases hb)]; exact hb
theorem upd_none {σ : Led} {a b : Addr} {o : Obj} (hb : upd σ a o b = none) : σ b = none ∧ b ≠ a := by
  unfold upd at hb; split at hb
  · cases hb
  · exact ⟨hb, by assumption⟩
theorem upd_upd {σ : Led} {a : Addr} {o o' : Obj} : upd (upd σ a o) a o' = upd σ a o' := by
  funext b; unfold upd; split <;> rfl

/-- what is known in σ is known in σ' -/
def Le (σ σ' : Led) : Prop := ∀ a o, σ a = some o → σ' a = some o
theorem Le.refl {σ : Led} : Le σ σ := fun _ _ e => e
theorem Le.trans {a b c : Led} (x : Le a b) (y : Le b c) : Le a c := fun _ _ e => y _ _ (x _ _ e)
theorem Le.upd {σ : Led} {a : Addr} {o : Obj} (h : σ a = none) : Le σ (upd σ a o) := fun _ _ e => upd_get h e
/-- the base: the written part of the top, the globals, the built-ins -/
structure Gd (K : Frag) (g : Led) : Prop where
  ex : ∃ (h₀ : Heap) (mg mb : Str → Option Value), (∀ a o, h₀.get? a = some o → g a = some o) ∧ K.In h₀ ∧ h₀.Ns mainGlobals mg ∧ h₀.Ns builtinsNs mb ∧ h₀.NoLimit ∧ ∀ x : Str, x ≠ "__name__" → mb x = bootBuiltins x
theorem Gd.mono {K : Frag} {g g' : Led} (G : Gd K g) (h : Le g g') : Gd K g' := by
  obtain ⟨h₀, mg, mb, a, r⟩ := G.ex
  exact ⟨h₀, mg, mb, fun x o e => h _ _ (a x o e), r⟩

structure Hp (K : Frag) (g σ : Led) (os : OsState) (s : Shared) : Prop where
  gd : Gd K g
  keep : ∀ a o, g a = some o → s.heap.get? a = some o
  led : ∀ a o, σ a = some o → s.heap.get? a = some o
  dis : ∀ a o, σ a = some o → g a = none
  gens : s.gens = #[]
  os : s.os = os

theorem Hp.kin {K : Frag} {g σ : Led} {os : OsState} {s : Shared} (H : Hp K g σ os s) : K.In s.heap := by
  obtain ⟨h₀, mg, mb, a, k, _⟩ := H.gd.ex
  exact fun b o e => H.keep _ _ (a _ _ (k b o e))
theorem Hp.nolimit {K : Frag} {g σ : Led} {os : OsState} {s : Shared} (H : Hp K g σ os s) : s.heap.NoLimit := by
  obtain ⟨h₀, mg, mb, a, k, _, _, n, _⟩ := H.gd.ex
  exact n.keeps fun b o e => H.keep _ _ (a _ _ e)
theorem Hp.weak {K : Frag} {g σ σ' : Led} {os : OsState} {s : Shared} (H : Hp K g σ os s) (h : Le σ' σ) : Hp K g σ' os s :=
  ⟨H.gd, H.keep, fun a o e => H.led a o (h _ _ e), fun a o e => H.dis a o (h _ _ e), H.gens, H.os⟩
theorem Hp.tok {K : Frag} {g σ : Led} {os : OsState} {s : Shared} (H : Hp K g σ os s) (t : Nat) : Hp K g σ os { s with toks := t } :=
  ⟨H.gd, H.keep, H.led, H.dis, H.gens, H.os⟩

/-- a change of the heap that goes by the ledger -/
structure Chg (σ : Led) (h : Heap) (σ' : Led) (h' : Heap) : Prop where
  keep : ∀ b o, σ b = none → h.get? b = some o → h'.get? b = some o
  led : ∀ b o, σ' b = some o → h'.get? b = some o
  new : ∀ b o, σ' b = some o → σ b = none → h.get? b = none
theorem Chg.refl {σ : Led} {h : Heap} (hl : ∀ a o, σ a = some o → h.get? a = some o) : Chg σ h σ h :=
  ⟨fun _ _ _ e => e, hl, fun b o e n => by rw [n] at e; cases e⟩
theorem Hp.chg {K : Frag} {g σ σ' : Led} {os : OsState} {s : Shared} {h' : Heap} (H : Hp K g σ os s) (C : Chg σ s.heap σ' h') (t : Nat) : Hp K g σ' os { s with heap := h', toks := t } := by
  refine ⟨H.gd, fun a o e => C.keep a o ?_ (H.keep a o e), C.led, fun a o e => ?_, H.gens, H.os⟩
  · cases q : σ a with
    | none => rfl
    | some o' => rw [H.dis a o' q] at e; cases e
  · cases q : σ a with
    | some o' => exact H.dis a o' q
    | none =>
      cases r : g a with
      | none => rfl
      | some o' => have := C.new a o e q; rw [H.keep a o' r] at this; cases this
def baseOf (σ : Led) (h : Heap) : Led := fun b => match σ b with | some _ => none | none => h.get? b
theorem baseOf_none {σ : Led} {h : Heap} {b : Addr} (e : σ b = none) : baseOf σ h b = h.get? b := by unfold baseOf; rw [e]
theorem baseOf_some {σ : Led} {h : Heap} {b : Addr} {o : Obj} (e : σ b = some o) : baseOf σ h b = none := by unfold baseOf; rw [e]
theorem Hp.base {K : Frag} {g σ : Led} {os : OsState} {s : Shared} (H : Hp K g σ os s) :
    ∃ g', Hp K g' σ os s ∧ Le g g' ∧ (∀ b o, σ b = none → s.heap.get? b = some o → g' b = some o) ∧ ∀ σ' s', Hp K g' σ' os s' → Chg σ s.heap σ' s'.heap := by
  have hle : Le g (baseOf σ s.heap) := fun a o e => by
    cases q : σ a with
    | none => rw [baseOf_none q]; exact H.keep a o e
    | some o' => rw [H.dis a o' q] at e; cases e
  have hb : ∀ b o, σ b = none → s.heap.get? b = some o → baseOf σ s.heap b = some o := fun b o e q => by rw [baseOf_none e]; exact q
  refine ⟨_, ⟨H.gd.mono hle, fun a o e => ?_, H.led, fun a o e => baseOf_some e, H.gens, H.os⟩, hle, hb, fun σ' s' H' => ⟨fun b o e q => H'.keep b o (hb b o e q), H'.led, fun b o e n => ?_⟩⟩
  · cases q : σ a with
    | none => rw [baseOf_none q] at e; exact e
    | some o' => rw [baseOf_some q] at e; cases e
  · have := H'.dis b o e
    rw [baseOf_none n] at this; exact this

theorem Chg.push {σ : Led} {h : Heap} {o : Obj} (hl : ∀ a o, σ a = some o → h.get? a = some o) (hf : o.isFreed = false) : σ h.objs.size = none ∧ Chg σ h (upd σ h.objs.size o) (h.push o) := by
  have hn : σ h.objs.size = none := by
    cases q : σ h.objs.size with
    | none => rfl
    | some o' => exact absurd (Heap.lt_size (hl _ _ q)) (Nat.lt_irrefl _)
  refine ⟨hn, fun b o' _ e => Heap.get?_push_of_some _ e, fun b o' e => ?_, fun b o' e n => ?_⟩
  · unfold upd at e; split at e
    · rename_i q; cases e; rw [q]; exact Heap.get?_push_size _ hf
    · exact Heap.get?_push_of_some _ (hl _ _ e)
  · unfold upd at e; split at e
    · rename_i q; rw [q]
      cases r : h.get? h.objs.size with
      | none => rfl
      | some o₂ => exact absurd (Heap.lt_size r) (Nat.lt_irrefl _)
    · rw [n] at e; cases e
theorem Chg.set {σ : Led} {h h' : Heap} {a : Addr} {o o' : Obj} (hl : ∀ a o, σ a = some o → h.get? a = some o) (ha : σ a = some o) (hs : Heap.SameBut a h h') (hg : h'.get? a = some o') : Chg σ h (upd σ a o') h' := by
  refine ⟨fun b ob n e => ?_, fun b ob e => ?_, fun b ob e n => ?_⟩
  · exact (hs.2 b (by rintro rfl; rw [ha] at n; cases n)).trans e
  · unfold upd at e; split at e
    · rename_i q; cases e; rw [q]; exact hg
    · rename_i q; exact (hs.2 b q).trans (hl _ _ e)
  · unfold upd at e; split at e
    · rename_i q; rw [q, ha] at n; cases n
    · rw [n] at e; cases e
theorem Chg.trans {σ₁ σ₂ σ₃ : Led} {h₁ h₂ h₃ : Heap} (x : Chg σ₁ h₁ σ₂ h₂) (y : Chg σ₂ h₂ σ₃ h₃) : Chg σ₁ h₁ σ₃ h₃ := by
  refine ⟨fun b o n e => ?_, y.led, fun b o e n => ?_⟩
  · have e2 := x.keep b o n e
    cases q : σ₂ b with
    | none => exact y.keep b o q e2
    | some o' => have := x.new b o' q n; rw [e] at this; cases this
  · cases q : σ₂ b with
    | some o' => exact x.new b o' q n
    | none =>
      have h2 := y.new b o e q
      cases r : h₁.get? b with
      | none => rfl
      | some o' => have := x.keep b o' n r; rw [h2] at this; cases this
theorem Chg.weak {σ σ' σ'' : Led} {h h' : Heap} (x : Chg σ h σ' h') (l : Le σ'' σ') : Chg σ h σ'' h' :=
  ⟨x.keep, fun b o e => x.led b o (l _ _ e), fun b o e n => x.new b o (l _ _ e) n⟩

/-! names -/
inductive Ld : List (Str × NameKind) → List (Option Value) → Str → NameKind → Option Value → Prop
  | here {x k ns v vs} : Ld ((x, k) :: ns) (v :: vs) x k v
  | next {n ns v vs x k u} : Ld ns vs x k u → Ld (n :: ns) (v :: vs) x k u
inductive Sto : List (Str × NameKind) → List (Option Value) → Str → NameKind → Value → List (Option Value) → Prop
  | here {x k ns v vs u} : Sto ((x, k) :: ns) (v :: vs) x k u (some u :: vs)
  | next {n ns v vs x k u vs'} : Sto ns vs x k u vs' → Sto (n :: ns) (v :: vs) x k u (v :: vs')
inductive Nm : List (Str × NameKind) → Str → NameKind → Prop
  | here {x k ns} : Nm ((x, k) :: ns) x k
  | next {n ns x k} : Nm ns x k → Nm (n :: ns) x k

def namesOk (ns : List (Str × NameKind)) : Bool :=
  decide (ns.map (·.1)).Nodup && ns.all fun n => !(n.1 == ("__debug__" : Str)) && !(n.1 == ("__classdict__" : Str)) && !(n.1 == ("__name__" : Str))
theorem Nm.mem {ns x k} (h : Nm ns x k) : (x, k) ∈ ns := by
  induction h with
  | here => exact .head _
  | next _ ih => exact .tail _ ih
theorem Ld.nm {ns vs x k v} (h : Ld ns vs x k v) : Nm ns x k := by
  induction h with
  | here => exact .here
  | next _ ih => exact .next ih
theorem Sto.nm {ns vs x k v vs'} (h : Sto ns vs x k v vs') : Nm ns x k := by
  induction h with
  | here => exact .here
  | next _ ih => exact .next ih
theorem lookup_mem : ∀ {ns : List (Str × NameKind)}, (ns.map (·.1)).Nodup → ∀ {x k}, (x, k) ∈ ns → ns.lookup x = some k
  | (y, j) :: r, hn, x, k, h => by
    rw [List.map_cons, List.nodup_cons] at hn
    rcases List.mem_cons.mp h with e | h
    · cases e; simp
    · have : x ≠ y := fun e => hn.1 (e ▸ List.mem_map_of_mem (f := (·.1)) h)
      rw [List.lookup_cons, show (x == y) = false from by simpa using this]
      exact lookup_mem hn.2 h
theorem namesOk_nodup {ns} (h : namesOk ns = true) : (ns.map (·.1)).Nodup := by
  unfold namesOk at h; rw [Bool.and_eq_true] at h; exact of_decide_eq_true h.1
theorem Nm.kind {ns x k} (h : Nm ns x k) (ok : namesOk ns = true) : ns.lookup x = some k := lookup_mem (namesOk_nodup ok) h.mem
theorem Nm.debug {ns x k} (h : Nm ns x k) (ok : namesOk ns = true) : (x == ("__debug__" : Str)) = false ∧ (x == ("__classdict__" : Str)) = false ∧ x ≠ ("__name__" : Str) := by
  unfold namesOk at ok; rw [Bool.and_eq_true] at ok
  have := List.all_eq_true.mp ok.2 _ h.mem
  simp only [Bool.and_eq_true, Bool.not_eq_true'] at this
  exact ⟨this.1.1, this.1.2, fun e => by have := this.2; rw [e] at this; simp at this⟩
theorem Sto.get {ns vs x k u vs'} (h : Sto ns vs x k u vs') (ok : (ns.map (·.1)).Nodup) {y j v} (h' : Ld ns vs' y j v) : (y = x ∧ j = k ∧ v = some u) ∨ (y ≠ x ∧ Ld ns vs y j v) := by
  induction h with
  | here =>
    rw [List.map_cons, List.nodup_cons] at ok
    cases h' with
    | here => exact .inl ⟨rfl, rfl, rfl⟩
    | next h' => exact .inr ⟨by rintro rfl; exact ok.1 (List.mem_map_of_mem (f := (·.1)) h'.nm.mem), .next h'⟩
  | next h ih =>
    rw [List.map_cons, List.nodup_cons] at ok
    cases h' with
    | here => exact .inr ⟨by rintro rfl; exact ok.1 (List.mem_map_of_mem (f := (·.1)) h.nm.mem), .here⟩
    | next h' =>
      rcases ih ok.2 h' with q | q
      · exact .inl q
      · exact .inr ⟨q.1, .next q.2⟩
theorem Sto.ld {ns vs x k u vs'} (h : Sto ns vs x k u vs') : ∃ v, Ld ns vs x k v := by
  induction h with
  | here => exact ⟨_, .here⟩
  | next _ ih => obtain ⟨v, e⟩ := ih; exact ⟨v, .next e⟩

/-- the frame: its names by place -/
structure FrOk (env : Env) (own : Bool) (ns : List (Str × NameKind)) (vs : List (Option Value)) (g σ : Led) (h : Heap) : Prop where
  names : env.scope.names = ns
  kind : env.scope.kind = .function
  ok : namesOk ns = true
  glob : env.globals = mainGlobals
  blt : env.builtins = builtinsNs
  locf : σ env.locals = none ∧ g env.locals = none
  loc : ∃ m, h.Ns env.locals m ∧ ∀ x v, Ld ns vs x .local v → m x = v
  cell : ∀ x k v, Ld ns vs x k v → k = .cell ∨ k = .free → ∃ c, env.cells.lookup x = some c ∧ h.IsCell c v ∧
    (if own then σ c = none ∧ g c = none ∧ c ≠ env.locals else ∃ o, g c = some o ∧ o.data = .cell v)
  apart : ∀ x y c, env.cells.lookup x = some c → env.cells.lookup y = some c → x = y

theorem FrOk.chg {K : Frag} {env own ns vs g σ os} {s : Shared} {σ' : Led} {h' : Heap} (F : FrOk env own ns vs g σ s.heap) (H : Hp K g σ os s) (C : Chg σ s.heap σ' h') : FrOk env own ns vs g σ' h' := by
  have keep : ∀ b o, σ b = none → s.heap.get? b = some o → h'.get? b = some o ∧ σ' b = none := fun b o n e => ⟨C.keep b o n e, by
    cases q : σ' b with
    | none => rfl
    | some o' => have := C.new b o' q n; rw [e] at this; cases this⟩
  refine ⟨F.names, F.kind, F.ok, F.glob, F.blt, ?_, ?_, fun x k v h1 h2 => ?_, F.apart⟩
  · obtain ⟨m, ⟨o, es, ep, ho, _⟩, _⟩ := F.loc
    exact ⟨(keep _ _ F.locf.1 ho).2, F.locf.2⟩
  · obtain ⟨m, ⟨o, es, ep, ho, r⟩, hm⟩ := F.loc
    exact ⟨m, ⟨o, es, ep, (keep _ _ F.locf.1 ho).1, r⟩, hm⟩
  · obtain ⟨c, e1, ⟨o, ho, hd⟩, e3⟩ := F.cell x k v h1 h2
    cases own with
    | true =>
      simp only [if_true] at e3 ⊢
      have := keep c o e3.1 ho
      exact ⟨c, e1, ⟨o, this.1, hd⟩, this.2, e3.2⟩
    | false =>
      simp only [Bool.false_eq_true, if_false] at e3 ⊢
      obtain ⟨o', hg, hd'⟩ := e3
      have hs : σ c = none := by
        cases q : σ c with
        | none => rfl
        | some o'' => rw [H.dis c o'' q] at hg; cases hg
      exact ⟨c, e1, ⟨o', (keep c o' hs (H.keep _ _ hg)).1, hd'⟩, o', hg, hd'⟩

variable {prog : Program} {w : World} {K : Frag} {g : Led} {os : OsState} {A : Around} {env : Env} {own : Bool} {ns : List (Str × NameKind)} {vs : List (Option Value)} {σ : Led}

/-- the triple -/
@[irreducible] def W (prog : Program) (w : World) (K : Frag) (g : Led) (os : OsState) (A : Around) (env : Env) (own : Bool) (ns : List (Str × NameKind)) {α : Type} (t : Sem α) (vs : List (Option Value)) (σ : Led) (Q : α → List (Option Value) → Led → Prop) : Prop :=
  ∀ s, Hp K g σ os s → FrOk env own ns vs g σ s.heap → wpAny (model prog w) A t (fun a s' => ∃ vs' σ', Hp K g σ' os s' ∧ FrOk env own ns vs' g σ' s'.heap ∧ Q a vs' σ') (fun _ _ => False) s

theorem W_in {α : Type} {t : Sem α} {Q : α → List (Option Value) → Led → Prop} (h : ∀ s, Hp K g σ os s → FrOk env own ns vs g σ s.heap → wpAny (model prog w) A t (fun a s' => ∃ vs' σ', Hp K g σ' os s' ∧ FrOk env own ns vs' g σ' s'.heap ∧ Q a vs' σ') (fun _ _ => False) s) : W prog w K g os A env own ns t vs σ Q := by
  unfold W; exact h
theorem W.out {α : Type} {t : Sem α} {Q : α → List (Option Value) → Led → Prop} (h : W prog w K g os A env own ns t vs σ Q) : ∀ s, Hp K g σ os s → FrOk env own ns vs g σ s.heap → wpAny (model prog w) A t (fun a s' => ∃ vs' σ', Hp K g σ' os s' ∧ FrOk env own ns vs' g σ' s'.heap ∧ Q a vs' σ') (fun _ _ => False) s := by
  unfold W at h; exact h

section
variable {α β : Type}
theorem W_pure {a : α} {Q} (h : Q a vs σ) : W prog w K g os A env own ns (pure a) vs σ Q := W_in fun _ H F => wpAny_pure ⟨_, _, H, F, h⟩
theorem W.go {t : Sem α} {Q : α → List (Option Value) → Led → Prop} {s : Shared} {X : α → Shared → Prop} {E : Value → Shared → Prop} (h : W prog w K g os A env own ns t vs σ Q) (H : Hp K g σ os s) (F : FrOk env own ns vs g σ s.heap)
    (k : ∀ a s' vs' σ', Hp K g σ' os s' → FrOk env own ns vs' g σ' s'.heap → Q a vs' σ' → X a s') : wpAny (model prog w) A t X E s :=
  wpAny_mono (h.out s H F) (fun a s' z => by obtain ⟨vs', σ', H', F', q⟩ := z; exact k a s' vs' σ' H' F' q) fun _ _ e => e.elim
theorem W_mono {m : Sem α} {Q Q' : α → List (Option Value) → Led → Prop} (h : W prog w K g os A env own ns m vs σ Q) (hq : ∀ a vs σ, Q a vs σ → Q' a vs σ) : W prog w K g os A env own ns m vs σ Q' :=
  W_in fun s H F => wpAny_mono (h.out s H F) (fun _ _ ⟨_, _, H', F', q⟩ => ⟨_, _, H', F', hq _ _ _ q⟩) fun _ _ e => e
theorem FrOk.weak {σ' : Led} {h : Heap} (F : FrOk env own ns vs g σ h) (l : Le σ' σ) : FrOk env own ns vs g σ' h := by
  have n : ∀ b, σ b = none → σ' b = none := fun b e => by
    cases q : σ' b with
    | none => rfl
    | some o => rw [l b o q] at e; cases e
  refine ⟨F.names, F.kind, F.ok, F.glob, F.blt, ⟨n _ F.locf.1, F.locf.2⟩, F.loc, fun x k v h1 h2 => ?_, F.apart⟩
  obtain ⟨c, e1, e2, e3⟩ := F.cell x k v h1 h2
  cases own with
  | true => exact ⟨c, e1, e2, by simp only [if_true] at e3 ⊢; exact ⟨n _ e3.1, e3.2⟩⟩
  | false => exact ⟨c, e1, e2, e3⟩
/-- a tree that looks only -/
theorem W_of {t : Sem α} {Q} (h : ∀ s, Hp K g σ os s → FrOk env own ns vs g σ s.heap → wpAny (model prog w) A t (fun a s' => ∃ σ' h' t, s' = { s with heap := h', toks := t } ∧ Chg σ s.heap σ' h' ∧ Q a vs σ') (fun _ _ => False) s) : W prog w K g os A env own ns t vs σ Q :=
  W_in fun s H F => wpAny_mono (h s H F) (fun _ _ ⟨σ', h', t, e, C, q⟩ => ⟨vs, σ', e ▸ H.chg C t, e ▸ F.chg H C, q⟩) fun _ _ e => e
/-- a tree that leaves the heap as it is -/
theorem W_look {t : Sem α} {Q} (h : ∀ s, Hp K g σ os s → FrOk env own ns vs g σ s.heap → wpAny (model prog w) A t (fun a s' => (∃ t, s' = { s with toks := t }) ∧ Q a vs σ) (fun _ _ => False) s) : W prog w K g os A env own ns t vs σ Q :=
  W_of fun s H F => wpAny_mono (h s H F) (fun _ _ ⟨⟨t, e⟩, q⟩ => ⟨σ, s.heap, t, e, .refl H.led, q⟩) fun _ _ e => e
end

/-! names in trees -/
theorem W_name {x : Str} {pos : Pos} {k : NameKind} {v : Value} {Q} (hl : Ld ns vs x k (some v)) (hk : k = .local ∨ k = .cell ∨ k = .free) (q : Q v vs σ) : W prog w K g os A env own ns (eval (.Name x pos) env) vs σ Q := W_look fun s H F => by
  have hd := hl.nm.debug F.ok
  have hx : env.kindOf x = some k := by unfold Env.kindOf; rw [F.names]; exact hl.nm.kind F.ok
  refine wpAny_Name ?_ hd.1
  rcases hk with rfl | rfl | rfl
  · obtain ⟨m, hn, hm⟩ := F.loc
    exact wpAny_loadName_local F.kind hx hn (hm _ _ hl) ⟨⟨_, rfl⟩, q⟩
  · obtain ⟨c, e1, e2, _⟩ := F.cell _ _ _ hl (.inl rfl)
    exact wpAny_loadName_cell F.kind hx e1 e2 ⟨⟨_, rfl⟩, q⟩
  · obtain ⟨c, e1, e2, _⟩ := F.cell _ _ _ hl (.inr rfl)
    exact wpAny_loadName_free F.kind hx e1 e2 ⟨⟨_, rfl⟩, q⟩ hd.2.1
theorem W_loadName {x : Str} {k : NameKind} {v : Value} {Q} (hl : Ld ns vs x k (some v)) (hk : k = .local ∨ k = .cell ∨ k = .free) (q : Q v vs σ) : W prog w K g os A env own ns (loadName env x) vs σ Q := W_look fun s H F => by
  have hd := hl.nm.debug F.ok
  have hx : env.kindOf x = some k := by unfold Env.kindOf; rw [F.names]; exact hl.nm.kind F.ok
  rcases hk with rfl | rfl | rfl
  · obtain ⟨m, hn, hm⟩ := F.loc
    exact wpAny_loadName_local F.kind hx hn (hm _ _ hl) ⟨⟨_, rfl⟩, q⟩
  · obtain ⟨c, e1, e2, _⟩ := F.cell _ _ _ hl (.inl rfl)
    exact wpAny_loadName_cell F.kind hx e1 e2 ⟨⟨_, rfl⟩, q⟩
  · obtain ⟨c, e1, e2, _⟩ := F.cell _ _ _ hl (.inr rfl)
    exact wpAny_loadName_free F.kind hx e1 e2 ⟨⟨_, rfl⟩, q⟩ hd.2.1
/-- a global of the text -/
theorem W_glob {x : Str} {pos : Pos} {v : Value} {Q} (hn : Nm ns x .globalImplicit) (e : nsIn K mainGlobals x = some (some v)) (q : Q v vs σ) : W prog w K g os A env own ns (eval (.Name x pos) env) vs σ Q := W_look fun s H F => by
  have hd := hn.debug F.ok
  have hx : env.kindOf x = some .globalImplicit := by unfold Env.kindOf; rw [F.names]; exact hn.kind F.ok
  obtain ⟨h₀, mg, mb, a, k, hg, hb, _, _⟩ := H.gd.ex
  have kp : ∀ b o, h₀.get? b = some o → s.heap.get? b = some o := fun b o e => H.keep _ _ (a _ _ e)
  exact Name_function_global F.kind hx (loadGlobal_global (by rw [F.glob]; exact hg.keeps kp) (mg_of k hg e) ⟨⟨_, rfl⟩, q⟩) hd.1
theorem W_blt {x : Str} {pos : Pos} {v : Value} {Q} (hn : Nm ns x .globalImplicit) (e : nsIn K mainGlobals x = some none) (hv : bootBuiltins x = some v) (q : Q v vs σ) : W prog w K g os A env own ns (eval (.Name x pos) env) vs σ Q := W_look fun s H F => by
  have hd := hn.debug F.ok
  have hx : env.kindOf x = some .globalImplicit := by unfold Env.kindOf; rw [F.names]; exact hn.kind F.ok
  obtain ⟨h₀, mg, mb, a, k, hg, hb, _, hbt⟩ := H.gd.ex
  have kp : ∀ b o, h₀.get? b = some o → s.heap.get? b = some o := fun b o e => H.keep _ _ (a _ _ e)
  exact Name_function_global F.kind hx (loadGlobal_builtin (by rw [F.glob]; exact hg.keeps kp) (mg_none_of k hg e) (by rw [F.blt]; exact hb.keeps kp) ((hbt x hd.2.2).trans hv) ⟨⟨_, rfl⟩, q⟩) hd.1

theorem W_store {x : Str} {k : NameKind} {v : Value} {vs' : List (Option Value)} {Q} (hs : Sto ns vs x k v vs') (hk : k = .local ∨ (k = .cell ∧ own = true)) (q : Q () vs' σ) : W prog w K g os A env own ns (storeName env x v) vs σ Q := W_in fun s H F => by
  have nd := namesOk_nodup F.ok
  have hx : env.kindOf x = some k := by unfold Env.kindOf; rw [F.names]; exact hs.nm.kind F.ok
  rcases hk with rfl | ⟨rfl, rfl⟩
  · obtain ⟨m, hn, hm⟩ := F.loc
    refine wpAny_storeName_local hx hn (fun h' hn' hsb => ?_) (by rw [F.kind]; rfl)
    refine ⟨vs', σ, ⟨H.gd, fun a o e => ?_, fun a o e => ?_, H.dis, H.gens, H.os⟩, ⟨F.names, F.kind, F.ok, F.glob, F.blt, F.locf, ⟨_, hn', fun y u hy => ?_⟩, fun y k u h1 h2 => ?_, F.apart⟩, q⟩
    · exact hsb.extBut a o (by rintro rfl; rw [F.locf.2] at e; cases e) (H.keep a o e)
    · exact hsb.extBut a o (by rintro rfl; rw [F.locf.1] at e; cases e) (H.led a o e)
    · rcases hs.get nd hy with ⟨rfl, _, rfl⟩ | ⟨ne, hy⟩
      · exact if_pos rfl
      · exact (if_neg ne).trans (hm y u hy)
    · rcases hs.get nd h1 with ⟨_, rfl, _⟩ | ⟨ne, hy⟩
      · rcases h2 with h2 | h2 <;> cases h2
      · obtain ⟨c, e1, e2, e3⟩ := F.cell y k u hy h2
        refine ⟨c, e1, e2.sameBut hsb ?_, e3⟩
        rintro rfl
        cases own with
        | true => simp only [if_true] at e3; exact e3.2.2 rfl
        | false =>
          simp only [Bool.false_eq_true, if_false] at e3
          obtain ⟨o, hg, _⟩ := e3
          rw [F.locf.2] at hg; cases hg
  · obtain ⟨v₀, hl⟩ := hs.ld
    obtain ⟨c, e1, e2, e3⟩ := F.cell _ _ _ hl (.inl rfl)
    simp only [if_true] at e3
    refine wpAny_storeName_cell F.kind hx e1 e2 fun h' hc hsb => ?_
    refine ⟨vs', σ, ⟨H.gd, fun a o e => ?_, fun a o e => ?_, H.dis, H.gens, H.os⟩, ⟨F.names, F.kind, F.ok, F.glob, F.blt, F.locf, ?_, fun y k u h1 h2 => ?_, F.apart⟩, q⟩
    · exact hsb.extBut a o (by rintro rfl; rw [e3.2.1] at e; cases e) (H.keep a o e)
    · exact hsb.extBut a o (by rintro rfl; rw [e3.1] at e; cases e) (H.led a o e)
    · obtain ⟨m, hn, hm⟩ := F.loc
      refine ⟨m, hn.sameBut hsb (Ne.symm e3.2.2), fun y u hy => ?_⟩
      rcases hs.get nd hy with ⟨_, h, _⟩ | ⟨ne, hy⟩
      · cases h
      · exact hm y u hy
    · rcases hs.get nd h1 with ⟨rfl, rfl, rfl⟩ | ⟨ne, hy⟩
      · exact ⟨c, e1, hc, by simp only [if_true]; exact e3⟩
      · obtain ⟨c', e1', e2', e3'⟩ := F.cell y k u hy h2
        have nc : c' ≠ c := by rintro rfl; exact ne (F.apart _ _ _ e1' e1)
        exact ⟨c', e1', e2'.sameBut hsb nc, e3'⟩
end TextMW1
noncomputable section TextMW2
variable {prog : Program} {w : World} {K : Frag} {g : Led} {os : OsState} {A : Around} {env : Env} {own : Bool} {ns : List (Str × NameKind)} {vs : List (Option Value)} {σ : Led}

/-! statements -/
abbrev FlowQ := Flow → List (Option Value) → Led → Prop
theorem W_nil {Q : FlowQ} (h : Q .next vs σ) : W prog w K g os A env own ns (execs [] env) vs σ Q := W_in fun _ H F => wpAny_execs_nil ⟨_, _, H, F, h⟩
def seqQ (prog : Program) (w : World) (K : Frag) (g : Led) (os : OsState) (A : Around) (env : Env) (own : Bool) (ns : List (Str × NameKind)) (rest : List Stmt) (Q : FlowQ) : FlowQ := fun f vs σ =>
  match f with | .next => W prog w K g os A env own ns (execs rest env) vs σ Q | f => Q f vs σ
theorem W_cons {st : Stmt} {rest : List Stmt} {Q : FlowQ} (h : W prog w K g os A env own ns (exec st env) vs σ (seqQ prog w K g os A env own ns rest Q)) :
    W prog w K g os A env own ns (execs (st :: rest) env) vs σ Q :=
  W_in fun s H F => wpAny_execs_cons (h.go H F (fun f _ vs' σ' H' F' q => by
    cases f with
    | next => exact q.out _ H' F'
    | brk => exact ⟨vs', σ', H', F', q⟩
    | cont => exact ⟨vs', σ', H', F', q⟩
    | ret v => exact ⟨vs', σ', H', F', q⟩))
theorem W_assign {x : Str} {px pos : Pos} {value : Expr} {Q : FlowQ} (h : W prog w K g os A env own ns (eval value env) vs σ fun v vs σ => ∃ k vs', Sto ns vs x k v vs' ∧ (k = .local ∨ (k = .cell ∧ own = true)) ∧ Q .next vs' σ)
    (hs : swapsWith value (some (.Name x px)) pos.line env = pure false := by with_unfolding_all rfl) : W prog w K g os A env own ns (exec (.Assign [.Name x px] value pos) env) vs σ Q :=
  W_in fun s H F => wpAny_Assign_Name (hs := hs) (wpAny_mono (h.out s H F) (fun v _ ⟨vs', σ', H', F', k, vs'', hst, hk, q⟩ => (W_store hst hk q).out _ H' F') fun _ _ e => e)
theorem W_aug {x : Str} {px pos : Pos} {op : Operator} {value : Expr} {k : NameKind} {old : Value} {Q : FlowQ} (hl : Ld ns vs x k (some old)) (hk : k = .local ∨ k = .cell ∨ k = .free)
    (h : W prog w K g os A env own ns (eval value env) vs σ fun v vs σ => W prog w K g os A env own ns (inplaceOp op old v) vs σ fun r vs σ => ∃ k vs', Sto ns vs x k r vs' ∧ (k = .local ∨ (k = .cell ∧ own = true)) ∧ Q .next vs' σ) :
    W prog w K g os A env own ns (exec (.AugAssign (.Name x px) op value pos) env) vs σ Q :=
  W_in fun s H F => wpAny_AugAssign_Name (wpAny_mono ((W_loadName (Q := fun old' vs' σ' => old' = old ∧ vs' = vs ∧ σ' = σ) hl hk ⟨rfl, rfl, rfl⟩).out s H F) (fun _ _ ⟨_, _, H₁, F₁, e1, e2, e3⟩ => by
    subst e1 e2 e3
    exact h.go H₁ F₁ (fun v _ _ _ H₂ F₂ q => wpAny_mono (q.out _ H₂ F₂) (fun r _ ⟨_, _, H₃, F₃, k', vs'', hst, hk', q'⟩ => (W_store hst hk' q').out _ H₃ F₃) fun _ _ e => e)) fun _ _ e => e)
theorem W_expr {e : Expr} {pos : Pos} {Q : FlowQ} (h : W prog w K g os A env own ns (eval e env) vs σ fun _ vs σ => Q .next vs σ)
    (hs : swapsWith e none pos.line env = pure false := by with_unfolding_all rfl) : W prog w K g os A env own ns (exec (.Expr e pos) env) vs σ Q :=
  W_in fun s H F => wpAny_Expr_any (wpAny_mono (h.out s H F) (fun _ _ x => x) fun _ _ e => e) (by unfold interactive; rw [F.kind]; rfl) hs
theorem W_if {test : Expr} {body orelse : List Stmt} {pos : Pos} {Q : FlowQ} (h : W prog w K g os A env own ns (isTrue test env (eval test env)) vs σ fun b vs σ =>
    (b = true → W prog w K g os A env own ns (execs body env) vs σ Q) ∧ (b = false → W prog w K g os A env own ns (execs orelse env) vs σ Q)) : W prog w K g os A env own ns (exec (.If test body orelse pos) env) vs σ Q :=
  W_in fun s H F => wpAny_If (h.go H F (fun b _ _ _ H' F' q => by
    cases b with
    | true => exact (q.1 rfl).out _ H' F'
    | false => exact (q.2 rfl).out _ H' F'))
theorem W_ret {e : Expr} {pos : Pos} {Q : FlowQ} (h : W prog w K g os A env own ns (eval e env) vs σ fun v vs σ => Q (.ret v) vs σ) : W prog w K g os A env own ns (exec (.Return (some e) pos) env) vs σ Q :=
  W_in fun s H F => wpAny_Return_some (h.out s H F)
theorem W_ret0 {pos : Pos} {Q : FlowQ} (h : Q (.ret .none) vs σ) : W prog w K g os A env own ns (exec (.Return none pos) env) vs σ Q :=
  W_in fun s H F => wpAny_Return_none ⟨_, _, H, F, h⟩

theorem W_while {test : Expr} {body orelse : List Stmt} {pos : Pos} {Q : FlowQ} (I : Nat → List (Option Value) → Led → Prop)
    (turn : ∀ n vs σ, I n vs σ → W prog w K g os A env own ns (isTrue test env (eval test env)) vs σ fun b vs σ =>
      (b = true → W prog w K g os A env own ns (execs body env) vs σ fun f vs σ => match f with | .next | .cont => ∃ m, m < n ∧ I m vs σ | .brk => Q .next vs σ | .ret v => Q (.ret v) vs σ) ∧
      (b = false → W prog w K g os A env own ns (execs orelse env) vs σ Q)) (n : Nat) (h : I n vs σ) (hA : A.mark none = A := by with_unfolding_all rfl) : W prog w K g os A env own ns (exec (.While test body orelse pos) env) vs σ Q :=
  W_in fun s H F => by
    refine wpAny_While ?_
    refine codeAny_whileLoop (fun n s' => ∃ vs σ, Hp K g σ os s' ∧ FrOk env own ns vs g σ s'.heap ∧ I n vs σ) ?_ n ⟨vs, σ, H, F, h⟩
    rintro n s' ⟨vs, σ, H, F, hI⟩
    refine (turn n vs σ hI).go H F (fun b s₂ vs' σ' H' F' q => ?_)
    cases b with
    | true =>
      simp only [if_true]
      refine (q.1 rfl).go H' F' (fun f s₃ vs₃ σ₃ H₃ F₃ q₃ => ?_)
      cases f with
      | next => obtain ⟨m, hm, hi⟩ := q₃; exact ⟨m, hm, vs₃, σ₃, H₃, F₃, hi⟩
      | cont => obtain ⟨m, hm, hi⟩ := q₃; exact ⟨m, hm, vs₃, σ₃, H₃, F₃, hi⟩
      | brk => exact ⟨vs₃, σ₃, H₃, F₃, q₃⟩
      | ret v => exact ⟨vs₃, σ₃, H₃, F₃, q₃⟩
    | false =>
      simp only [Bool.false_eq_true, if_false]
      exact wpAny_mono ((q.2 rfl).out _ H' F') (fun f s₃ z => z) fun _ _ e => e.elim

/-! arguments and calls -/
theorem W_args0 {pos : Pos} {Q : List Value → List (Option Value) → Led → Prop} (h : Q [] vs σ) : W prog w K g os A env own ns (spliced (backTo pos (starEach [] env))) vs σ Q :=
  W_in fun _ H F => spliced_nil ⟨_, _, H, F, h⟩
theorem W_args {pos : Pos} {e : Expr} {rest : List Expr} {Q : List Value → List (Option Value) → Led → Prop} (h : W prog w K g os A env own ns (eval e env) vs σ fun v vs σ => W prog w K g os A env own ns (spliced (backTo pos (starEach rest env))) vs σ fun l => Q (v :: l))
    (he : starEach (e :: rest) env = (false, eval e env) :: starEach rest env := by with_unfolding_all rfl) : W prog w K g os A env own ns (spliced (backTo pos (starEach (e :: rest) env))) vs σ Q := by
  rw [he]
  exact W_in fun s H F => spliced_cons (h.go H F (fun v _ _ _ H' F' q => wpAny_mono (q.out _ H' F') (fun _ _ x => x) fun _ _ e => e))

/-- a call by its contract -/
def CallW (prog : Program) (w : World) (K : Frag) (os : OsState) (A : Around) (f : Value) (args : List Value) (σ : Led) (Φ : Value → Led → Prop) : Prop :=
  ∀ g s, Hp K g σ os s → codeAny (model prog w) A (.call f ⟨args, []⟩) (fun r s' => ∃ v σ', r = .ok (.ret v) ∧ Hp K g σ' os s' ∧ Φ v σ') s
theorem Hp.of_chg {σ' : Led} {s s' : Shared} (H : Hp K g σ os s) (C : Chg σ s.heap σ' s'.heap) (hg : s'.gens = #[]) (ho : s'.os = os) : Hp K g σ' os s' := by
  have := H.chg C 0
  exact ⟨this.gd, this.keep, this.led, this.dis, hg, ho⟩
theorem W_call {f : Value} {args : List Value} {Q : Value → List (Option Value) → Led → Prop} (h : CallW prog w K os A f args σ fun v σ' => Q v vs σ') : W prog w K g os A env own ns (call f args []) vs σ Q := W_in fun s H F => by
  obtain ⟨g', H', _, _, back⟩ := H.base
  refine wpAny_call (codeAny_mono (h g' s H') fun r s' => ?_)
  rintro ⟨v, σ', rfl, H₂, q⟩
  have C := back σ' s' H₂
  exact ⟨vs, σ', H.of_chg C H₂.gens H₂.os, F.chg H C, q⟩
theorem CallW.mono {f : Value} {args : List Value} {Φ Φ' : Value → Led → Prop} (h : CallW prog w K os A f args σ Φ) (hq : ∀ v σ', Φ v σ' → Φ' v σ') : CallW prog w K os A f args σ Φ' :=
  fun g s H => codeAny_mono (h g s H) fun r s' ⟨v, σ', e, H', q⟩ => ⟨v, σ', e, H', hq _ _ q⟩

theorem W_evalArgs {f : Value} {pos : Pos} {e : Expr} {rest : List Expr} {Q : Args → List (Option Value) → Led → Prop} (h : W prog w K g os A env own ns (spliced (backTo pos (starEach (e :: rest) env))) vs σ fun l => Q ⟨l, []⟩)
    (he : starEach (e :: rest) env = (false, eval e env) :: starEach rest env := by with_unfolding_all rfl) : W prog w K g os A env own ns (evalArgs f true (backTo pos (starEach (e :: rest) env)) []) vs σ Q := by
  rw [he] at h ⊢
  exact W_in fun s H F => evalArgs_plain (h.out s H F)
theorem W_callWith {f : Value} {first : List Value} {pos : Pos} {e : Expr} {rest : List Expr} {Q : Value → List (Option Value) → Led → Prop} (hk : keepIn K f = true)
    (h : W prog w K g os A env own ns (spliced (backTo pos (starEach (e :: rest) env))) vs σ fun l vs σ => W prog w K g os A env own ns (call f (first ++ l) []) vs σ Q)
    (he : starEach (e :: rest) env = (false, eval e env) :: starEach rest env := by with_unfolding_all rfl) (hplain : (backTo pos (starEach rest env)).any (·.1) = false := by with_unfolding_all rfl) :
    W prog w K g os A env own ns (callWith pos f first (backTo pos (starEach (e :: rest) env)) []) vs σ Q := W_in fun s H F =>
  callWith_K (h₀ := s.heap) H.kin hk (h.go H F (fun _ _ _ _ H' F' q => ⟨H'.kin, q.out _ H' F'⟩)) he hplain
/-- a built-in (or a built-in type) by its name -/
theorem W_callWithB {id : String} {first : List Value} {pos : Pos} {e : Expr} {rest : List Expr} {Q : Value → List (Option Value) → Led → Prop}
    (h : W prog w K g os A env own ns (spliced (backTo pos (starEach (e :: rest) env))) vs σ fun l vs σ => W prog w K g os A env own ns (call (.builtin id) (first ++ l) []) vs σ Q)
    (he : starEach (e :: rest) env = (false, eval e env) :: starEach rest env := by with_unfolding_all rfl) (hplain : (backTo pos (starEach (e :: rest) env)).any (·.1) = false := by with_unfolding_all rfl) :
    W prog w K g os A env own ns (callWith pos (.builtin id) first (backTo pos (starEach (e :: rest) env)) []) vs σ Q := W_in fun s H F =>
  callWith_builtin hplain (wpAny_mono ((W_evalArgs (Q := fun a vs σ => W prog w K g os A env own ns (call (.builtin id) (first ++ a.pos) a.kw) vs σ Q) h he).out s H F) (fun _ _ ⟨_, _, H', F', q⟩ => q.out _ H' F') fun _ _ e => e)

/-! a def of the text entered -/
theorem bindL_eq {kindOf : Str → Option NameKind} : ∀ (binds : List (Str × Value)) (m : Str → Option Value) (x : Str), kindOf x = some .local → bindL kindOf binds m x = (binds.reverse.lookup x).or (m x)
  | [], m, x, _ => rfl
  | (n, v) :: r, m, x, h => by
    rw [bindL, bindL_eq r _ x h, List.reverse_cons, List.lookup_append, Option.or_assoc]
    congr 1
    by_cases e : x = n
    · subst e; rw [if_pos h]; simp
    · have e' : (x == n) = false := by simpa using e
      split
      · simp [List.lookup_cons, e, e']
      · simp [List.lookup_cons, e']
theorem bindC_eq {kindOf : Str → Option NameKind} : ∀ (binds : List (Str × Value)) (m : Str → Option Value) (x : Str), kindOf x ≠ some .local → bindC kindOf binds m x = (binds.reverse.lookup x).or (m x)
  | [], m, x, _ => rfl
  | (n, v) :: r, m, x, h => by
    rw [bindC, bindC_eq r _ x h, List.reverse_cons, List.lookup_append, Option.or_assoc]
    congr 1
    by_cases e : x = n
    · subst e; rw [if_neg h]; simp
    · have e' : (x == n) = false := by simpa using e
      split
      · simp [List.lookup_cons, e']
      · simp [List.lookup_cons, e, e']
theorem Ld.of_map_ {f : Str × NameKind → Option Value} {ns : List (Str × NameKind)} {vs : List (Option Value)} {x : Str} {k : NameKind} {v : Option Value} (h : Ld ns vs x k v) (e : vs = ns.map f) : v = f (x, k) := by
  induction h with
  | here => exact (List.cons.inj e).1
  | next _ ih => exact ih (List.cons.inj e).2
theorem Ld.of_map {f : Str × NameKind → Option Value} {ns : List (Str × NameKind)} {x : Str} {k : NameKind} {v : Option Value} (h : Ld ns (ns.map f) x k v) : v = f (x, k) := h.of_map_ rfl

abbrev envD (qual : Str) (scope : Scope) (L f : Addr) (cdv : Value) : Env := newEnv scope L mainGlobals (cellsFrom (L + 1) scope.names []) (qual ++ ".<locals>.") (some f) cdv none builtinsNs

/-- the same, on one base -/
def CallWG (prog : Program) (w : World) (K : Frag) (g : Led) (os : OsState) (A : Around) (f : Value) (args : List Value) (σ : Led) (Φ : Value → Led → Prop) : Prop :=
  ∀ s, Hp K g σ os s → codeAny (model prog w) A (.call f ⟨args, []⟩) (fun r s' => ∃ v σ', r = .ok (.ret v) ∧ Hp K g σ' os s' ∧ Φ v σ') s
theorem W_callG {f : Value} {args : List Value} {Q : Value → List (Option Value) → Led → Prop} (h : ∀ g', Le g g' → CallWG prog w K g' os A f args σ fun v σ' => Q v vs σ') : W prog w K g os A env own ns (call f args []) vs σ Q := W_in fun s H F => by
  obtain ⟨g', H', hle, _, back⟩ := H.base
  refine wpAny_call (codeAny_mono (h g' hle s H') fun r s' => ?_)
  rintro ⟨v, σ', rfl, H₂, q⟩
  have C := back σ' s' H₂
  exact ⟨vs, σ', H.of_chg C H₂.gens H₂.os, F.chg H C, q⟩
theorem callW_fnG {f : Addr} {name qual : Str} {params : Arguments} {body : List Stmt} {scope : Scope} {dV kV doc pm cdv ct oc : Value} {an od : Option Addr} {osl : Array (Option Value)} {args : List Value} {binds : List (Str × Value)} {Φ : Value → Led → Prop}
    (ho : K.lookup f = some ⟨oc, od, .func (fnOf name qual params body scope dV kV doc pm an cdv ct), osl⟩) (hcd : codeIn K cdv qual = true) (hroom : A.depth < recursionLimit)
    (hb : ∀ S, peek K S (bindArgs (fnOf name qual params body scope dV kV doc pm an cdv ct) ⟨args, []⟩) = some binds)
    (hok : namesOk scope.names = true) (hkind : (binds.all fun y => scope.names.lookup y.1 == some .local || scope.names.lookup y.1 == some .cell) = true)
    (hfree : (scope.names.all fun n => n.2 != .free) = true) (hvals : (scope.names.map fun n => binds.reverse.lookup n.1) = vs)
    (h : ∀ L, W prog w K g os (A.deeper (envD qual scope L f cdv)) (envD qual scope L f cdv) true scope.names (execs body (envD qual scope L f cdv)) vs σ fun fl _ σ' => Φ (match fl with | .ret v => v | _ => .none) σ')
    (hco : scope.isCoroutine = false := by with_unfolding_all rfl) (hgen : scope.isGenerator = false := by with_unfolding_all rfl) (hk : scope.kind = .function := by with_unfolding_all rfl) :
    CallWG prog w K g os A (.ref f) args σ Φ := by
  intro s H
  have X := H.kin
  refine codeAny_call_function hroom (X _ _ ho) rfl hco hgen rfl (codeRec_of X hcd) (kp_binds X hb _ _ _ _ ?_)
  refine wpAny_newFunctionEnv_cells hk (fun x hx => ?_) fun env he s₁ x => ?_
  · have := List.all_eq_true.mp hkind x hx
    rcases Bool.or_eq_true_iff.mp this with q | q
    · exact .inl (by simpa using q)
    · have q' : scope.names.lookup x.1 = some .cell := by simpa using q
      exact .inr ⟨q', cellsFrom_some _ _ _ (.inl q')⟩
  have he' : env = envD qual scope s.heap.objs.size f cdv := he
  subst he'
  refine ⟨H.nolimit.keeps x.toInCall.keep, codeAny_func ?_⟩
  obtain ⟨h₁, tk, rfl, kp⟩ := x.done
  have lt : ∀ b o, s.heap.get? b = some o → b < s.heap.objs.size := fun b o e => Heap.lt_size e
  have nσ : ∀ b, s.heap.objs.size ≤ b → σ b = none := fun b hb => by
    cases q : σ b with
    | none => rfl
    | some o => exact absurd (lt _ _ (H.led _ _ q)) (Nat.not_lt.mpr hb)
  have ng : ∀ b, s.heap.objs.size ≤ b → g b = none := fun b hb => by
    cases q : g b with
    | none => rfl
    | some o => exact absurd (lt _ _ (H.keep _ _ q)) (Nat.not_lt.mpr hb)
  have hcells : (envD qual scope s.heap.objs.size f cdv).cells = cellsFrom (s.heap.objs.size + 1) scope.names [] := rfl
  have hko : ∀ y, (envD qual scope s.heap.objs.size f cdv).kindOf y = scope.names.lookup y := fun y => rfl
  have hlo : (envD qual scope s.heap.objs.size f cdv).locals = s.heap.objs.size := rfl
  have F : FrOk (envD qual scope s.heap.objs.size f cdv) true scope.names vs g σ h₁ := by
    refine ⟨rfl, hk, hok, rfl, rfl, ⟨nσ _ (Nat.le_refl _), ng _ (Nat.le_refl _)⟩, ⟨_, x.toInCall.ns, fun y v hy => ?_⟩, fun y k v hy hkk => ?_, fun a b c ha hb' => name_of_addr x.apart (mem_of_lookup ha) (mem_of_lookup hb')⟩
    · have hkd := hy.nm.kind hok
      rw [bindL_eq _ _ _ ((hko y).trans hkd), Option.or_none]
      subst hvals; exact hy.of_map.symm
    · have hkd := hy.nm.kind hok
      have hkc : k = .cell := by
        rcases hkk with e | e
        · exact e
        · have := List.all_eq_true.mp hfree _ hy.nm.mem
          rw [e] at this; simp at this
      subst hkc
      obtain ⟨c, hc⟩ := Option.isSome_iff_exists.mp (cellsFrom_some (x := y) scope.names (s.heap.objs.size + 1) [] (.inl hkd))
      have hc' := x.cell y c hc
      have ab := x.above y c (mem_of_lookup hc)
      rw [bindC_eq _ _ _ (by rw [hko, hkd]; simp), Option.or_none] at hc'
      refine ⟨c, hc, ?_, ?_⟩
      · subst hvals; rw [hy.of_map]; exact hc'
      · simp only [if_true]
        have ab' : s.heap.objs.size < c := ab
        exact ⟨nσ _ (Nat.le_of_lt ab'), ng _ (Nat.le_of_lt ab'), Nat.ne_of_gt ab'⟩
  have H₁ : Hp K g σ os { s with heap := h₁, toks := tk } := ⟨H.gd, fun a o e => kp _ _ (H.keep a o e), fun a o e => kp _ _ (H.led a o e), H.dis, H.gens, H.os⟩
  refine (h s.heap.objs.size).go H₁ F (fun fl s' vs' σ' H' F' q => ⟨_, σ', rfl, H', q⟩)
theorem callW_fn {f : Addr} {name qual : Str} {params : Arguments} {body : List Stmt} {scope : Scope} {dV kV doc pm cdv ct oc : Value} {an od : Option Addr} {osl : Array (Option Value)} {args : List Value} {binds : List (Str × Value)} {Φ : Value → Led → Prop}
    (ho : K.lookup f = some ⟨oc, od, .func (fnOf name qual params body scope dV kV doc pm an cdv ct), osl⟩) (hcd : codeIn K cdv qual = true) (hroom : A.depth < recursionLimit)
    (hb : ∀ S, peek K S (bindArgs (fnOf name qual params body scope dV kV doc pm an cdv ct) ⟨args, []⟩) = some binds)
    (hok : namesOk scope.names = true) (hkind : (binds.all fun y => scope.names.lookup y.1 == some .local || scope.names.lookup y.1 == some .cell) = true)
    (hfree : (scope.names.all fun n => n.2 != .free) = true) (hvals : (scope.names.map fun n => binds.reverse.lookup n.1) = vs)
    (h : ∀ g L, W prog w K g os (A.deeper (envD qual scope L f cdv)) (envD qual scope L f cdv) true scope.names (execs body (envD qual scope L f cdv)) vs σ fun fl _ σ' => Φ (match fl with | .ret v => v | _ => .none) σ')
    (hco : scope.isCoroutine = false := by with_unfolding_all rfl) (hgen : scope.isGenerator = false := by with_unfolding_all rfl) (hk : scope.kind = .function := by with_unfolding_all rfl) :
    CallW prog w K os A (.ref f) args σ Φ := fun g =>
  callW_fnG ho hcd hroom hb hok hkind hfree hvals (h g) hco hgen hk
end TextMW2
noncomputable section TextMW3
variable {prog : Program} {w : World} {K : Frag} {g : Led} {os : OsState} {A : Around} {env : Env} {own : Bool} {ns : List (Str × NameKind)} {vs : List (Option Value)} {σ : Led}

abbrev lst (l : List Value) (n : Nat) : Obj := { cls := .type "list", data := .seq l.toArray n }
abbrev tup (l : List Value) (n : Nat) : Obj := { cls := .type "tuple", data := .seq l.toArray n }
abbrev ValQ := Value → List (Option Value) → Led → Prop
theorem isList_of {h : Heap} {a : Addr} {l : List Value} {n : Nat} (hl : ∀ a o, σ a = some o → h.get? a = some o) (e : σ a = some (lst l n)) : h.IsList a l.toArray := ⟨_, hl _ _ e, rfl, n, rfl⟩
theorem isTup_of {h : Heap} {a : Addr} {l : List Value} {n : Nat} (hl : ∀ a o, σ a = some o → h.get? a = some o) (e : σ a = some (tup l n)) : IsTup h a l.toArray := ⟨_, hl _ _ e, rfl, n, rfl⟩

/-! constants -/
theorem W_int {i : Int} {k : Nat} {pos : Pos} {Q : ValQ} (q : ∀ t, Q (.int i t) vs σ) : W prog w K g os A env own ns (eval (.Constant (.int i) k pos) env) vs σ Q := W_look fun s H F => wpAny_Constant_int ⟨⟨_, rfl⟩, q _⟩
theorem W_str {x : Str} {k : Nat} {pos : Pos} {Q : ValQ} (q : ∀ t, Q (.str x t) vs σ) : W prog w K g os A env own ns (eval (.Constant (.str x) k pos) env) vs σ Q := W_look fun s H F => wpAny_Constant_str ⟨⟨_, rfl⟩, q _⟩
theorem W_none {k : Nat} {pos : Pos} {Q : ValQ} (q : Q .none vs σ) : W prog w K g os A env own ns (eval (.Constant .none k pos) env) vs σ Q := W_look fun s H F => wpAny_Constant_none ⟨⟨_, rfl⟩, q⟩
theorem W_bool {b : Bool} {k : Nat} {pos : Pos} {Q : ValQ} (q : Q (.bool b) vs σ) : W prog w K g os A env own ns (eval (.Constant (.bool b) k pos) env) vs σ Q := W_look fun s H F => wpAny_Constant_bool ⟨⟨_, rfl⟩, q⟩

/-! operators -/
theorem W_binop {l r : Expr} {op : Operator} {pos : Pos} {Q : ValQ} (h : W prog w K g os A env own ns (eval l env) vs σ fun a vs σ => W prog w K g os A env own ns (eval r env) vs σ fun b vs σ => W prog w K g os A env own ns (binaryOp op a b) vs σ Q) :
    W prog w K g os A env own ns (eval (.BinOp l op r pos) env) vs σ Q :=
  W_in fun s H F => wpAny_BinOp (h.go H F (fun a _ _ _ H' F' q => q.go H' F' (fun b _ _ _ H₂ F₂ q₂ => q₂.out _ H₂ F₂)))
section
variable {a b : Int} {t u : Tok} {x y : Str} {Q : ValQ}
theorem W_add (q : ∀ t, Q (.int (a + b) t) vs σ) : W prog w K g os A env own ns (binaryOp .Add (.int a t) (.int b u)) vs σ Q := W_look fun s H F => by with_reducible exact P.add_int ⟨⟨_, rfl⟩, q _⟩
theorem W_sub (q : ∀ t, Q (.int (a - b) t) vs σ) : W prog w K g os A env own ns (binaryOp .Sub (.int a t) (.int b u)) vs σ Q := W_look fun s H F => by with_reducible exact P.sub_int ⟨⟨_, rfl⟩, q _⟩
theorem W_mul (hm : IntMulOk a b) (q : ∀ t, Q (.int (a * b) t) vs σ) : W prog w K g os A env own ns (binaryOp .Mult (.int a t) (.int b u)) vs σ Q := W_look fun s H F => by with_reducible exact P.mul_int ⟨⟨_, rfl⟩, q _⟩ hm
theorem W_fdiv (hb : b ≠ 0) (hp : Builtin.divisionGoesByPylong a b = false) (q : ∀ t, Q (.int (a.fdiv b) t) vs σ) : W prog w K g os A env own ns (binaryOp .FloorDiv (.int a t) (.int b u)) vs σ Q := W_look fun s H F => by with_reducible exact floordiv_int hb ⟨⟨_, rfl⟩, q _⟩ (.inl hp)
theorem W_mod (hb : b ≠ 0) (q : ∀ t, Q (.int (a.fmod b) t) vs σ) : W prog w K g os A env own ns (binaryOp .Mod (.int a t) (.int b u)) vs σ Q := W_look fun s H F => by with_reducible exact mod_int' hb ⟨⟨_, rfl⟩, q _⟩
theorem W_iadd (q : ∀ t, Q (.int (a + b) t) vs σ) : W prog w K g os A env own ns (inplaceOp .Add (.int a t) (.int b u)) vs σ Q := W_look fun s H F => by with_reducible exact P.iadd_int ⟨⟨_, rfl⟩, q _⟩
theorem W_neg (q : ∀ t, Q (.int (-a) t) vs σ) : W prog w K g os A env own ns (unaryOp .USub (.int a t)) vs σ Q := W_look fun s H F => by with_reducible exact P.neg_int ⟨⟨_, rfl⟩, q _⟩
theorem W_eq (q : Q (.bool (a == b)) vs σ) : W prog w K g os A env own ns (compareOp .Eq (.int a t) (.int b u)) vs σ Q := W_look fun s H F => by with_reducible exact P.eq_int ⟨⟨_, rfl⟩, q⟩
theorem W_ne (q : Q (.bool (a != b)) vs σ) : W prog w K g os A env own ns (compareOp .NotEq (.int a t) (.int b u)) vs σ Q := W_look fun s H F => by with_reducible exact P.ne_int ⟨⟨_, rfl⟩, q⟩
theorem W_lt (q : Q (.bool (decide (a < b))) vs σ) : W prog w K g os A env own ns (compareOp .Lt (.int a t) (.int b u)) vs σ Q := W_look fun s H F => by with_reducible exact P.lt_int ⟨⟨_, rfl⟩, q⟩
theorem W_le (q : Q (.bool (decide (a ≤ b))) vs σ) : W prog w K g os A env own ns (compareOp .LtE (.int a t) (.int b u)) vs σ Q := W_look fun s H F => by with_reducible exact P.le_int ⟨⟨_, rfl⟩, q⟩
theorem W_gt (q : Q (.bool (decide (a > b))) vs σ) : W prog w K g os A env own ns (compareOp .Gt (.int a t) (.int b u)) vs σ Q := W_look fun s H F => by with_reducible exact P.gt_int ⟨⟨_, rfl⟩, q⟩
theorem W_ge (q : Q (.bool (decide (a ≥ b))) vs σ) : W prog w K g os A env own ns (compareOp .GtE (.int a t) (.int b u)) vs σ Q := W_look fun s H F => by with_reducible exact P.ge_int ⟨⟨_, rfl⟩, q⟩
theorem W_eqs (q : Q (.bool (x.cps.toList == y.cps.toList)) vs σ) : W prog w K g os A env own ns (compareOp .Eq (.str x t) (.str y u)) vs σ Q := W_look fun s H F => by with_reducible exact P.eq_str ⟨⟨_, rfl⟩, q⟩
theorem W_nes (q : Q (.bool (x.cps.toList != y.cps.toList)) vs σ) : W prog w K g os A env own ns (compareOp .NotEq (.str x t) (.str y u)) vs σ Q := W_look fun s H F => by with_reducible exact P.ne_str ⟨⟨_, rfl⟩, q⟩
theorem W_lts (q : Q (.bool (x.cps.toList < y.cps.toList)) vs σ) : W prog w K g os A env own ns (compareOp .Lt (.str x t) (.str y u)) vs σ Q := W_look fun s H F => by with_reducible exact P.lt_str ⟨⟨_, rfl⟩, q⟩
theorem W_gts (q : Q (.bool (y.cps.toList < x.cps.toList)) vs σ) : W prog w K g os A env own ns (compareOp .Gt (.str x t) (.str y u)) vs σ Q := W_look fun s H F => by with_reducible exact P.gt_str ⟨⟨_, rfl⟩, q⟩
theorem W_isNone {v : Value} (q : Q (.bool (v == .none)) vs σ) : W prog w K g os A env own ns (compareOp .Is v .none) vs σ Q := W_look fun s H F => by with_reducible exact is_none ⟨⟨_, rfl⟩, q⟩
theorem W_isNotNone {v : Value} (q : Q (.bool (!(v == .none))) vs σ) : W prog w K g os A env own ns (compareOp .IsNot v .none) vs σ Q := W_look fun s H F => by with_reducible exact isNot_none ⟨⟨_, rfl⟩, q⟩
end
theorem W_unary {op : UnaryOp} {e : Expr} {pos : Pos} {Q : ValQ} (h : W prog w K g os A env own ns (eval e env) vs σ fun v vs σ => W prog w K g os A env own ns (unaryOp op v) vs σ Q) : W prog w K g os A env own ns (eval (.UnaryOp op e pos) env) vs σ Q :=
  W_in fun s H F => wpAny_UnaryOp (h.go H F (fun _ _ _ _ H' F' q => q.out _ H' F'))
abbrev BoolQ := Bool → List (Option Value) → Led → Prop
theorem W_notv {v : Value} {Q : ValQ} (h : W prog w K g os A env own ns (truthy v) vs σ fun b vs σ => Q (.bool (!b)) vs σ) : W prog w K g os A env own ns (unaryOp .Not v) vs σ Q :=
  W_in fun s H F => not_value (h.out s H F)
theorem W_truthb {b : Bool} {Q : BoolQ} (q : Q b vs σ) : W prog w K g os A env own ns (truthy (.bool b)) vs σ Q := W_look fun s H F => by with_reducible exact wpAny_truthy_bool ⟨⟨_, rfl⟩, q⟩

/-! comparisons and tests -/
theorem W_cmp {l r : Expr} {op : CmpOp} {pos : Pos} {Q : ValQ} (h : W prog w K g os A env own ns (eval l env) vs σ fun a vs σ => W prog w K g os A env own ns (eval r env) vs σ fun b vs σ => W prog w K g os A env own ns (compareOp op a b) vs σ Q)
    (hm : behindInMarks op r = false := by with_unfolding_all rfl) : W prog w K g os A env own ns (eval (.Compare l [op] [r] pos) env) vs σ Q :=
  W_in fun s H F => wpAny_Compare1 (h.go H F (fun a _ _ _ H' F' q => q.go H' F' (fun b _ _ _ H₂ F₂ q₂ => q₂.out _ H₂ F₂))) hm
theorem W_tcmp {l r : Expr} {op : CmpOp} {pos : Pos} {whole : Sem Value} {Q : BoolQ} (h : W prog w K g os A env own ns (eval l env) vs σ fun a vs σ => W prog w K g os A env own ns (eval r env) vs σ fun b vs σ => W prog w K g os A env own ns (compareOp op a b) vs σ fun c vs σ => ∃ b, c = .bool b ∧ Q b vs σ)
    (hm : behindInMarks op r = false := by with_unfolding_all rfl) : W prog w K g os A env own ns (isTrue (.Compare l [op] [r] pos) env whole) vs σ Q :=
  W_in fun s H F => wpAny_isTrue_Compare1 (h.go H F (fun a _ _ _ H' F' q => q.go H' F' (fun b _ _ _ H₂ F₂ q₂ => wpAny_mono (q₂.out _ H₂ F₂) (fun c _ ⟨_, _, H₃, F₃, b, e, q₃⟩ => by
    subst e; exact wpAny_truthy_bool ⟨_, _, H₃, F₃, q₃⟩) fun _ _ e => e))) hm
theorem W_tnot {e : Expr} {pos : Pos} {whole : Sem Value} {Q : BoolQ} (h : W prog w K g os A env own ns (isTrue e env (eval e env)) vs σ fun b vs σ => Q (!b) vs σ) : W prog w K g os A env own ns (isTrue (.UnaryOp .Not e pos) env whole) vs σ Q :=
  W_in fun s H F => wpAny_isTrue_Not (h.out s H F)
theorem W_tval {e : Expr} {whole : Sem Value} {Q : BoolQ} (h : W prog w K g os A env own ns whole vs σ fun v vs σ => W prog w K g os A env own ns (truthy v) vs σ Q)
    (he : isTrue e env whole = (do let v ← whole; standAt e.pos; holding [v] (truthy v)) := by with_unfolding_all rfl) : W prog w K g os A env own ns (isTrue e env whole) vs σ Q :=
  W_in fun s H F => wpAny_isTrue_value (h.go H F (fun _ _ _ _ H' F' q => q.out _ H' F')) he
theorem W_tbool {op : BoolOp} {es : List Expr} {pos : Pos} {whole : Sem Value} {Q : BoolQ} (h : W prog w K g os A env own ns (allTrue op es env) vs σ Q) : W prog w K g os A env own ns (isTrue (.BoolOp op es pos) env whole) vs σ Q :=
  W_in fun s H F => wpAny_isTrue_BoolOp (h.out s H F)
theorem W_and0 {Q : BoolQ} (q : Q true vs σ) : W prog w K g os A env own ns (allTrue .And [] env) vs σ Q := W_in fun s H F => wpAny_allTrue_And_nil ⟨_, _, H, F, q⟩
theorem W_or0 {Q : BoolQ} (q : Q false vs σ) : W prog w K g os A env own ns (allTrue .Or [] env) vs σ Q := W_in fun s H F => wpAny_allTrue_Or_nil ⟨_, _, H, F, q⟩
theorem W_and {e : Expr} {rest : List Expr} {Q : BoolQ} (h : W prog w K g os A env own ns (isTrue e env (eval e env)) vs σ fun b vs σ => (b = true → W prog w K g os A env own ns (allTrue .And rest env) vs σ Q) ∧ (b = false → Q false vs σ)) :
    W prog w K g os A env own ns (allTrue .And (e :: rest) env) vs σ Q :=
  W_in fun s H F => wpAny_allTrue_And_cons (h.go H F (fun b _ vs' σ' H' F' q => by
    cases b with
    | true => exact (q.1 rfl).out _ H' F'
    | false => exact ⟨vs', σ', H', F', q.2 rfl⟩))
theorem W_or {e : Expr} {rest : List Expr} {Q : BoolQ} (h : W prog w K g os A env own ns (isTrue e env (eval e env)) vs σ fun b vs σ => (b = true → Q true vs σ) ∧ (b = false → W prog w K g os A env own ns (allTrue .Or rest env) vs σ Q)) :
    W prog w K g os A env own ns (allTrue .Or (e :: rest) env) vs σ Q :=
  W_in fun s H F => wpAny_allTrue_Or_cons (h.go H F (fun b _ vs' σ' H' F' q => by
    cases b with
    | true => exact ⟨vs', σ', H', F', q.1 rfl⟩
    | false => exact (q.2 rfl).out _ H' F'))
theorem W_ifexp {test body orelse : Expr} {pos : Pos} {Q : ValQ} (h : W prog w K g os A env own ns (isTrue test env (eval test env)) vs σ fun b vs σ =>
    (b = true → W prog w K g os A env own ns (eval body env) vs σ Q) ∧ (b = false → W prog w K g os A env own ns (eval orelse env) vs σ Q)) : W prog w K g os A env own ns (eval (.IfExp test body orelse pos) env) vs σ Q :=
  W_in fun s H F => wpAny_IfExp (h.go H F (fun b _ _ _ H' F' q => by
    cases b with
    | true => exact (q.1 rfl).out _ H' F'
    | false => exact (q.2 rfl).out _ H' F'))
/-- x or y as a value -/
theorem W_or2 {x y : Expr} {pos : Pos} {Q : ValQ} (h : W prog w K g os A env own ns (eval x env) vs σ fun v vs σ => W prog w K g os A env own ns (truthy v) vs σ fun b vs σ => (b = true → Q v vs σ) ∧ (b = false → W prog w K g os A env own ns (eval y env) vs σ Q)) :
    W prog w K g os A env own ns (eval (.BoolOp .Or [x, y] pos) env) vs σ Q :=
  W_in fun s H F => wpAny_Or2 (h.go H F (fun v _ _ _ H' F' q => q.go H' F' (fun b _ vs₂ σ₂ H₂ F₂ q₂ => by
    cases b with
    | true => exact ⟨vs₂, σ₂, H₂, F₂, q₂.1 rfl⟩
    | false => exact (q₂.2 rfl).out _ H₂ F₂)))

/-! a new object -/
theorem step_push {s : Shared} (H : Hp K g σ os s) (F : FrOk env own ns vs g σ s.heap) {o : Obj} (hf : o.isFreed = false) :
    σ s.heap.objs.size = none ∧ Hp K g (upd σ s.heap.objs.size o) os { s with heap := s.heap.push o } ∧ FrOk env own ns vs g (upd σ s.heap.objs.size o) (s.heap.push o) := by
  obtain ⟨hn, C⟩ := Chg.push (o := o) H.led hf
  exact ⟨hn, H.chg C s.toks, F.chg H C⟩
theorem W_list {es : List Expr} {pos : Pos} {Q : ValQ} (h : W prog w K g os A env own ns (spliced (backTo pos (starEach es env))) vs σ fun l vs σ => l.length ≤ sizeLine ∧ ∀ a, σ a = none → Q (.ref a) vs (upd σ a (lst l 0))) :
    W prog w K g os A env own ns (eval (.List es pos) env) vs σ Q :=
  W_in fun s H F => wpAny_List (wpAny_mono (h.out s H F) (fun l s₁ ⟨vs', σ', H', F', hz, q⟩ => by
    obtain ⟨hn, H₂, F₂⟩ := step_push H' F' (o := lst l 0) rfl
    exact ⟨hz, vs', _, H₂, F₂, q _ hn⟩) fun _ _ e => e)
theorem W_tuple {es : List Expr} {k : Nat} {pos : Pos} {Q : ValQ} (h : W prog w K g os A env own ns (spliced (backTo pos (starEach es env))) vs σ fun l vs σ => l.length ≤ sizeLine ∧ ∀ a, σ a = none → Q (.ref a) vs (upd σ a (tup l 0))) :
    W prog w K g os A env own ns (eval (.Tuple es k pos) env) vs σ Q :=
  W_in fun s H F => wpAny_Tuple (wpAny_mono (h.out s H F) (fun l s₁ ⟨vs', σ', H', F', hz, q⟩ => by
    obtain ⟨hn, H₂, F₂⟩ := step_push H' F' (o := tup l 0) rfl
    exact ⟨hz, vs', _, H₂, F₂, q _ hn⟩) fun _ _ e => e)

/-! attributes, items -/
theorem W_attr {e : Expr} {attr : Str} {pos : Pos} {Q : ValQ} (h : W prog w K g os A env own ns (eval e env) vs σ fun o vs σ => W prog w K g os A env own ns (getAttr o attr true) vs σ Q)
    (he : attributeBase e attr env (eval e env) = eval e env := by with_unfolding_all rfl) : W prog w K g os A env own ns (eval (.Attribute e attr pos) env) vs σ Q := W_in fun s H F => by
  rw [arm_eval_Attribute, he]
  exact wpAny_bind (h.go H F (fun o s₁ _ _ H' F' q => wpAny_bind (wpAny_standAt (wpAny_bind (wpAny_holding (wpAny_mono (q.out _ H' F') (fun r s₂ h₂ => wpAny_bind (wpAny_letTemporaryGo (wpAny_pure h₂))) fun _ _ y => y))))))
theorem W_subs {value slice : Expr} {pos : Pos} {Q : ValQ} (h : W prog w K g os A env own ns (eval value env) vs σ fun o vs σ => W prog w K g os A env own ns (eval slice env) vs σ fun i vs σ => W prog w K g os A env own ns (subscriptTail value slice o i) vs σ Q) :
    W prog w K g os A env own ns (eval (.Subscript value slice pos) env) vs σ Q :=
  W_in fun s H F => Subscript_ (h.go H F (fun o s₁ _ _ H' F' q => q.go H' F' (fun i s₂ _ _ H₂ F₂ q₂ => q₂.out _ H₂ F₂)))
section
variable {value slice : Expr} {a : Addr} {l : List Value} {n : Nat} {k : Int} {t : Tok} {v : Value} {Q : ValQ}
theorem W_item (e : σ a = some (lst l n)) (h0 : 0 ≤ k) (hf : k < 2 ^ 63) (hx : l[k.toNat]? = some v) (q : Q v vs σ)
    (hs : subscripted slice false (.ref a) (.int k t) = operate [.ref a, .int k t] (getItem (.ref a) (.int k t)) := by with_unfolding_all rfl) : W prog w K g os A env own ns (subscriptTail value slice (.ref a) (.int k t)) vs σ Q :=
  W_look fun s H F => have hl := isList_of H.led e
    tail_any hl.typeIs slot_list_getitem.lookup (wpAny_getItem_list hl h0 hf (by simpa using hx) ⟨⟨_, rfl⟩, q⟩) hs
theorem W_itemLast (e : σ a = some (lst l n)) (hne : l.length ≤ 2 ^ 60) (hx : l.getLast? = some v) (q : Q v vs σ)
    (hs : subscripted slice false (.ref a) (.int (-1) t) = operate [.ref a, .int (-1) t] (getItem (.ref a) (.int (-1) t)) := by with_unfolding_all rfl) : W prog w K g os A env own ns (subscriptTail value slice (.ref a) (.int (-1) t)) vs σ Q :=
  W_look fun s H F => by
    have hl := isList_of H.led e
    have hp : 0 < l.length := by cases l with | nil => cases hx | cons _ _ => simp
    refine tail_any hl.typeIs slot_list_getitem.lookup (wpAny_getItem_list_neg hl (by decide) (by rw [List.size_toArray]; omega) (by decide) ?_ ⟨⟨_, rfl⟩, q⟩) hs
    rw [List.size_toArray, List.getElem?_toArray, show (-1 + (l.length : Int)).toNat = l.length - 1 by omega, ← List.getLast?_eq_getElem?]; exact hx
theorem W_titem {j : Nat} (e : σ a = some (tup l n)) (hlo : -(2 ^ 63) ≤ k) (hf : k < 2 ^ 63) (hj : seqIndex? k l.length = some j) (hx : l[j]? = some v) (q : Q v vs σ)
    (hs : subscripted slice false (.ref a) (.int k t) = operate [.ref a, .int k t] (getItem (.ref a) (.int k t)) := by with_unfolding_all rfl) : W prog w K g os A env own ns (subscriptTail value slice (.ref a) (.int k t)) vs σ Q :=
  W_look fun s H F => item_tupleT (isTup_of H.led e) hlo hf hj hx ⟨⟨_, rfl⟩, q⟩ hs
end

/-! methods of a list -/
theorem W_meth {o : Expr} {name : Str} {apos pos : Pos} {args : List Expr} {T id : String} {Q : ValQ} (hbase : attributeBase o name env (eval o env) = eval o env)
    (hfew : ((backTo pos (starEach args env)).all (fun x => !x.1) && (backToKw pos (keywordEach [] env)).all (fun x => x.1.isSome) && decide (args.length + ([] : List Keyword).length + (if ([] : List Keyword).isEmpty then 0 else 1) < 30)) = true)
    (hline : (apos.endLine == pos.line) = true) (pa : PlainAttrs T) (slot : Slot T name id) (hty : typeOf (.builtin id) = pure (.type "method_descriptor"))
    (h : W prog w K g os A env own ns (eval o env) vs σ fun ov vs σ => ∃ a ob, ov = .ref a ∧ σ a = some ob ∧ ob.cls = .type T ∧ ob.dict = none ∧ W prog w K g os A env own ns (callWith pos (.builtin id) [ov] (backTo pos (starEach args env)) []) vs σ Q) :
    W prog w K g os A env own ns (eval (.Call (.Attribute o name apos) args [] pos) env) vs σ Q :=
  W_in fun s H F => wpAny_Call_method_late hbase hfew hline rfl (wpAny_mono (h.out s H F) (fun ov s₁ ⟨_, _, H', F', a, ob, e, hσ, hc, hd, q⟩ => by
    subst e
    exact ⟨T, id, pa, slot, hty, ⟨ob, H'.led _ _ hσ, hc⟩, fun b eb => by cases eb; exact ⟨ob, H'.led _ _ hσ, hd⟩, q.out _ H' F'⟩) fun _ _ e => e)
section
variable {o e : Expr} {apos pos : Pos} {Q : ValQ}
theorem W_appendB {a : Addr} {l : List Value} {n : Nat} {v : Value} (e : σ a = some (lst l n)) (hz : l.length ≤ sizeLine) (q : Q .none vs (upd σ a (lst (l ++ [v]) (n + 1)))) : W prog w K g os A env own ns (call (.builtin "list.append") [.ref a, v] []) vs σ Q :=
  W_of fun s H F => by
    have hg := H.led _ _ e
    refine append_at (its := l.toArray) (n := n) hg (fun h' hs ho' => ⟨_, h', s.toks, rfl, Chg.set (o' := lst (l ++ [v]) (n + 1)) H.led e hs ?_, q⟩) (by rw [List.size_toArray]; exact hz)
    rw [ho']; simp
/-- o.append(e) -/
theorem W_append (h : W prog w K g os A env own ns (eval o env) vs σ fun ov vs σ => ∃ a l n, ov = .ref a ∧ σ a = some (lst l n) ∧ W prog w K g os A env own ns (eval e env) vs σ fun v vs σ =>
      ∃ l n, σ a = some (lst l n) ∧ l.length ≤ sizeLine ∧ Q .none vs (upd σ a (lst (l ++ [v]) (n + 1))))
    (hbase : attributeBase o "append" env (eval o env) = eval o env := by with_unfolding_all rfl) (hline : (apos.endLine == pos.line) = true := by with_unfolding_all rfl) (he : starEach [e] env = (false, eval e env) :: starEach [] env := by with_unfolding_all rfl) :
    W prog w K g os A env own ns (eval (.Call (.Attribute o "append" apos) [e] [] pos) env) vs σ Q := by
  refine W_meth hbase (by rw [he]; rfl) hline PySem.F.plainAttrs_list PySem.F.slot_list_append PySem.F.type_list_append (W_mono h fun ov vs σ => ?_)
  rintro ⟨a, l, n, rfl, hσ, q⟩
  refine ⟨a, _, rfl, hσ, rfl, rfl, W_callWithB (W_args (W_mono q fun v vs σ => ?_) he) he (by rw [he]; rfl)⟩
  rintro ⟨l, n, hσ, hz, q⟩
  exact W_args0 (W_appendB hσ hz q)
theorem W_popB {a : Addr} {p : List Value} {n : Nat} {y : Value} (e : σ a = some (lst (p ++ [y]) n)) (hz : (p ++ [y]).length ≤ sizeLine) (q : Q y vs (upd σ a (lst p (n + 1)))) : W prog w K g os A env own ns (call (.builtin "list.pop") [.ref a] []) vs σ Q :=
  W_of fun s H F => by
    have hg := H.led _ _ e
    have hk : (p ++ [y]).toArray.size - 1 = p.length := by rw [List.size_toArray, List.length_append]; rfl
    have hy : (p ++ [y]).toArray[(p ++ [y]).toArray.size - 1]? = some y := by rw [hk]; simp
    refine call_meets PySem.F.slot_list_pop ⟨_, hg, rfl⟩ PySem.F.entry_list_pop (PySem.F.args_list_pop_1 _) (PySem.MeetsSeq.list_pop_last a _ n y hy (by rw [List.size_toArray]; exact hz)) ⟨hg, _, _, s.toks, rfl, Chg.set (o' := lst p (n + 1)) H.led e (Heap.SameBut.update ..) ?_, q⟩
    have q := PySem.IsL.update hg (fun xs => xs.eraseIdxIfInBounds ((p ++ [y]).toArray.size - 1))
    have e1 : (p ++ [y]).toArray.eraseIdxIfInBounds ((p ++ [y]).toArray.size - 1) = p.toArray := by rw [hk, kl_erase, List.append_nil]
    rw [e1, if_neg (by simp)] at q
    exact q
theorem W_pop (h : W prog w K g os A env own ns (eval o env) vs σ fun ov vs σ => ∃ a p y n, ov = .ref a ∧ σ a = some (lst (p ++ [y]) n) ∧ (p ++ [y]).length ≤ sizeLine ∧ Q y vs (upd σ a (lst p (n + 1))))
    (hbase : attributeBase o "pop" env (eval o env) = eval o env := by with_unfolding_all rfl) (hline : (apos.endLine == pos.line) = true := by with_unfolding_all rfl) :
    W prog w K g os A env own ns (eval (.Call (.Attribute o "pop" apos) [] [] pos) env) vs σ Q := by
  refine W_meth hbase rfl hline PySem.F.plainAttrs_list PySem.F.slot_list_pop PySem.F.type_list_pop (W_mono h fun ov vs σ => ?_)
  rintro ⟨a, p, y, n, rfl, hσ, hz, q⟩
  refine ⟨a, _, rfl, hσ, rfl, rfl, W_in fun s H F => callWith_builtin rfl (PySem.evalArgs_none ((W_popB hσ hz q).out s H F))⟩
end
end TextMW3
noncomputable section TextMW4
variable {prog : Program} {w : World} {K : Frag} {g : Led} {os : OsState} {A : Around} {env : Env} {own : Bool} {ns : List (Str × NameKind)} {vs : List (Option Value)} {σ : Led}

/-! statements with what follows -/
section
variable {rest : List Stmt} {Q : FlowQ}
theorem W_sAssign {x : Str} {px pos : Pos} {value : Expr} (h : W prog w K g os A env own ns (eval value env) vs σ fun v vs σ => ∃ k vs', Sto ns vs x k v vs' ∧ (k = .local ∨ (k = .cell ∧ own = true)) ∧ W prog w K g os A env own ns (execs rest env) vs' σ Q)
    (hs : swapsWith value (some (.Name x px)) pos.line env = pure false := by with_unfolding_all rfl) : W prog w K g os A env own ns (execs (.Assign [.Name x px] value pos :: rest) env) vs σ Q :=
  W_cons (W_assign (W_mono h fun v vs σ z => z) hs)
theorem W_sAug {x : Str} {px pos : Pos} {op : Operator} {value : Expr} {k : NameKind} {old : Value} (hl : Ld ns vs x k (some old)) (hk : k = .local ∨ k = .cell ∨ k = .free)
    (h : W prog w K g os A env own ns (eval value env) vs σ fun v vs σ => W prog w K g os A env own ns (inplaceOp op old v) vs σ fun r vs σ => ∃ k vs', Sto ns vs x k r vs' ∧ (k = .local ∨ (k = .cell ∧ own = true)) ∧ W prog w K g os A env own ns (execs rest env) vs' σ Q) :
    W prog w K g os A env own ns (execs (.AugAssign (.Name x px) op value pos :: rest) env) vs σ Q := W_cons (W_aug hl hk h)
theorem W_sExpr {e : Expr} {pos : Pos} (h : W prog w K g os A env own ns (eval e env) vs σ fun _ vs σ => W prog w K g os A env own ns (execs rest env) vs σ Q)
    (hs : swapsWith e none pos.line env = pure false := by with_unfolding_all rfl) : W prog w K g os A env own ns (execs (.Expr e pos :: rest) env) vs σ Q := W_cons (W_expr h hs)
theorem W_sIf {test : Expr} {body orelse : List Stmt} {pos : Pos} (h : W prog w K g os A env own ns (isTrue test env (eval test env)) vs σ fun b vs σ =>
    (b = true → W prog w K g os A env own ns (execs body env) vs σ (seqQ prog w K g os A env own ns rest Q)) ∧ (b = false → W prog w K g os A env own ns (execs orelse env) vs σ (seqQ prog w K g os A env own ns rest Q))) :
    W prog w K g os A env own ns (execs (.If test body orelse pos :: rest) env) vs σ Q := W_cons (W_if h)
theorem W_sRet {e : Expr} {pos : Pos} (h : W prog w K g os A env own ns (eval e env) vs σ fun v vs σ => Q (.ret v) vs σ) : W prog w K g os A env own ns (execs (.Return (some e) pos :: rest) env) vs σ Q :=
  W_cons (W_ret (W_mono h fun v vs σ z => z))
theorem W_sRet0 {pos : Pos} (h : Q (.ret .none) vs σ) : W prog w K g os A env own ns (execs (.Return none pos :: rest) env) vs σ Q := W_cons (W_ret0 h)
theorem seq_next (h : W prog w K g os A env own ns (execs rest env) vs σ Q) : seqQ prog w K g os A env own ns rest Q .next vs σ := h
theorem seq_ret {v : Value} (h : Q (.ret v) vs σ) : seqQ prog w K g os A env own ns rest Q (.ret v) vs σ := h
end
def retQ (Φ : Value → Led → Prop) : FlowQ := fun fl _ σ' => Φ (match fl with | .ret v => v | _ => .none) σ'
theorem retQ_ret {Φ : Value → Led → Prop} {v : Value} (h : Φ v σ) : retQ Φ (.ret v) vs σ := h
theorem retQ_next {Φ : Value → Led → Prop} (h : Φ .none σ) : retQ Φ .next vs σ := h

/-! an extended base -/
theorem Hp.grow {s : Shared} (H : Hp K g σ os s) {it : Addr} {o : Obj} (ho : s.heap.get? it = some o) (hσ : σ it = none) (hg : g it = none) : Hp K (upd g it o) σ os s := by
  refine ⟨H.gd.mono (Le.upd hg), fun a ob e => ?_, H.led, fun a ob e => ?_, H.gens, H.os⟩
  · unfold upd at e; split at e
    · rename_i q; cases e; rw [q]; exact ho
    · exact H.keep _ _ e
  · unfold upd; split
    · rename_i q; rw [q, hσ] at e; cases e
    · exact H.dis _ _ e
theorem Hp.shrink {s : Shared} {it : Addr} {o : Obj} (G : Gd K g) (H : Hp K (upd g it o) σ os s) (hg : g it = none) : Hp K g σ os s ∧ s.heap.get? it = some o ∧ σ it = none := by
  have hle : Le g (upd g it o) := Le.upd hg
  refine ⟨⟨G, fun a ob e => H.keep _ _ (hle _ _ e), H.led, fun a ob e => ?_, H.gens, H.os⟩, H.keep _ _ upd_same, ?_⟩
  · have := H.dis _ _ e; exact (upd_none this).1
  · cases q : σ it with
    | none => rfl
    | some ob => have := H.dis _ _ q; rw [upd_same] at this; cases this
theorem FrOk.grow {h : Heap} {it : Addr} {o : Obj} (F : FrOk env own ns vs g σ h) (ho : h.get? it = some o) (hd : ∃ xs, o.data = .fields xs) (hg : g it = none) : FrOk env own ns vs (upd g it o) σ h := by
  obtain ⟨xs, hd⟩ := hd
  refine ⟨F.names, F.kind, F.ok, F.glob, F.blt, ⟨F.locf.1, ?_⟩, F.loc, fun x k v h1 h2 => ?_, F.apart⟩
  · obtain ⟨m, ⟨o', es, ep, ho', hd', _⟩, _⟩ := F.loc
    rw [upd_ne (by intro e; rw [e, ho] at ho'; cases ho'; rw [hd] at hd'; cases hd')]; exact F.locf.2
  · obtain ⟨c, e1, ⟨oc, hoc, hdc⟩, e3⟩ := F.cell x k v h1 h2
    have ne : c ≠ it := by intro e; rw [e, ho] at hoc; cases hoc; rw [hd] at hdc; cases hdc
    cases own with
    | true => exact ⟨c, e1, ⟨oc, hoc, hdc⟩, by simp only [if_true] at e3 ⊢; exact ⟨e3.1, by rw [upd_ne ne]; exact e3.2.1, e3.2.2⟩⟩
    | false => exact ⟨c, e1, ⟨oc, hoc, hdc⟩, by simp only [Bool.false_eq_true, if_false] at e3 ⊢; rw [upd_ne ne]; exact e3⟩
theorem FrOk.shrink {h : Heap} {it : Addr} {o : Obj} (F : FrOk env own ns vs (upd g it o) σ h) (hd : ∃ xs, o.data = .fields xs) (hg : g it = none) : FrOk env own ns vs g σ h := by
  obtain ⟨xs, hd⟩ := hd
  refine ⟨F.names, F.kind, F.ok, F.glob, F.blt, ⟨F.locf.1, (upd_none F.locf.2).1⟩, F.loc, fun x k v h1 h2 => ?_, F.apart⟩
  obtain ⟨c, e1, e2, e3⟩ := F.cell x k v h1 h2
  cases own with
  | true => exact ⟨c, e1, e2, by simp only [if_true] at e3 ⊢; exact ⟨e3.1, (upd_none e3.2.1).1, e3.2.2⟩⟩
  | false =>
    refine ⟨c, e1, e2, ?_⟩
    simp only [Bool.false_eq_true, if_false] at e3 ⊢
    obtain ⟨oc, hc, hdc⟩ := e3
    unfold upd at hc; split at hc
    · cases hc; rw [hd] at hdc; cases hdc
    · exact ⟨oc, hc, hdc⟩

theorem FrOk.ext {h h' : Heap} {it : Addr} {o : Obj} (F : FrOk env own ns vs g σ h) (he : Heap.ExtBut it h h') (ho : h.get? it = some o) (hd : ∃ xs, o.data = .fields xs) : FrOk env own ns vs g σ h' := by
  obtain ⟨xs, hd⟩ := hd
  refine ⟨F.names, F.kind, F.ok, F.glob, F.blt, F.locf, ?_, fun x k v h1 h2 => ?_, F.apart⟩
  · obtain ⟨m, ⟨o', es, ep, ho', hd', r⟩, hm⟩ := F.loc
    exact ⟨m, ⟨o', es, ep, he _ _ (by intro e; rw [e, ho] at ho'; cases ho'; rw [hd] at hd'; cases hd') ho', hd', r⟩, hm⟩
  · obtain ⟨c, e1, ⟨oc, hoc, hdc⟩, e3⟩ := F.cell x k v h1 h2
    exact ⟨c, e1, ⟨oc, he _ _ (by intro e; rw [e, ho] at hoc; cases hoc; rw [hd] at hdc; cases hdc) hoc, hdc⟩, e3⟩

/-! iterators -/
structure Itr (prog : Program) (w : World) (A : Around) (it : Addr) (n : Nat) (P : Nat → Value → Prop) (S : Heap → Prop) (ob : Nat → Obj → Prop) : Prop where
  fields : ∀ i o, ob i o → ∃ xs, o.data = .fields xs
  self : ∀ i o (s : Shared) (Q : Value → Shared → Prop), s.heap.get? it = some o → ob i o → Q (.ref it) s → wpAny (model prog w) A (pyIter (.ref it)) Q (fun _ _ => False) s
  item : ∀ i o (s : Shared) (Q : Option Value → Shared → Prop), i < n → s.heap.get? it = some o → ob i o → S s.heap → (∀ v h' t o', P i v → h'.get? it = some o' → ob (i + 1) o' → Heap.SameBut it s.heap h' → Q (some v) { s with heap := h', toks := t }) →
    wpAny (model prog w) A (pyNext (.ref it)) Q (fun _ _ => False) s
  fin : ∀ o (s : Shared) (Q : Option Value → Shared → Prop), s.heap.get? it = some o → ob n o → S s.heap → (∀ h', Heap.ExtBut it s.heap h' → Q none { s with heap := h' }) → wpAny (model prog w) A (pyNext (.ref it)) Q (fun _ _ => False) s

structure Itb (prog : Program) (w : World) (A : Around) (v : Value) (σ : Led) (n : Nat) (P : Nat → Value → Prop) (S : Led → Prop) : Prop where
  s0 : S σ
  go : ∀ (s : Shared) (Q : Value → Shared → Prop), (∀ a o, σ a = some o → s.heap.get? a = some o) →
    (∀ (o : Obj) (ob : Nat → Obj → Prop), o.isFreed = false → ob 0 o → Itr prog w A s.heap.objs.size n P (fun h => ∃ σ', S σ' ∧ ∀ a o, σ' a = some o → h.get? a = some o) ob → Q (.ref s.heap.objs.size) { s with heap := s.heap.push o }) →
    wpAny (model prog w) A (pyIter v) Q (fun _ _ => False) s

theorem itb_list {a : Addr} {l : List Value} {n : Nat} (hA : A.handled = none) (e : σ a = some (lst l n)) : Itb prog w A (.ref a) σ l.length (fun i v => l[i]? = some v) (fun σ => ∃ n, σ a = some (lst l n)) := by
  refine ⟨⟨n, e⟩, fun s Q hl h => ?_⟩
  refine wpAny_pyIter_list (isList_of hl e) (h _ (fun i o => o.cls = .type "list_iterator" ∧ o.data = .fields #[.ref a, .int i 0]) rfl ⟨rfl, rfl⟩ ⟨fun i o z => ⟨_, z.2⟩, fun i o s Q ho z q => ?_, fun i o s Q hi ho z hS q => ?_, fun o s Q ho z hS q => ?_⟩)
  · exact wpAny_pyIter_listiter (l := a) (i := i) ⟨o, ho, z.1, z.2⟩ q
  · obtain ⟨σ', ⟨n', e'⟩, hl'⟩ := hS
    refine wpAny_pyNext_list_item (it := _) (l := a) (i := i) ⟨o, ho, z.1, z.2⟩ (isList_of hl' e') (x := l[i]) (by simp [List.getElem?_eq_getElem hi]) fun h' hit hs => ?_
    obtain ⟨o', ho', hc', hd'⟩ := hit
    exact q _ h' s.toks o' (List.getElem?_eq_getElem hi) ho' ⟨hc', hd'⟩ hs
  · obtain ⟨σ', ⟨n', e'⟩, hl'⟩ := hS
    exact wpAny_pyNext_list_end hA (l := a) (i := l.length) ⟨o, ho, z.1, z.2⟩ (isList_of hl' e') (by simp) q

abbrev rng (a b c : Int) (t u v : Tok) : Obj := { cls := .type "range", dict := none, data := .fields #[.int a t, .int b u, .int c v], slots := #[] }
theorem itb_range {r : Addr} {a b c : Int} {t u v : Tok} {n : Nat} (hA : A.handled = none) (e : σ r = some (rng a b c t u v)) (hs : Builtin.Range.small a b c = true) (hn : Builtin.Range.rangeSize a b c = (n : Int)) :
    Itb prog w A (.ref r) σ n (fun i v => ∃ t, v = .int (a + i * c) t) (fun _ => True) := by
  refine ⟨trivial, fun s Q hl h => ?_⟩
  refine wpAny_pyIter_range (hl _ _ e) hs (h _ (fun i o => o = { cls := .type "range_iterator", dict := none, data := .fields #[rawInt (a + i * c), rawInt ((n : Int) - i), rawInt c], slots := #[] }) rfl ?_ ⟨fun i o z => ⟨_, congrArg Obj.data z⟩, fun i o s Q ho z q => ?_, fun i o s Q hi ho z hS q => ?_, fun o s Q ho z hS q => ?_⟩)
  · rw [hn]; simp
  · exact wpAny_pyIter_rangeiter (x := a + i * c) (left := (n : Int) - i) (step := c) (ho.trans (congrArg some z)) q
  · refine wpAny_pyNext_range_item (x := a + i * c) (left := (n : Int) - i) (step := c) (ho.trans (congrArg some z)) (by omega) fun h' hit hs => ?_
    refine q _ h' _ _ ⟨_, rfl⟩ hit ?_ hs
    have e1 : a + ((i + 1 : Nat) : Int) * c = a + (i : Int) * c + c := by push_cast; rw [Int.add_mul, Int.one_mul, Int.add_assoc]
    have e2 : (n : Int) - ((i + 1 : Nat) : Int) = (n : Int) - (i : Int) - 1 := by push_cast; omega
    rw [e1, e2]
  · exact wpAny_pyNext_range_end hA (x := a + n * c) (left := (n : Int) - n) (step := c) (ho.trans (congrArg some z)) (by omega) q

/-! for -/
theorem W_forE {x : Str} {px pos : Pos} {iter : Expr} {body : List Stmt} {Q : FlowQ}
    (h : W prog w K g os A env own ns (eval iter env) vs σ fun v vs σ => ∃ (n : Nat) (P : Nat → Value → Prop) (S : Led → Prop) (I : Nat → List (Option Value) → Led → Prop), Itb prog w A v σ n P S ∧ I 0 vs σ ∧ (∀ i vs σ, I i vs σ → S σ) ∧
      (∀ i v vs σ g, i < n → P i v → I i vs σ → ∃ k vs', Sto ns vs x k v vs' ∧ (k = .local ∨ (k = .cell ∧ own = true)) ∧
        W prog w K g os A env own ns (execs body env) vs' σ fun f vs σ => match f with | .next | .cont => I (i + 1) vs σ | .brk => Q .next vs σ | .ret v => Q (.ret v) vs σ) ∧
      (∀ vs σ, I n vs σ → Q .next vs σ))
    (hs : ∀ x, foldedSetIterable iter env x = pure x := by intro _; with_unfolding_all rfl) (hown : ∀ v it, letOwnedTupleGo (.Name x px) it v = pure () := by intro _ _; with_unfolding_all rfl) : W prog w K g os A env own ns (exec (.For (.Name x px) iter body [] pos) env) vs σ Q := W_in fun s H F => by
  refine wpAny_For (hs := hs) (h.go H F fun v s₁ vs₁ σ₁ H₁ F₁ z => ?_)
  obtain ⟨n, P, S, I, B, h0, hIS, turn, fin⟩ := z
  refine B.go s₁ _ H₁.led fun o ob hf h0b R => ?_
  obtain ⟨hn, H₂, F₂⟩ := step_push H₁ F₁ (o := o) hf
  have hsz : s₁.heap.get? s₁.heap.objs.size = none := by
    cases q : s₁.heap.get? s₁.heap.objs.size with
    | none => rfl
    | some o' => exact absurd (Heap.lt_size q) (Nat.lt_irrefl _)
  have hgn : g s₁.heap.objs.size = none := by
    cases q : g s₁.heap.objs.size with
    | none => rfl
    | some o' => rw [H₁.keep _ _ q] at hsz; cases hsz
  generalize s₁.heap.objs.size = it at *
  refine codeAny_mono (codeAny_forLoop_any (R := fun r s' => ∃ f, r = .ok f ∧ ∃ vs' σ', Hp K g σ' os s' ∧ FrOk env own ns vs' g σ' s'.heap ∧ Q f vs' σ')
    (fun m s' => ∃ i o vs σ, i ≤ n ∧ m = n + 1 - i ∧ Hp K g σ os s' ∧ FrOk env own ns vs g σ s'.heap ∧ σ it = none ∧ s'.heap.get? it = some o ∧ ob i o ∧ I i vs σ) ?_ (n + 1)
    ⟨0, o, vs₁, σ₁, Nat.zero_le _, rfl, H₂.weak (Le.upd hn), F₂.weak (Le.upd hn), hn, H₂.led _ _ upd_same, h0b, h0⟩) fun r s' ⟨f, e, z⟩ => by subst e; exact z
  rintro m s' ⟨i, o, vs, σ, hi, rfl, H, F, hσ, ho, hob, hI⟩
  have hS : ∃ σ', S σ' ∧ ∀ a o, σ' a = some o → s'.heap.get? a = some o := ⟨σ, hIS _ _ _ hI, H.led⟩
  have hfd := R.fields _ _ hob
  have hdk : ∀ v, o.data ≠ .cell v := fun v e => by obtain ⟨xs, q⟩ := hfd; rw [q] at e; cases e
  by_cases hlt : i < n
  · refine wpAny_mono (R.item i o s' _ hlt ho hob hS fun v h' t o' hP ho' hob' hsb => ?_) (fun _ _ z => z) fun _ _ e => e.elim
    refine wpAny_of_eq (a := ()) (hown _ _) ?_
    obtain ⟨k, vs', hst, hk, hw⟩ := turn i v vs σ (upd g it o') hlt hP hI
    have C : Chg (upd σ it o) s'.heap (upd σ it o') h' := by
      have := Chg.set (σ := upd σ it o) (o' := o') (h := s'.heap) (h' := h') (a := it) (o := o) (fun a ob e => by
        unfold upd at e; split at e
        · rename_i q; cases e; rw [q]; exact ho
        · exact H.led _ _ e) upd_same hsb ho'
      rwa [upd_upd] at this
    have Hb : Hp K g (upd σ it o) os s' := ⟨H.gd, H.keep, fun a ob e => by
        unfold upd at e; split at e
        · rename_i q; cases e; rw [q]; exact ho
        · exact H.led _ _ e, fun a ob e => by
        unfold upd at e; split at e
        · rename_i q; rw [q]; exact hgn
        · exact H.dis _ _ e, H.gens, H.os⟩
    have Fb : FrOk env own ns vs g (upd σ it o) s'.heap := by
      refine ⟨F.names, F.kind, F.ok, F.glob, F.blt, ⟨?_, F.locf.2⟩, F.loc, fun x k v h1 h2 => ?_, F.apart⟩
      · obtain ⟨m, ⟨oL, es, ep, hoL, hdL, _⟩, _⟩ := F.loc
        rw [upd_ne (by intro e; rw [e, ho] at hoL; cases hoL; obtain ⟨xs, q⟩ := hfd; rw [q] at hdL; cases hdL)]; exact F.locf.1
      · obtain ⟨c, e1, ⟨oc, hoc, hdc⟩, e3⟩ := F.cell x k v h1 h2
        have ne : c ≠ it := by intro e; rw [e, ho] at hoc; cases hoc; exact hdk _ hdc
        cases own with
        | true => exact ⟨c, e1, ⟨oc, hoc, hdc⟩, by simp only [if_true] at e3 ⊢; exact ⟨by rw [upd_ne ne]; exact e3.1, e3.2⟩⟩
        | false => exact ⟨c, e1, ⟨oc, hoc, hdc⟩, e3⟩
    have H₃ := (Hb.chg C t).weak (Le.upd (o := o') hσ)
    have F₃ := (Fb.chg Hb C).weak (Le.upd (o := o') hσ)
    have H₄ := H₃.grow (o := o') ho' hσ hgn
    have F₄ := F₃.grow ho' (R.fields _ _ hob') hgn
    refine wpAny_assign_Name (wpAny_mono ((W_store hst hk (Q := fun _ vs₅ σ₅ => vs₅ = vs' ∧ σ₅ = σ) ⟨rfl, rfl⟩).out _ H₄ F₄) (fun _ s₅ ⟨vs₅, σ₅, H₅, F₅, e1, e2⟩ => ?_) fun _ _ e => e.elim)
    subst e1 e2
    refine hw.go H₅ F₅ (fun f s₆ vs₆ σ₆ H₆ F₆ q => ?_)
    have back := Hp.shrink H.gd H₆ hgn
    have F₇ := F₆.shrink (R.fields _ _ hob') hgn
    cases f with
    | next => exact ⟨n + 1 - (i + 1), by omega, i + 1, o', vs₆, σ₆, hlt, rfl, back.1, F₇, back.2.2, back.2.1, hob', q⟩
    | cont => exact ⟨n + 1 - (i + 1), by omega, i + 1, o', vs₆, σ₆, hlt, rfl, back.1, F₇, back.2.2, back.2.1, hob', q⟩
    | brk => exact ⟨_, rfl, vs₆, σ₆, back.1, F₇, q⟩
    | ret v => exact ⟨_, rfl, vs₆, σ₆, back.1, F₇, q⟩
  · have hin : i = n := by omega
    subst hin
    refine wpAny_mono (R.fin o s' _ ho hob hS fun h' hext => ?_) (fun _ _ z => z) fun _ _ e => e.elim
    exact wpAny_execs_nil ⟨_, rfl, vs, σ, ⟨H.gd, fun a ob e => hext _ _ (by rintro rfl; rw [hgn] at e; cases e) (H.keep _ _ e), fun a ob e => hext _ _ (by rintro rfl; rw [hσ] at e; cases e) (H.led _ _ e), H.dis, H.gens, H.os⟩, F.ext hext ho hfd, fin _ _ hI⟩
theorem W_for {x : Str} {px pos : Pos} {iter : Expr} {body : List Stmt} {Q : FlowQ} {n : Nat} {P : Nat → Value → Prop} {S : Led → Prop} (I : Nat → List (Option Value) → Led → Prop)
    (h : W prog w K g os A env own ns (eval iter env) vs σ fun v vs σ => Itb prog w A v σ n P S ∧ I 0 vs σ)
    (hIS : ∀ i vs σ, I i vs σ → S σ)
    (turn : ∀ i v vs σ g, i < n → P i v → I i vs σ → ∃ k vs', Sto ns vs x k v vs' ∧ (k = .local ∨ (k = .cell ∧ own = true)) ∧
      W prog w K g os A env own ns (execs body env) vs' σ fun f vs σ => match f with | .next | .cont => I (i + 1) vs σ | .brk => Q .next vs σ | .ret v => Q (.ret v) vs σ)
    (fin : ∀ vs σ, I n vs σ → Q .next vs σ) (hs : ∀ x, foldedSetIterable iter env x = pure x := by intro _; with_unfolding_all rfl) (hown : ∀ v it, letOwnedTupleGo (.Name x px) it v = pure () := by intro _ _; with_unfolding_all rfl) : W prog w K g os A env own ns (exec (.For (.Name x px) iter body [] pos) env) vs σ Q :=
  W_forE (W_mono h fun v vs σ ⟨b, i⟩ => ⟨n, P, S, I, b, i, hIS, turn, fin⟩) hs hown
end TextMW4
noncomputable section TextMW5
variable {prog : Program} {w : World} {K : Frag} {g : Led} {os : OsState} {A : Around} {env : Env} {own : Bool} {ns : List (Str × NameKind)} {vs : List (Option Value)} {σ : Led}

/-! comprehensions over one source -/
inductive Cap (ns : List (Str × NameKind)) (vs : List (Option Value)) : List (Str × NameKind) → List (Str × NameKind) → List (Option Value) → Prop
  | nil : Cap ns vs [] [] []
  | glob {s : Str} : Cap ns vs [(s, .globalImplicit)] [(s, .globalImplicit)] [none]
  | free {y : Str} {u : Value} (hy : Ld ns vs y .cell (some u)) : Cap ns vs [(y, .free)] [(y, .cell)] [some u]
  | both {s y : Str} {u : Value} (hy : Ld ns vs y .cell (some u)) : Cap ns vs [(s, .globalImplicit), (y, .free)] [(s, .globalImplicit), (y, .cell)] [none, some u]

def CapF (tl' : List (Str × NameKind)) (tv : List (Option Value)) (y : Str) (u : Value) : Prop := (tl' = [(y, .cell)] ∧ tv = [some u]) ∨ ∃ s, tl' = [(s, .globalImplicit), (y, .cell)] ∧ tv = [none, some u]
theorem cap_closure {h : Heap} {tl tl' tv} {scope : Scope} {d0 x : Str} (hc : Cap ns vs tl tl' tv) (hsc : scope.names = (d0, .local) :: (x, .local) :: tl) (F : FrOk env own ns vs g σ h) :
    ∃ cl, closureFor scope env = pure cl ∧ ((tl' = [] ∨ ∃ s, tl' = [(s, .globalImplicit)] ∧ tv = [none]) ∧ cl = [] ∨ ∃ y u c, CapF tl' tv y u ∧ cl = [(y, c)] ∧ Ld ns vs y .cell (some u) ∧ env.cells.lookup y = some c) := by
  cases hc with
  | nil => exact ⟨[], closureFor_none (by rw [hsc]; intro z hz; rcases List.mem_cons.mp hz with rfl | hz; · simp
                                          rcases List.mem_cons.mp hz with rfl | hz; · simp
                                          cases hz), .inl ⟨.inl rfl, rfl⟩⟩
  | glob => exact ⟨[], closureFor_none (by rw [hsc]; intro z hz; rcases List.mem_cons.mp hz with rfl | hz; · simp
                                           rcases List.mem_cons.mp hz with rfl | hz; · simp
                                           rcases List.mem_cons.mp hz with rfl | hz; · simp
                                           cases hz), .inl ⟨.inr ⟨_, rfl, rfl⟩, rfl⟩⟩
  | free hy =>
    rename_i y u
    obtain ⟨c, e1, e2, _⟩ := F.cell _ _ _ hy (.inl rfl)
    refine ⟨[(y, c)], ?_, .inr ⟨y, u, c, .inl ⟨rfl, rfl⟩, rfl, hy, e1⟩⟩
    simp only [closureFor]
    rw [hsc]
    simp only [List.forIn_cons, List.forIn_nil]
    unfold cellOf
    rw [e1]
    rfl
  | both hy =>
    rename_i s y u
    obtain ⟨c, e1, e2, _⟩ := F.cell _ _ _ hy (.inl rfl)
    refine ⟨[(y, c)], ?_, .inr ⟨y, u, c, .inr ⟨s, rfl, rfl⟩, rfl, hy, e1⟩⟩
    simp only [closureFor]
    rw [hsc]
    simp only [List.forIn_cons, List.forIn_nil]
    unfold cellOf
    rw [e1]
    rfl
theorem cap_names {h : Heap} {tl tl' tv} {scope : Scope} {d0 x : Str} (hc : Cap ns vs tl tl' tv) (hsc : scope.names = (d0, .local) :: (x, .local) :: tl) (F : FrOk env own ns vs g σ h) :
    (relabel scope env).names = (d0, .local) :: (x, .local) :: tl' := by
  unfold relabel
  rw [hsc]
  cases hc with
  | nil => simp
  | glob => simp
  | free hy =>
    rename_i y u
    have : env.kindOf y = some .cell := by unfold Env.kindOf; rw [F.names]; exact hy.nm.kind F.ok
    simp [this, F.kind]
  | both hy =>
    rename_i s y u
    have : env.kindOf y = some .cell := by unfold Env.kindOf; rw [F.names]; exact hy.nm.kind F.ok
    simp [this, F.kind]

def tst (env : Env) (ifs : List Expr) : Sem Bool := forIn ifs true fun c r => if r = true then do let ok ← isTrue c env (eval c env); pure (ForInStep.yield ok) else pure (ForInStep.yield r)
theorem W_tst0 {Q : BoolQ} (q : Q true vs σ) : W prog w K g os A env own ns (tst env []) vs σ Q := W_in fun s H F => wpAny_tests_nil ⟨_, _, H, F, q⟩
theorem W_tst1 {c : Expr} {Q : BoolQ} (h : W prog w K g os A env own ns (isTrue c env (eval c env)) vs σ Q) : W prog w K g os A env own ns (tst env [c]) vs σ Q := W_in fun s H F => wpAny_tests_one (h.out s H F)

/-- what one comprehension's turns do -/
def Turns (prog : Program) (w : World) (K : Frag) (os : OsState) (A : Around) (n : Nat) (P : Nat → Value → Prop) (cns : List (Str × NameKind)) (tv : List (Option Value)) (ifs : List Expr) (elt : Expr) (I : Nat → List Value → Led → Prop) : Prop :=
  ∀ i v out σ g cenv, i < n → P i v → I i out σ → out.length ≤ i → W prog w K g os A cenv false cns (tst cenv ifs) (none :: some v :: tv) σ fun ok vs' σ => vs' = none :: some v :: tv ∧
    (ok = true → W prog w K g os A cenv false cns (eval elt cenv) vs' σ fun y vs' σ => vs' = none :: some v :: tv ∧ I (i + 1) (out ++ [y]) σ) ∧ (ok = false → I (i + 1) out σ)

theorem tl_loc {d0 x y : Str} {v : Value} {u : Option Value} {tl' : List (Str × NameKind)} {tv : List (Option Value)} (ht : tl' = [] ∨ (∃ s, tl' = [(s, .globalImplicit)] ∧ tv = [none]) ∨ ∃ y u, CapF tl' tv y u)
    (hy : Ld ((d0, .local) :: (x, .local) :: tl') (none :: some v :: tv) y .local u) : (y = d0 ∧ u = none) ∨ (y = x ∧ u = some v) := by
  cases hy with
  | here => exact .inl ⟨rfl, rfl⟩
  | next hy => cases hy with
    | here => exact .inr ⟨rfl, rfl⟩
    | next hy =>
      have hm := hy.nm.mem
      rcases ht with h | ⟨s, h, _⟩ | ⟨y', u', ⟨h, _⟩ | ⟨s, h, _⟩⟩ <;> rw [h] at hm <;> simp at hm
theorem tl_cell {d0 x y : Str} {v : Value} {k : NameKind} {u : Option Value} {tl' : List (Str × NameKind)} {tv : List (Option Value)} (hk : k = .cell ∨ k = .free)
    (hy : Ld ((d0, .local) :: (x, .local) :: tl') (none :: some v :: tv) y k u) : Ld tl' tv y k u := by
  cases hy with
  | here => rcases hk with hk | hk <;> cases hk
  | next hy => cases hy with
    | here => rcases hk with hk | hk <;> cases hk
    | next hy => exact hy
theorem cf_ld {y y' : Str} {k : NameKind} {u : Option Value} {u' : Value} {tl' : List (Str × NameKind)} {tv : List (Option Value)} (hk : k = .cell ∨ k = .free) (hc : CapF tl' tv y' u') (hy : Ld tl' tv y k u) : y = y' ∧ u = some u' := by
  rcases hc with ⟨rfl, rfl⟩ | ⟨s, rfl, rfl⟩
  · cases hy with
    | here => exact ⟨rfl, rfl⟩
    | next hy => cases hy
  · cases hy with
    | here => rcases hk with hk | hk <;> cases hk
    | next hy => cases hy with
      | here => exact ⟨rfl, rfl⟩
      | next hy => cases hy
theorem nocell {y : Str} {k : NameKind} {u : Option Value} {tl' : List (Str × NameKind)} {tv : List (Option Value)} (hk : k = .cell ∨ k = .free) (ht : tl' = [] ∨ ∃ s, tl' = [(s, NameKind.globalImplicit)] ∧ tv = [none]) (hy : Ld tl' tv y k u) : False := by
  have hm := hy.nm.mem
  rcases ht with h | ⟨s, h, _⟩ <;> rw [h] at hm <;> rcases hk with rfl | rfl <;> simp at hm
theorem comp_loop {elt iter : Expr} {d0 x : Str} {px : Pos} {ifs : List Expr} {scope : Scope} {pos : Pos} {tl' : List (Str × NameKind)} {tv : List (Option Value)} {n : Nat} {P : Nat → Value → Prop} {S : Led → Prop} {ob : Nat → Obj → Prop}
    {I : Nat → List Value → Led → Prop} {s₀ s : Shared} {σ₀ : Led} {it D : Addr} {cenv : Env} {o : Obj} {R : Result → Shared → Prop}
    (Rt : Itr prog w A it n P (fun h => ∃ σ', S σ' ∧ ∀ a o, σ' a = some o → h.get? a = some o) ob) (hIS : ∀ i out σ, I i out σ → S σ) (T : Turns prog w K os A n P ((d0, .local) :: (x, .local) :: tl') tv ifs elt I)
    (hnz : n ≤ sizeLine) (H₀ : Hp K g σ₀ os s₀) (hcn : cenv.scope.names = (d0, .local) :: (x, .local) :: tl') (hck : cenv.scope.kind = .function) (hok : namesOk ((d0, .local) :: (x, .local) :: tl') = true) (hcg : cenv.globals = mainGlobals) (hcb : cenv.builtins = builtinsNs)
    (hcells : ((tl' = [] ∨ ∃ s, tl' = [(s, .globalImplicit)] ∧ tv = [none]) ∧ cenv.cells = []) ∨ ∃ y u c oc, CapF tl' tv y u ∧ cenv.cells = [(y, c)] ∧ σ₀ c = none ∧ s₀.heap.get? c = some oc ∧ oc.data = .cell (some u))
    (hit : s₀.heap.get? it = none) (hD : s₀.heap.get? D = none) (hC : s₀.heap.get? cenv.locals = none) (hDC : D ≠ cenv.locals) (hDi : D ≠ it) (hCi : cenv.locals ≠ it)
    (C : Chg σ₀ s₀.heap σ₀ s.heap) (hσi : σ₀ it = none) (hσD : σ₀ D = none) (hσC : σ₀ cenv.locals = none) (ho : s.heap.get? it = some o) (hob : ob 0 o) (hacc : s.heap.get? D = some (lst [] 0)) (hns : s.heap.Ns cenv.locals fun _ => none) (hI : I 0 [] σ₀) (hgs : s.gens = #[]) (hoss : s.os = os)
    (hR : ∀ s' out σ k m, Chg σ₀ s₀.heap σ s'.heap → σ D = none → s'.heap.get? D = some (lst out k) → s'.heap.Ns cenv.locals m → σ cenv.locals = none → I n out σ → s'.gens = #[] → s'.os = os → R (.ok .next) s')
    (htup : ∀ v, letOwnedTupleGo (.Name x px) (.ref it) v = pure () := by intro _; with_unfolding_all rfl) :
    codeAny (model prog w) A (.compLoop (.ListComp elt [⟨.Name x px, iter, ifs, 0⟩] scope pos) 0 (.ref it) (.ref D) cenv) R s := by
  refine codeAny_compLoop_tests (fun m s' => ∃ i out σ k mm o, i ≤ n ∧ m = n + 1 - i ∧ out.length ≤ i ∧ Chg σ₀ s₀.heap σ s'.heap ∧ σ it = none ∧ σ D = none ∧ σ cenv.locals = none ∧ s'.heap.get? it = some o ∧ ob i o ∧
    s'.heap.get? D = some (lst out k) ∧ s'.heap.Ns cenv.locals mm ∧ mm d0 = none ∧ I i out σ ∧ s'.gens = #[] ∧ s'.os = os) ?_ (n + 1)
    ⟨0, [], σ₀, 0, _, o, Nat.zero_le _, rfl, Nat.zero_le _, C, hσi, hσD, hσC, ho, hob, hacc, hns, rfl, hI, hgs, hoss⟩ htup
  rintro m s' ⟨i, out, σ, k, mm, o, hi, rfl, hlen, C, hσi, hσD, hσC, ho, hob, hacc, hns, hmm, hI, hgs, hoss⟩
  have hS : ∃ σ', S σ' ∧ ∀ a o, σ' a = some o → s'.heap.get? a = some o := ⟨σ, hIS _ _ _ hI, C.led⟩
  by_cases hlt : i < n
  · refine wpAny_mono (Rt.item i o s' _ hlt ho hob hS fun v h₁ t o' hP ho' hob' hsb => ?_) (fun _ _ z => z) fun _ _ e => e.elim
    have hx : cenv.kindOf x = some .local := by
      unfold Env.kindOf; rw [hcn]
      exact (Nm.next Nm.here : Nm ((d0, .local) :: (x, .local) :: tl') x .local).kind hok
    refine wpAny_assign_Name (wpAny_storeName_local hx (hns.sameBut hsb hCi) (fun h₂ hn₂ hs₂ => ?_) (by rw [hck]; rfl))
    -- the state of the turn
    have C₁ : Chg σ₀ s₀.heap σ h₁ := ⟨fun b ob' n e => hsb.extBut _ _ (by rintro rfl; rw [hit] at e; cases e) (C.keep _ _ n e), fun b ob' e => hsb.extBut _ _ (by rintro rfl; rw [hσi] at e; cases e) (C.led _ _ e), C.new⟩
    have C₂ : Chg σ₀ s₀.heap σ h₂ := ⟨fun b ob' n e => hs₂.extBut _ _ (by rintro rfl; rw [hC] at e; cases e) (C₁.keep _ _ n e), fun b ob' e => hs₂.extBut _ _ (by rintro rfl; rw [hσC] at e; cases e) (C₁.led _ _ e), C.new⟩
    have hD₂ : h₂.get? D = some (lst out k) := hs₂.extBut _ _ hDC (hsb.extBut _ _ hDi hacc)
    have hi₂ : h₂.get? it = some o' := hs₂.extBut _ _ (Ne.symm hCi) ho'
    -- the base of the turn
    generalize hg₂ : (fun b => if b = cenv.locals then none else baseOf σ h₂ b) = g₂
    have g₂C : g₂ cenv.locals = none := by rw [← hg₂]; exact if_pos rfl
    have g₂o : ∀ b ob', b ≠ cenv.locals → σ b = none → h₂.get? b = some ob' → g₂ b = some ob' := fun b ob' n1 n2 e => by rw [← hg₂]; show (if b = cenv.locals then none else baseOf σ h₂ b) = _; rw [if_neg n1, baseOf_none n2]; exact e
    have g₂i : ∀ b ob', g₂ b = some ob' → b ≠ cenv.locals ∧ σ b = none ∧ h₂.get? b = some ob' := fun b ob' e => by
      rw [← hg₂] at e
      have e' : (if b = cenv.locals then none else baseOf σ h₂ b) = some ob' := e
      split at e'
      · cases e'
      · rename_i n1
        cases q : σ b with
        | none => rw [baseOf_none q] at e'; exact ⟨n1, rfl, e'⟩
        | some o₂ => rw [baseOf_some q] at e'; cases e'
    have hle : Le g g₂ := fun b ob' e => by
      have hb := H₀.keep _ _ e
      have n0 : σ₀ b = none := by
        cases q : σ₀ b with
        | none => rfl
        | some o₂ => rw [H₀.dis _ _ q] at e; cases e
      have n1 : σ b = none := by
        cases q : σ b with
        | none => rfl
        | some o₂ => have := C.new _ _ q n0; rw [hb] at this; cases this
      exact g₂o b ob' (by rintro rfl; rw [hC] at hb; cases hb) n1 (C₂.keep _ _ n0 hb)
    have H₂ : Hp K g₂ σ os { s' with heap := h₂, toks := t + 1 } := ⟨H₀.gd.mono hle, fun a ob' e => (g₂i a ob' e).2.2, C₂.led, (fun a ob' e => by
      cases q : g₂ a with
      | none => rfl
      | some o₂ => have := (g₂i a o₂ q).2.1; rw [e] at this; cases this), hgs, hoss⟩
    have hmx : ∀ y u, Ld ((d0, .local) :: (x, .local) :: tl') (none :: some v :: tv) y .local u → (if y = x then some v else mm y) = u := by
      intro y u hy
      have nd := namesOk_nodup hok
      have hsh : tl' = [] ∨ (∃ s, tl' = [(s, .globalImplicit)] ∧ tv = [none]) ∨ ∃ y u, CapF tl' tv y u := by
        rcases hcells with ⟨h | h, _⟩ | ⟨y', u', _, _, h, _⟩
        · exact .inl h
        · exact .inr (.inl h)
        · exact .inr (.inr ⟨y', u', h⟩)
      rcases tl_loc hsh hy with ⟨e1, e2⟩ | ⟨e1, e2⟩
      · have : d0 ≠ x := by
          simp only [List.map_cons, List.nodup_cons, List.mem_cons, not_or] at nd
          exact nd.1.1
        rw [e1, e2, if_neg this]; exact hmm
      · rw [e1, e2, if_pos rfl]
    have F₂ : FrOk cenv false ((d0, .local) :: (x, .local) :: tl') (none :: some v :: tv) g₂ σ h₂ := by
      refine ⟨hcn, hck, hok, hcg, hcb, ⟨hσC, g₂C⟩, ⟨_, hn₂, hmx⟩, fun y kd u hy hk => ?_, fun a b c ha hb => ?_⟩
      · have hy' := tl_cell hk hy
        rcases hcells with ⟨q, _⟩ | ⟨y', u', c, oc, hcf, qc, qσ, qg, qd⟩
        · exact (nocell hk q hy').elim
        · obtain ⟨e1, e2⟩ := cf_ld hk hcf hy'
          have n1 : σ c = none := by
            cases q : σ c with
            | none => rfl
            | some o₂ => have := C.new _ _ q qσ; rw [qg] at this; cases this
          have hc₂ := C₂.keep _ _ qσ qg
          refine ⟨c, by rw [qc, e1]; simp, ⟨oc, hc₂, by rw [e2]; exact qd⟩, ?_⟩
          simp only [Bool.false_eq_true, if_false]
          exact ⟨oc, g₂o c oc (by rintro rfl; rw [hC] at qg; cases qg) n1 hc₂, by rw [e2]; exact qd⟩
      · rcases hcells with ⟨_, qc⟩ | ⟨y', u', c', oc, _, qc, _⟩
        · rw [qc] at ha; cases ha
        · rw [qc, List.lookup_cons] at ha hb
          cases qa : a == y' with
          | false => rw [qa] at ha; cases ha
          | true => cases qb : b == y' with
            | false => rw [qb] at hb; cases hb
            | true => rw [beq_iff_eq.mp qa, beq_iff_eq.mp qb]
    -- what is behind a tree that keeps this base
    have back : ∀ {σ' s'' vs''}, Hp K g₂ σ' os s'' → FrOk cenv false ((d0, .local) :: (x, .local) :: tl') vs'' g₂ σ' s''.heap →
        Chg σ₀ s₀.heap σ' s''.heap ∧ σ' it = none ∧ σ' D = none ∧ σ' cenv.locals = none ∧ s''.heap.get? it = some o' ∧ s''.heap.get? D = some (lst out k) := fun {σ' s'' vs''} H F => by
      have gi := g₂o it o' (Ne.symm hCi) hσi hi₂
      have gD := g₂o D _ hDC hσD hD₂
      have nn : ∀ b ob', g₂ b = some ob' → σ' b = none := fun b ob' e => by
        cases q : σ' b with
        | none => rfl
        | some o₂ => rw [H.dis _ _ q] at e; cases e
      refine ⟨⟨fun b ob' n e => ?_, H.led, fun b ob' e n => ?_⟩, nn _ _ gi, nn _ _ gD, F.locf.1, H.keep _ _ gi, H.keep _ _ gD⟩
      · have n1 : σ b = none := by
          cases q : σ b with
          | none => rfl
          | some o₂ => have := C.new _ _ q n; rw [e] at this; cases this
        exact H.keep _ _ (g₂o b ob' (by rintro rfl; rw [hC] at e; cases e) n1 (C₂.keep _ _ n e))
      · cases q : σ b with
        | some o₂ => exact C.new _ _ q n
        | none =>
          by_cases hb : b = cenv.locals
          · rw [hb]; exact hC
          · have hd := H.dis _ _ e
            cases r : s₀.heap.get? b with
            | none => rfl
            | some o₂ => rw [g₂o b o₂ hb q (C₂.keep _ _ n r)] at hd; cases hd
    have nsOf : ∀ {σ'} {h'' : Heap}, FrOk cenv false ((d0, .local) :: (x, .local) :: tl') (none :: some v :: tv) g₂ σ' h'' → ∃ mm, h''.Ns cenv.locals mm ∧ mm d0 = none := fun F => by
      obtain ⟨mm, h, h2⟩ := F.loc; exact ⟨mm, h, h2 _ _ .here⟩
    have W₁ := T i v out σ g₂ cenv hlt hP hI hlen
    refine W₁.go H₂ F₂ fun ok s₃ vs₃ σ₃ H₃ F₃ z => ?_
    obtain ⟨ev, qt, qf⟩ := z
    subst ev
    cases ok with
    | false =>
      simp only [Bool.false_eq_true, if_false]
      obtain ⟨b1, b2, b3, b4, b5, b6⟩ := back H₃ F₃
      obtain ⟨mm₃, n1, n2⟩ := nsOf F₃
      exact ⟨n + 1 - (i + 1), by omega, i + 1, out, σ₃, k, mm₃, o', hlt, rfl, Nat.le_succ_of_le hlen, b1, b2, b3, b4, b5, hob', b6, n1, n2, qf rfl, H₃.gens, H₃.os⟩
    | true =>
      simp only [if_true]
      refine (qt rfl).go H₃ F₃ fun y s₄ vs₄ σ₄ H₄ F₄ z => ?_
      obtain ⟨ev, q⟩ := z
      subst ev
      obtain ⟨b1, b2, b3, b4, b5, b6⟩ := back H₄ F₄
      obtain ⟨mm₄, n1, n2⟩ := nsOf F₄
      refine wpAny_mono (append_at (E := fun _ _ => False) (Q := fun _ s₅ => ∃ h', s₅ = { s₄ with heap := h' } ∧ Heap.SameBut D s₄.heap h' ∧ h'.get? D = some (lst (out ++ [y]) (k + 1))) b6 (fun h' hs hg => ⟨h', rfl, hs, by rw [hg]; simp⟩) (by rw [List.size_toArray]; omega)) (fun _ s₅ z => ?_) fun _ _ e => e.elim
      obtain ⟨h', rfl, hs, hg⟩ := z
      refine ⟨n + 1 - (i + 1), by omega, i + 1, out ++ [y], σ₄, k + 1, mm₄, o', hlt, rfl, by simp; omega, ⟨fun b ob' n e => hs.extBut _ _ (by rintro rfl; rw [hD] at e; cases e) (b1.keep _ _ n e), fun b ob' e => hs.extBut _ _ (by rintro rfl; rw [b3] at e; cases e) (b1.led _ _ e), b1.new⟩, b2, b3, b4, hs.extBut _ _ (Ne.symm hDi) b5, hob', hg, n1.sameBut hs (Ne.symm hDC), n2, q, H₄.gens, H₄.os⟩
  · have hin : i = n := by omega
    subst hin
    refine wpAny_mono (Rt.fin o s' _ ho hob hS fun h' hext => ?_) (fun _ _ z => z) fun _ _ e => e.elim
    exact hR _ out σ k mm ⟨fun b ob' n e => hext _ _ (by rintro rfl; rw [hit] at e; cases e) (C.keep _ _ n e), fun b ob' e => hext _ _ (by rintro rfl; rw [hσi] at e; cases e) (C.led _ _ e), C.new⟩ hσD (hext _ _ hDi hacc)
      (hns.extBut hext hCi) hσC hI hgs hoss

theorem comp_core {elt iter : Expr} {d0 x : Str} {px : Pos} {ifs : List Expr} {scope : Scope} {pos : Pos} {tl tl' : List (Str × NameKind)} {tv : List (Option Value)}
    {use : Option (Value → Sem Unit)} {Q : Value → Shared → Prop}
    (hcap : Cap ns vs tl tl' tv) (hsc : scope.names = (d0, .local) :: (x, .local) :: tl) (hkind : scope.kind = .function) (hok : namesOk ((d0, .local) :: (x, .local) :: tl') = true) (hok0 : namesOk scope.names = true)
    {s : Shared} (H : Hp K g σ os s) (F : FrOk env own ns vs g σ s.heap)
    (h : wpAny (model prog w) A (eval iter env) (fun v s₁ => ∃ σ₁ n P S I, Hp K g σ₁ os s₁ ∧ FrOk env own ns vs g σ₁ s₁.heap ∧ Itb prog w A v σ₁ n P S ∧ I 0 [] σ₁ ∧ n ≤ sizeLine ∧ (∀ i out σ, I i out σ → S σ) ∧ Turns prog w K os A n P ((d0, .local) :: (x, .local) :: tl') tv ifs elt I ∧
      (∀ s' out σ₂ D C k m, Chg σ₁ s₁.heap σ₂ s'.heap → s₁.heap.get? D = none → s₁.heap.get? C = none → D ≠ C → σ₂ D = none → s'.heap.get? D = some (lst out k) → s'.heap.Ns C m → σ₂ C = none → I n out σ₂ → s'.gens = #[] → s'.os = os →
        compPost (model prog w) A (fun _ _ => False) use Q (.ref D) C (.ok .next) s')) (fun _ _ => False) s)
    (hs : ∀ x, foldedSetIterable iter env x = pure x) :
    wpAny (model prog w) A (comprehension (.ListComp elt [⟨.Name x px, iter, ifs, 0⟩] scope pos) scope env (firstIterPos [⟨.Name x px, iter, ifs, 0⟩] pos) (newList []) false (eval iter env) use) Q (fun _ _ => False) s := by
  obtain ⟨cl, hcl, hcells⟩ := cap_closure hcap hsc F
  have hrn := cap_names hcap hsc F
  refine wpAny_comprehension_free (cl := cl) rfl hs hcl hkind (fun z hz hl => ?_) (wpAny_mono h (fun v s₁ z => ?_) fun _ _ e => e)
  · have : (z.1, z.2) ∈ scope.names := hz
    rw [lookup_mem (namesOk_nodup hok0) this, hl]
  obtain ⟨σ₁, n, P, S, I, H₁, F₁, B, hI, hnz, hIS, T, hQ⟩ := z
  refine B.go s₁ _ H₁.led fun o ob hf hob Rt => ?_
  have fresh : ∀ b, s₁.heap.objs.size ≤ b → s₁.heap.get? b = none := fun b hb => by
    cases q : s₁.heap.get? b with
    | none => rfl
    | some o' => exact absurd (Heap.lt_size q) (Nat.not_lt.mpr hb)
  have hσf : ∀ b, s₁.heap.get? b = none → σ₁ b = none := fun b hb => by
    cases q : σ₁ b with
    | none => rfl
    | some o' => rw [H₁.led _ _ q] at hb; cases hb
  refine wpAny_newObj_type (wpAny_newFunctionEnv (fun z hz => ?_) (by intro y hy; simp at hy) (fun h₄ hns₄ hsb₄ => ?_) hkind)
  · rw [hsc] at hz
    cases hcap with
    | nil => rcases List.mem_cons.mp hz with rfl | hz; · simp
             rcases List.mem_cons.mp hz with rfl | hz; · simp
             cases hz
    | glob => rcases List.mem_cons.mp hz with rfl | hz; · simp
              rcases List.mem_cons.mp hz with rfl | hz; · simp
              rcases List.mem_cons.mp hz with rfl | hz; · simp
              cases hz
    | free hy => rcases List.mem_cons.mp hz with rfl | hz; · simp
                 rcases List.mem_cons.mp hz with rfl | hz; · simp
                 rcases List.mem_cons.mp hz with rfl | hz; · simp
                 cases hz
    | both hy => rcases List.mem_cons.mp hz with rfl | hz; · simp
                 rcases List.mem_cons.mp hz with rfl | hz; · simp
                 rcases List.mem_cons.mp hz with rfl | hz; · simp
                 rcases List.mem_cons.mp hz with rfl | hz; · simp
                 cases hz
  dsimp only at hns₄ hsb₄ ⊢
  simp only [Heap.size_push] at hns₄ hsb₄ ⊢
  have e1 : s₁.heap.get? s₁.heap.objs.size = none := fresh _ (Nat.le_refl _)
  have e2 : s₁.heap.get? (s₁.heap.objs.size + 1) = none := fresh _ (by omega)
  have e3 : s₁.heap.get? (s₁.heap.objs.size + 1 + 1) = none := fresh _ (by omega)
  have kp : ∀ b ob', b ≠ s₁.heap.objs.size + 1 + 1 → ((s₁.heap.push o).push { cls := .type "list", data := .seq ([] : List Value).toArray }).get? b = some ob' → h₄.get? b = some ob' := fun b ob' n e => hsb₄.extBut _ _ n (Heap.get?_push_of_some _ e)
  have hit₄ : h₄.get? s₁.heap.objs.size = some o := kp s₁.heap.objs.size _ (Nat.ne_of_lt (by omega)) (Heap.get?_push_of_some _ (Heap.get?_push_size _ hf))
  have hD₄ : h₄.get? (s₁.heap.objs.size + 1) = some (lst [] 0) := kp (s₁.heap.objs.size + 1) _ (Nat.ne_of_lt (by omega)) (by
    have := Heap.get?_push_size (s₁.heap.push o) (o := { cls := .type "list", data := .seq ([] : List Value).toArray }) rfl
    rwa [Heap.size_push] at this)
  have C₄ : Chg σ₁ s₁.heap σ₁ h₄ := ⟨fun b ob' n e => kp _ _ (by rintro rfl; rw [e3] at e; cases e) (Heap.get?_push_of_some _ (Heap.get?_push_of_some _ e)), fun b ob' e => kp _ _ (by rintro rfl; rw [hσf _ e3] at e; cases e) (Heap.get?_push_of_some _ (Heap.get?_push_of_some _ (H₁.led _ _ e))), fun b ob' e n => by rw [n] at e; cases e⟩
  have loop : ∀ s₅ : Shared, s₅.heap = h₄ → s₅.gens = #[] → s₅.os = os → codeAny (model prog w) A (.compLoop (.ListComp elt [⟨.Name x px, iter, ifs, 0⟩] scope pos) 0 (.ref s₁.heap.objs.size) (.ref (s₁.heap.objs.size + 1)) (compEnvC scope cl (s₁.heap.objs.size + 1 + 1) env))
      (compPost (model prog w) A (fun _ _ => False) use Q (.ref (s₁.heap.objs.size + 1)) (s₁.heap.objs.size + 1 + 1)) s₅ := fun s₅ eh eg eo => by
    subst eh
    refine comp_loop (s₀ := s₁) (σ₀ := σ₁) (tv := tv) (I := I) Rt hIS T hnz H₁ hrn (by simp [compEnvC, relabel, hkind]) hok F₁.glob F₁.blt ?_ e1 e2 e3 (Nat.ne_of_lt (Nat.lt_succ_self _)) (Nat.ne_of_gt (Nat.lt_succ_self _)) (Nat.ne_of_gt (show s₁.heap.objs.size < s₁.heap.objs.size + 1 + 1 from Nat.lt_succ_of_lt (Nat.lt_succ_self _))) C₄ (hσf _ e1) (hσf _ e2) (hσf _ e3) hit₄ hob hD₄ hns₄ hI eg eo
      (fun s' out σ k m C' q1 q2 q3 q4 q5 q6 q7 => hQ s' out σ _ _ k m C' e2 e3 (Nat.ne_of_lt (Nat.lt_succ_self _)) q1 q2 q3 q4 q5 q6 q7)
    rcases hcells with ⟨q, q2⟩ | ⟨y, u, c, q, qc, hy, hl⟩
    · exact .inl ⟨q, q2⟩
    · obtain ⟨c', l1, ⟨oc, l2, l2'⟩, l3⟩ := F₁.cell _ _ _ hy (.inl rfl)
      rw [hl] at l1; cases l1
      refine .inr ⟨y, u, c, oc, q, qc, ?_, l2, l2'⟩
      cases own with
      | true => simp only [if_true] at l3; exact l3.1
      | false =>
        simp only [Bool.false_eq_true, if_false] at l3
        obtain ⟨o₂, hg, _⟩ := l3
        cases r : σ₁ c with
        | none => rfl
        | some o₃ => rw [H₁.dis _ _ r] at hg; cases hg
  refine codeAny_compStart_list (loop _ rfl H₁.gens H₁.os) (wpAny_mono (Rt.self 0 o _ (fun v s' => v = .ref s₁.heap.objs.size ∧ s' = _) hit₄ hob ⟨rfl, rfl⟩) (fun v s' z => ?_) fun _ _ e => e.elim)
  obtain ⟨rfl, rfl⟩ := z
  exact loop _ rfl H₁.gens H₁.os


theorem Hp.chgOf {σ' : Led} {s s' : Shared} (H : Hp K g σ os s) (C : Chg σ s.heap σ' s'.heap) (hg : s'.gens = #[]) (ho : s'.os = os) : Hp K g σ' os s' := by
  have := H.chg C 0
  exact ⟨this.gd, this.keep, this.led, this.dis, hg, ho⟩
theorem Chg.fresh {σ σ₂ : Led} {h h' : Heap} {D : Addr} {o : Obj} (C : Chg σ h σ₂ h') (hD : h.get? D = none) (ho : h'.get? D = some o) : Chg σ h (upd σ₂ D o) h' := by
  refine ⟨C.keep, fun b o' e => ?_, fun b o' e n => ?_⟩
  · unfold upd at e; split at e
    · rename_i q; cases e; rw [q]; exact ho
    · exact C.led _ _ e
  · unfold upd at e; split at e
    · rename_i q; rw [q]; exact hD
    · exact C.new _ _ e n
theorem Chg.but {σ σ₂ : Led} {h h' h'' : Heap} {D : Addr} (C : Chg σ h σ₂ h') (hD : h.get? D = none) (hσ : σ₂ D = none) (hs : Heap.SameBut D h' h'') : Chg σ h σ₂ h'' :=
  ⟨fun b o n e => hs.extBut _ _ (by rintro rfl; rw [hD] at e; cases e) (C.keep _ _ n e), fun b o e => hs.extBut _ _ (by rintro rfl; rw [hσ] at e; cases e) (C.led _ _ e), C.new⟩

/-- the invariant of a comprehension, with what it needs of its source -/
def CompI (prog : Program) (w : World) (K : Frag) (os : OsState) (A : Around) (d0 x : Str) (tl' : List (Str × NameKind)) (tv : List (Option Value)) (ifs : List Expr) (elt : Expr) (v : Value) (σ₁ : Led) (R : Value → Led → Prop) : Prop :=
  ∃ n P S I, Itb prog w A v σ₁ n P S ∧ I 0 [] σ₁ ∧ n ≤ sizeLine ∧ (∀ i out σ, I i out σ → S σ) ∧ Turns prog w K os A n P ((d0, .local) :: (x, .local) :: tl') tv ifs elt I ∧
    (∀ D out σ₂ k, σ₁ D = none → σ₂ D = none → I n out σ₂ → R (.ref D) (upd σ₂ D (lst out k)))

theorem W_comp {elt iter : Expr} {d0 x : Str} {px : Pos} {ifs : List Expr} {scope : Scope} {pos : Pos} {tl tl' : List (Str × NameKind)} {tv : List (Option Value)} {Q : Value → List (Option Value) → Led → Prop}
    (hcap : Cap ns vs tl tl' tv) (hsc : scope.names = (d0, .local) :: (x, .local) :: tl) (hkind : scope.kind = .function) (hok : namesOk ((d0, .local) :: (x, .local) :: tl') = true) (hok0 : namesOk scope.names = true)
    (h : W prog w K g os A env own ns (eval iter env) vs σ fun v vs₁ σ₁ => vs₁ = vs ∧ CompI prog w K os A d0 x tl' tv ifs elt v σ₁ fun v σ => Q v vs σ)
    (hs : ∀ x, foldedSetIterable iter env x = pure x := by intro _; with_unfolding_all rfl) :
    W prog w K g os A env own ns (eval (.ListComp elt [⟨.Name x px, iter, ifs, 0⟩] scope pos) env) vs σ Q := W_in fun s H F => by
  rw [eval_ListComp]
  refine comp_core (use := none) hcap hsc hkind hok hok0 H F (wpAny_mono (h.out s H F) (fun v s₁ z => ?_) fun _ _ e => e) hs
  obtain ⟨vs₁, σ₁, H₁, F₁, rfl, n, P, S, I, B, hI, hn, hIS, T, hQ⟩ := z
  refine ⟨σ₁, n, P, S, I, H₁, F₁, B, hI, hn, hIS, T, fun s' out σ₂ D C k m c hD hC hDC hσD hl hns hσC hIn hg ho => ⟨m, hns, fun h' hb => ?_⟩⟩
  have hD' := hb.extBut _ _ hDC hl
  have c' := (c.but hC hσC hb).fresh hD hD'
  have n1 : σ₁ D = none := by
    cases q : σ₁ D with
    | none => rfl
    | some o => rw [H₁.led _ _ q] at hD; cases hD
  exact ⟨vs₁, _, H₁.chgOf (s' := { s' with heap := h' }) c' hg ho, F₁.chg H₁ c', hQ D out σ₂ k n1 hσD hIn⟩

theorem FrOk.grow2 {h : Heap} {it : Addr} {o : Obj} (F : FrOk env own ns vs g σ h) (ho : h.get? it = some o) (hL : it ≠ env.locals) (hd : ∀ v, o.data ≠ .cell v) : FrOk env own ns vs (upd g it o) σ h := by
  refine ⟨F.names, F.kind, F.ok, F.glob, F.blt, ⟨F.locf.1, ?_⟩, F.loc, fun x k v h1 h2 => ?_, F.apart⟩
  · rw [upd_ne (Ne.symm hL)]; exact F.locf.2
  · obtain ⟨c, e1, ⟨oc, hoc, hdc⟩, e3⟩ := F.cell x k v h1 h2
    have ne : c ≠ it := by intro e; rw [e, ho] at hoc; cases hoc; exact hd _ hdc
    cases own with
    | true => exact ⟨c, e1, ⟨oc, hoc, hdc⟩, by simp only [if_true] at e3 ⊢; exact ⟨e3.1, by rw [upd_ne ne]; exact e3.2.1, e3.2.2⟩⟩
    | false => exact ⟨c, e1, ⟨oc, hoc, hdc⟩, by simp only [Bool.false_eq_true, if_false] at e3 ⊢; rw [upd_ne ne]; exact e3⟩
theorem FrOk.shrink2 {h : Heap} {it : Addr} {o : Obj} (F : FrOk env own ns vs (upd g it o) σ h) (hd : ∀ v, o.data ≠ .cell v) (hg : g it = none) : FrOk env own ns vs g σ h := by
  refine ⟨F.names, F.kind, F.ok, F.glob, F.blt, ⟨F.locf.1, (upd_none F.locf.2).1⟩, F.loc, fun x k v h1 h2 => ?_, F.apart⟩
  obtain ⟨c, e1, e2, e3⟩ := F.cell x k v h1 h2
  cases own with
  | true => exact ⟨c, e1, e2, by simp only [if_true] at e3 ⊢; exact ⟨e3.1, (upd_none e3.2.1).1, e3.2.2⟩⟩
  | false =>
    refine ⟨c, e1, e2, ?_⟩
    simp only [Bool.false_eq_true, if_false] at e3 ⊢
    obtain ⟨oc, hc, hdc⟩ := e3
    unfold upd at hc; split at hc
    · cases hc; exact absurd hdc (hd _)
    · exact ⟨oc, hc, hdc⟩

theorem FrOk.ext2 {h h' : Heap} {it : Addr} {o : Obj} (F : FrOk env own ns vs g σ h) (he : Heap.ExtBut it h h') (ho : h.get? it = some o) (hL : it ≠ env.locals) (hd : ∀ v, o.data ≠ .cell v) : FrOk env own ns vs g σ h' := by
  refine ⟨F.names, F.kind, F.ok, F.glob, F.blt, F.locf, ?_, fun x k v h1 h2 => ?_, F.apart⟩
  · obtain ⟨m, ⟨o', es, ep, ho', hd', r⟩, hm⟩ := F.loc
    exact ⟨m, ⟨o', es, ep, he _ _ (Ne.symm hL) ho', hd', r⟩, hm⟩
  · obtain ⟨c, e1, ⟨oc, hoc, hdc⟩, e3⟩ := F.cell x k v h1 h2
    exact ⟨c, e1, ⟨oc, he _ _ (by intro e; rw [e, ho] at hoc; cases hoc; exact hd _ hdc) hoc, hdc⟩, e3⟩

theorem W_sAssignComp {rest : List Stmt} {Q : FlowQ} {elt iter : Expr} {d0 x y : Str} {px py : Pos} {ifs : List Expr} {scope : Scope} {pos spos : Pos} {tl tl' : List (Str × NameKind)} {tv : List (Option Value)}
    (hcap : Cap ns vs tl tl' tv) (hsc : scope.names = (d0, .local) :: (x, .local) :: tl) (hkind : scope.kind = .function) (hok : namesOk ((d0, .local) :: (x, .local) :: tl') = true) (hok0 : namesOk scope.names = true)
    (h : W prog w K g os A env own ns (eval iter env) vs σ fun v vs₁ σ₁ => vs₁ = vs ∧ CompI prog w K os A d0 x tl' tv ifs elt v σ₁ fun v σ => ∃ k vs', Sto ns vs y k v vs' ∧ (k = .local ∨ (k = .cell ∧ own = true)) ∧ W prog w K g os A env own ns (execs rest env) vs' σ Q)
    (hs : ∀ x, foldedSetIterable iter env x = pure x := by intro _; with_unfolding_all rfl)
    (hsw : swapsWith (.ListComp elt [⟨.Name x px, iter, ifs, 0⟩] scope pos) (some (.Name y py)) spos.line env = pure true := by with_unfolding_all rfl) :
    W prog w K g os A env own ns (execs (.Assign [.Name y py] (.ListComp elt [⟨.Name x px, iter, ifs, 0⟩] scope pos) spos :: rest) env) vs σ Q := W_cons <| W_in fun s H F => by
  rw [exec_Assign_Name_used _ _ _ _ hsw]
  refine wpAny_bind (wpAny_standAt (wpAny_bind ?_))
  show wpAny _ A (do let _ ← comprehension (.ListComp elt [⟨.Name x px, iter, ifs, 0⟩] scope pos) scope env _ (newList []) false (eval iter env) (some (assign (.Name y py) env))) _ _ s
  refine wpAny_bind (wpAny_mono (comp_core (use := some (assign (.Name y py) env)) (Q := fun _ s' => ∃ vs' σ', Hp K g σ' os s' ∧ FrOk env own ns vs' g σ' s'.heap ∧ W prog w K g os A env own ns (execs rest env) vs' σ' Q)
    hcap hsc hkind hok hok0 H F (wpAny_mono (h.out s H F) (fun v s₁ z => ?_) fun _ _ e => e) hs) (fun _ s' z => wpAny_pure (wpAny_pure z)) fun _ _ e => e)
  obtain ⟨vs₁, σ₁, H₁, F₁, rfl, n, P, S, I, B, hI, hn, hIS, T, hQ⟩ := z
  refine ⟨σ₁, n, P, S, I, H₁, F₁, B, hI, hn, hIS, T, fun s' out σ₂ D C k m c hD hC hDC hσD hl hns hσC hIn hg ho => ?_⟩
  have n1 : σ₁ D = none := by
    cases q : σ₁ D with
    | none => rfl
    | some o => rw [H₁.led _ _ q] at hD; cases hD
  obtain ⟨k', vs', hst, hk, q⟩ := hQ D out σ₂ k n1 hσD hIn
  have c' := c.fresh hD hl
  have H' := H₁.chgOf (s' := s') c' hg ho
  have F' := F₁.chg H₁ c'
  have gC : g C = none := by
    cases q : g C with
    | none => rfl
    | some o => rw [H₁.keep _ _ q] at hC; cases hC
  have hns' := hns
  obtain ⟨oC, es, ep, hoC, hdC, hrC⟩ := hns'
  have sC : upd σ₂ D (lst out k) C = none := by rw [upd_ne (Ne.symm hDC)]; exact hσC
  have hCL : C ≠ env.locals := by
    rintro rfl
    obtain ⟨m, ⟨o, _, _, ho, _⟩, _⟩ := F₁.loc
    rw [hC] at ho; cases ho
  have nc : ∀ v, oC.data ≠ .cell v := by intro v e; rw [hdC] at e; cases e
  have H'' := H'.grow hoC sC gC
  have F'' := F'.grow2 hoC hCL nc
  show wpAny _ A (assign (.Name y py) env (.ref D)) _ _ _
  refine wpAny_assign_Name (wpAny_mono ((W_store (Q := fun _ vs'' σ'' => vs'' = vs' ∧ σ'' = upd σ₂ D (lst out k)) hst hk ⟨rfl, rfl⟩).out s' H'' F'') (fun _ s₅ z => ?_) fun _ _ e => e.elim)
  obtain ⟨vs₅, σ₅, H₅, F₅, rfl, rfl⟩ := z
  obtain ⟨H₆, oC₆, _⟩ := H₅.shrink H₁.gd gC
  have F₆ := F₅.shrink2 nc gC
  refine ⟨m, ⟨oC, es, ep, oC₆, hdC, hrC⟩, fun h₇ hs₇ => ⟨vs₅, upd σ₂ D (lst out k), ?_, ?_, q⟩⟩
  · exact ⟨H₆.gd, fun b o e => hs₇.extBut _ _ (by rintro rfl; rw [gC] at e; cases e) (H₆.keep _ _ e), fun b o e => hs₇.extBut _ _ (by rintro rfl; rw [sC] at e; cases e) (H₆.led _ _ e), H₆.dis, H₆.gens, H₆.os⟩
  · exact F₆.ext2 hs₇.extBut oC₆ hCL nc
end TextMW5
noncomputable section TextMW6
variable {prog : Program} {w : World} {K : Frag} {g : Led} {os : OsState} {A : Around} {env : Env} {own : Bool} {ns : List (Str × NameKind)} {vs : List (Option Value)} {σ : Led}

/-! calls by name -/
theorem W_Call {id : Str} {p pos : Pos} {args : List Expr} {Q : ValQ} (h : W prog w K g os A env own ns (eval (.Name id p) env) vs σ fun f vs σ => W prog w K g os A env own ns (callWith pos f [] (backTo pos (starEach args env)) []) vs σ Q) :
    W prog w K g os A env own ns (eval (.Call (.Name id p) args [] pos) env) vs σ Q :=
  W_in fun s H F => wpAny_Call_NameR (h.go H F (fun _ _ _ _ H' F' q => q.out _ H' F'))
theorem W_callWithT {T : String} {first : List Value} {pos : Pos} {e : Expr} {rest : List Expr} {Q : ValQ}
    (h : W prog w K g os A env own ns (spliced (backTo pos (starEach (e :: rest) env))) vs σ fun l vs σ => W prog w K g os A env own ns (call (.type T) (first ++ l) []) vs σ Q)
    (he : starEach (e :: rest) env = (false, eval e env) :: starEach rest env := by with_unfolding_all rfl) (hplain : (backTo pos (starEach (e :: rest) env)).any (·.1) = false := by with_unfolding_all rfl) :
    W prog w K g os A env own ns (callWith pos (.type T) first (backTo pos (starEach (e :: rest) env)) []) vs σ Q := W_in fun s H F =>
  PyProof.Rows.callWith_type hplain (wpAny_mono ((W_evalArgs (Q := fun a vs σ => W prog w K g os A env own ns (call (.type T) (first ++ a.pos) a.kw) vs σ Q) h he).out s H F) (fun _ _ ⟨_, _, H', F', q⟩ => q.out _ H' F') fun _ _ e => e)

/-- a new object at the end, the rest kept -/
theorem Chg.atEnd {h h' : Heap} {o : Obj} {a : Addr} (hl : ∀ a o, σ a = some o → h.get? a = some o) (ha : h.get? a = none) (kp : ∀ b o, h.get? b = some o → h'.get? b = some o) (ho : h'.get? a = some o) : σ a = none ∧ Chg σ h (upd σ a o) h' := by
  have hn : σ a = none := by
    cases q : σ a with
    | none => rfl
    | some o' => rw [hl _ _ q] at ha; cases ha
  refine ⟨hn, fun b o' _ e => kp _ _ e, fun b o' e => ?_, fun b o' e n => ?_⟩
  · unfold upd at e; split at e
    · rename_i q; cases e; rw [q]; exact ho
    · exact kp _ _ (hl _ _ e)
  · unfold upd at e; split at e
    · rename_i q; rw [q]; exact ha
    · rw [n] at e; cases e
theorem get?_size (h : Heap) : h.get? h.objs.size = none := by
  cases q : h.get? h.objs.size with
  | none => rfl
  | some o' => exact absurd (Heap.lt_size q) (Nat.lt_irrefl _)
theorem get?_ge (h : Heap) {a : Addr} (ha : h.objs.size ≤ a) : h.get? a = none := by
  cases q : h.get? a with
  | none => rfl
  | some o' => exact absurd (Heap.lt_size q) (Nat.not_lt.mpr ha)

/-! the library's frames, for the rules that are stated on them -/
def allBut (h : Heap) (L dx : Addr) : List (Addr × Obj) := (List.range h.objs.size).filterMap fun b => if b = L ∨ b = dx then none else (h.get? b).map fun o => (b, o)
theorem mem_allBut {h : Heap} {L dx b : Addr} {o : Obj} (e : h.get? b = some o) (h1 : b ≠ L) (h2 : b ≠ dx) : (b, o) ∈ allBut h L dx :=
  List.mem_filterMap.mpr ⟨b, List.mem_range.mpr (Heap.lt_size e), by rw [if_neg (by simp [h1, h2]), e]; rfl⟩
theorem of_allBut {h : Heap} {L dx : Addr} {p : Addr × Obj} (hp : p ∈ allBut h L dx) : h.get? p.1 = some p.2 ∧ p.1 ≠ L ∧ p.1 ≠ dx := by
  obtain ⟨b, hb, e⟩ := List.mem_filterMap.mp hp
  split at e
  · cases e
  · rename_i hn
    rw [not_or] at hn
    cases q : h.get? b with
    | none => rw [q] at e; cases e
    | some o => rw [q] at e; cases e; exact ⟨q, hn⟩
def h00 : Heap := ⟨#[], {}⟩
theorem h00_get (a : Addr) : h00.get? a = none := get?_ge _ (Nat.zero_le _)
theorem FrOk.fr {h : Heap} (F : FrOk env own ns vs g σ h) : ∃ m, Fr h00 env.locals h m ∧ ∀ x v, Ld ns vs x .local v → m x = v := by
  obtain ⟨m, hn, hm⟩ := F.loc
  exact ⟨m, ⟨hn, (fun b o e => by rw [h00_get] at e; cases e), Nat.zero_le _⟩, hm⟩
theorem news_allBut (h : Heap) (L dx : Addr) : News h00 L h (allBut h L dx) := fun p hp => ⟨(of_allBut hp).1, (of_allBut hp).2.1, h00_get _⟩
/-- back from a library frame -/
theorem via_back {s : Shared} (H : Hp K g σ os s) (F : FrOk env own ns vs g σ s.heap) {m : Str → Option Value} (hm : ∀ x v, Ld ns vs x .local v → m x = v) {h' : Heap} {σ' : Led} (F' : Fr h00 env.locals h' m)
    (keep : ∀ b o, b ≠ env.locals → σ b = none → s.heap.get? b = some o → h'.get? b = some o) (led : ∀ b o, σ' b = some o → h'.get? b = some o) (new : ∀ b o, σ' b = some o → σ b = none → s.heap.get? b = none) (t : Nat) :
    Hp K g σ' os { s with heap := h', toks := t } ∧ FrOk env own ns vs g σ' h' := by
  have nn : ∀ b o, σ b = none → s.heap.get? b = some o → σ' b = none := fun b o n e => by
    cases q : σ' b with
    | none => rfl
    | some o' => rw [new _ _ q n] at e; cases e
  have gσ : ∀ b o, g b = some o → σ b = none := fun b o e => by
    cases q : σ b with
    | none => rfl
    | some o' => rw [H.dis _ _ q] at e; cases e
  have gL : ∀ b o, g b = some o → b ≠ env.locals := fun b o e => by rintro rfl; rw [F.locf.2] at e; cases e
  refine ⟨⟨H.gd, fun b o e => keep _ _ (gL _ _ e) (gσ _ _ e) (H.keep _ _ e), led, fun b o e => ?_, H.gens, H.os⟩, F.names, F.kind, F.ok, F.glob, F.blt, ⟨?_, F.locf.2⟩, ⟨m, F'.ns, hm⟩, fun x k v hx hk => ?_, F.apart⟩
  · cases q : g b with
    | none => rfl
    | some o' => rw [nn _ _ (gσ _ _ q) (H.keep _ _ q)] at e; cases e
  · obtain ⟨_, ⟨o, _, _, ho, _⟩, _⟩ := F.loc
    exact nn _ _ F.locf.1 ho
  · obtain ⟨c, e1, ⟨oc, hoc, hdc⟩, e3⟩ := F.cell x k v hx hk
    have hcL : c ≠ env.locals := by
      rintro rfl
      obtain ⟨_, ⟨o, _, _, ho, hd, _⟩, _⟩ := F.loc
      rw [hoc] at ho; cases ho; rw [hdc] at hd; cases hd
    have hcσ : σ c = none := by
      cases own with
      | true => simp only [if_true] at e3; exact e3.1
      | false =>
        simp only [Bool.false_eq_true, if_false] at e3
        obtain ⟨_, hg, _⟩ := e3
        exact gσ _ _ hg
    refine ⟨c, e1, ⟨oc, keep _ _ hcL hcσ hoc, hdc⟩, ?_⟩
    cases own with
    | true => simp only [if_true] at e3 ⊢; exact ⟨nn _ _ hcσ hoc, e3.2⟩
    | false => simp only [Bool.false_eq_true, if_false] at e3 ⊢; exact e3
/-- a library rule that makes one object -/
theorem via_new {s : Shared} (H : Hp K g σ os s) (F : FrOk env own ns vs g σ s.heap) {m : Str → Option Value} (hm : ∀ x v, Ld ns vs x .local v → m x = v) {h' : Heap} {D : Addr} {o : Obj} (F' : Fr h00 env.locals h' m)
    (N : News h00 env.locals h' ((D, o) :: allBut s.heap env.locals env.locals)) (hD : ∀ p ∈ allBut s.heap env.locals env.locals, p.1 < D) (t : Nat) :
    σ D = none ∧ Hp K g (upd σ D o) os { s with heap := h', toks := t } ∧ FrOk env own ns vs g (upd σ D o) h' := by
  have fD : s.heap.get? D = none := by
    cases q : s.heap.get? D with
    | none => rfl
    | some o' => exact absurd (hD (D, o') (mem_allBut q (N (D, o) (.head _)).2.1 (N (D, o) (.head _)).2.1)) (Nat.lt_irrefl _)
  have kp : ∀ b o', b ≠ env.locals → s.heap.get? b = some o' → h'.get? b = some o' := fun b o' n e => (N (b, o') (.tail _ (mem_allBut e n n))).1
  have hn : σ D = none := by
    cases q : σ D with
    | none => rfl
    | some o' => rw [H.led _ _ q] at fD; cases fD
  refine ⟨hn, via_back H F hm F' (fun b o' n _ e => kp b o' n e) (fun b o' e => ?_) (fun b o' e n => ?_) t⟩
  · unfold upd at e; split at e
    · rename_i q; cases e; rw [q]; exact (N (D, o) (.head _)).1
    · exact kp _ _ (by rintro rfl; rw [F.locf.1] at e; cases e) (H.led _ _ e)
  · unfold upd at e; split at e
    · rename_i q; rw [q]; exact fD
    · rw [n] at e; cases e

section
variable {n a b c : Int} {t u v : Tok} {Q : ValQ} {r : Addr} {l l₂ : List Value} {k k₂ : Nat}
theorem W_range1 (q : ∀ r t u v, σ r = none → Q (.ref r) vs (upd σ r (rng 0 n 1 t u v))) : W prog w K g os A env own ns (call (.type "range") [.int n t] []) vs σ Q := W_of fun s H F => by
  obtain ⟨hn, C⟩ := Chg.push (o := rng 0 n 1 s.toks t (s.toks + 1)) H.led rfl
  exact call_range_1 ⟨_, _, _, rfl, C, q _ _ _ _ hn⟩
theorem W_range2 (q : ∀ r t u v, σ r = none → Q (.ref r) vs (upd σ r (rng a b 1 t u v))) : W prog w K g os A env own ns (call (.type "range") [.int a t, .int b u] []) vs σ Q := W_of fun s H F => by
  obtain ⟨hn, C⟩ := Chg.push (o := rng a b 1 t u s.toks) H.led rfl
  exact call_range_2 ⟨_, _, _, rfl, C, q _ _ _ _ hn⟩
theorem W_range3 (hc : c ≠ 0) (hp : Builtin.divisionGoesByPylong (b - a) c = false) (q : ∀ r t u v, σ r = none → Q (.ref r) vs (upd σ r (rng a b c t u v))) : W prog w K g os A env own ns (call (.type "range") [.int a t, .int b u, .int c v] []) vs σ Q := W_of fun s H F => by
  obtain ⟨hn, C⟩ := Chg.push (o := rng a b c t u v) H.led rfl
  exact call_range_3 hc ⟨_, _, _, rfl, C, q _ _ _ _ hn⟩ (.inl hp)
theorem W_len (e : σ r = some (lst l k)) (hz : l.length < 2 ^ 62) (q : ∀ t, Q (.int l.length t) vs σ) : W prog w K g os A env own ns (call (.builtin "len") [.ref r] []) vs σ Q := W_look fun s H F => by
  refine call_len_list (isList_of H.led e) ?_ ⟨⟨_, rfl⟩, ?_⟩
  · rw [List.size_toArray]; omega
  · rw [List.size_toArray]; exact q _
theorem W_listCopy (e : σ r = some (lst l k)) (hz : l.length ≤ sizeLine) (q : ∀ a k, σ a = none → Q (.ref a) vs (upd σ a (lst l k))) : W prog w K g os A env own ns (call (.type "list") [.ref r] []) vs σ Q := W_of fun s H F => by
  refine call_list_seq r (.inl rfl) (H.led _ _ e) rfl rfl (fun h' c' kp ho => ?_) (by rw [List.size_toArray]; exact hz)
  obtain ⟨hn, C⟩ := Chg.atEnd H.led (get?_size _) kp ho
  exact ⟨_, _, _, rfl, C, q _ _ hn⟩
theorem W_listRange {m : Nat} (hA : A.handled = none) (e : σ r = some (rng a b c t u v)) (hs : Builtin.Range.small a b c = true) (hn : Builtin.Range.rangeSize a b c = m) (hm : m ≤ 2 ^ 24)
    (q : ∀ x l k, σ x = none → l.length = m → (∀ i, i < m → ∃ t, l[i]? = some (.int (a + i * c) t)) → Q (.ref x) vs (upd σ x (lst l k))) : W prog w K g os A env own ns (call (.type "list") [.ref r] []) vs σ Q := W_of fun s H F => by
  refine call_list_range hA (H.led _ _ e) hs hn hm fun h' tk acc' c' kp ho it => ?_
  obtain ⟨hn, C⟩ := Chg.atEnd H.led (get?_size _) kp ho
  refine ⟨_, h', tk, rfl, C, q _ acc'.toList c' hn (by rw [Array.length_toList]; exact it.1) fun i hi => ?_⟩
  have hlt : i < acc'.size := by rw [it.1]; exact hi
  obtain ⟨t', e'⟩ := it.2 i acc'[i] (Array.getElem?_eq_getElem hlt)
  exact ⟨t', by rw [Array.getElem?_toList, Array.getElem?_eq_getElem hlt, e']⟩
theorem W_concat {r₂ : Addr} (e : σ r = some (lst l k)) (e₂ : σ r₂ = some (lst l₂ k₂)) (hz : l.length + l₂.length ≤ sizeLine) (q : ∀ a, σ a = none → Q (.ref a) vs (upd σ a (lst (l ++ l₂) 0))) :
    W prog w K g os A env own ns (binaryOp .Add (.ref r) (.ref r₂)) vs σ Q := W_in fun s H F => by
  obtain ⟨m, F', hm⟩ := F.fr
  refine add_lists F' (news_allBut _ _ env.locals) (isList_of H.led e) (isList_of H.led e₂) (fun h' F₁ N₁ => ?_) hz
  obtain ⟨hn, H₂, F₂⟩ := via_new H F hm F₁ N₁ (fun p hp => Heap.lt_size (of_allBut hp).1) s.toks
  exact ⟨_, _, H₂, F₂, q _ hn⟩
theorem W_notin_ints {ms : List Int} {i : Int} (e : σ r = some (lst l k)) (hi : IntsAre l ms) (q : Q (.bool (!(ms.any (· == i)))) vs σ) : W prog w K g os A env own ns (compareOp .NotIn (.int i t) (.ref r)) vs σ Q :=
  W_look fun s H F => notin_list_ints (isList_of H.led e) hi ⟨⟨_, rfl⟩, q⟩
theorem W_notin_tup {ys : List Str} {x : Str} (e : σ r = some (tup l k)) (hi : StrsAre l ys) (q : Q (.bool (!(ys.any (· == x)))) vs σ) : W prog w K g os A env own ns (compareOp .NotIn (.str x t) (.ref r)) vs σ Q :=
  W_look fun s H F => notin_tuple_strs (isTup_of H.led e) (by simpa using hi) ⟨⟨_, rfl⟩, q⟩
theorem W_eq_ints {r₂ : Addr} {ms ms₂ : List Int} (e : σ r = some (lst l k)) (e₂ : σ r₂ = some (lst l₂ k₂)) (hi : IntsAre l ms) (hi₂ : IntsAre l₂ ms₂) (hu : A.units + 64 < cLine) (q : Q (.bool (decide (ms = ms₂))) vs σ) :
    W prog w K g os A env own ns (compareOp .Eq (.ref r) (.ref r₂)) vs σ Q := W_look fun s H F => ke_eq_ints (isList_of H.led e) (isList_of H.led e₂) hi hi₂ hu ⟨⟨_, rfl⟩, q⟩
theorem W_ne_ints {r₂ : Addr} {ms ms₂ : List Int} (e : σ r = some (lst l k)) (e₂ : σ r₂ = some (lst l₂ k₂)) (hi : IntsAre l ms) (hi₂ : IntsAre l₂ ms₂) (hu : A.units + 64 < cLine) (q : Q (.bool (!decide (ms = ms₂))) vs σ) :
    W prog w K g os A env own ns (compareOp .NotEq (.ref r) (.ref r₂)) vs σ Q := W_look fun s H F => ke_ne_ints (isList_of H.led e) (isList_of H.led e₂) hi hi₂ hu ⟨⟨_, rfl⟩, q⟩
theorem W_sorted {ms : List Int} (e : σ r = some (lst l k)) (hi : IntsAre l ms) (h64 : l.length < 64) (q : ∀ a out ns' k, σ a = none → IntsAre out ns' → ns'.Perm ms → ns'.Pairwise (· ≤ ·) → Q (.ref a) vs (upd σ a (lst out k))) :
    W prog w K g os A env own ns (call (.builtin "sorted") [.ref r] []) vs σ Q := W_of fun s H F => by
  refine sorted_ints (isList_of H.led e) hi h64 fun out ns' h1 h2 h3 => ?_
  have kp : ∀ b o, s.heap.get? b = some o → (sortedAll s.heap l out).get? b = some o := fun b o e => by
    have hb := Heap.lt_size e
    have n0 : b ≠ s.heap.objs.size := Nat.ne_of_lt hb
    have n1 : b ≠ s.heap.objs.size + 1 := Nat.ne_of_lt (Nat.lt_succ_of_lt hb)
    unfold sortedAll sortedHeap
    rw [Heap.get?_update_other _ _ n1.symm]
    refine Heap.get?_push_of_some _ (Heap.get?_push_of_some _ ?_)
    rw [Heap.get?_update_other _ _ n1.symm]
    refine Heap.get?_push_of_some _ ?_
    rw [Heap.get?_update_other _ _ n0.symm]
    exact Heap.get?_push_of_some _ e
  have ho : ∃ kk, (sortedAll s.heap l out).get? (s.heap.objs.size + 1) = some (lst out.toList kk) := by
    unfold sortedAll sortedHeap
    have z1 : (((s.heap.push (seqObj "list" #[] 0)).update s.heap.objs.size (Obj.mapSeq (· ++ l.toArray))).push (seqObj "list" l.toArray 0)).get? (s.heap.objs.size + 1) = some (seqObj "list" l.toArray 0) := by
      have := Heap.get?_push_size ((s.heap.push (seqObj "list" #[] 0)).update s.heap.objs.size (Obj.mapSeq (· ++ l.toArray))) (o := seqObj "list" l.toArray 0) rfl
      rwa [Heap.size_after_update, Heap.size_push] at this
    have z2 := Heap.get?_update_self (Obj.mapSeq fun _ => #[]) z1 rfl
    have z3 := Heap.get?_push_of_some (seqObj "list" #[] 0) (Heap.get?_push_of_some (seqObj "tuple" l.toArray 0) z2)
    have z4 := Heap.get?_update_self (Obj.mapSeq fun _ => out) z3 rfl
    exact ⟨_, z4⟩
  obtain ⟨kk, ho⟩ := ho
  obtain ⟨hn, C⟩ := Chg.atEnd H.led (get?_ge _ (Nat.le_succ _)) kp ho
  exact ⟨_, _, _, rfl, C, q _ _ _ _ hn h1 h2 h3⟩
theorem W_strInt {i : Int} (hi : i.natAbs.log2 < 1920) (q : ∀ t, Q (.str (toString i) t) vs σ) : W prog w K g os A env own ns (call (.type "str") [.int i t] []) vs σ Q := W_look fun s H F => P.str_of_int hi ⟨⟨_, rfl⟩, q _⟩
theorem W_addStr {x y : Str} (hz : x.length + y.length ≤ sizeLine) (q : ∀ t, Q (.str (x ++ y) t) vs σ) : W prog w K g os A env own ns (binaryOp .Add (.str x t) (.str y u)) vs σ Q := W_look fun s H F => SB.add (fun t' k => ⟨⟨_, rfl⟩, q _⟩) hz
theorem W_isiB {b : Bool} (q : Q (.bool false) vs σ) : W prog w K g os A env own ns (call (.builtin "isinstance") [.bool b, .type "list"] []) vs σ Q := W_look fun s H F => IsiPair.bool_list ⟨⟨_, rfl⟩, q⟩
theorem W_isiL (e : σ r = some (lst l k)) (q : Q (.bool true) vs σ) : W prog w K g os A env own ns (call (.builtin "isinstance") [.ref r, .type "list"] []) vs σ Q := W_look fun s H F => IsiPair.list_list (H.led _ _ e) rfl ⟨⟨_, rfl⟩, q⟩
theorem W_truthL (e : σ r = some (lst l k)) (hz : l.length < 2 ^ 62) {Q : BoolQ} (q : Q (!l.isEmpty) vs σ) : W prog w K g os A env own ns (truthy (.ref r)) vs σ Q := W_look fun s H F => wpAny_truthy_list (isList_of H.led e) (by rw [List.size_toArray]; omega) ⟨⟨_, rfl⟩, by simpa using q⟩
theorem W_reverseB (e : σ r = some (lst l k)) (hz : l.length ≤ sizeLine) (q : ∀ k', Q .none vs (upd σ r (lst l.reverse k'))) : W prog w K g os A env own ns (call (.builtin "list.reverse") [.ref r] []) vs σ Q := W_of fun s H F => by
  have z := H.led _ _ e
  refine call_meets PySem.F.slot_list_reverse ⟨_, z, rfl⟩ PySem.F.entry_list_reverse (PySem.F.args_list_reverse_1 _) (PySem.AutoSeq1.list_reverse_list_0 r l.toArray k (by simpa using hz)) ⟨z, ?_⟩
  have z' := Heap.get?_update_self (Obj.mapSeq fun x => x.reverse) z rfl
  have z'' : (s.heap.update r (Obj.mapSeq fun x => x.reverse)).get? r = some (lst l.reverse k) := by
    rw [z']; simp [Obj.mapSeq]
  exact ⟨_, _, _, rfl, Chg.set H.led e (Heap.SameBut.update ..) z'', q _⟩
theorem W_repeat {x : Int} (e : σ r = some (lst l k)) (hlo : 0 ≤ x) (hhi : x < 2 ^ 63) (hz : l.length * x.toNat ≤ 256) (q : ∀ a, σ a = none → Q (.ref a) vs (upd σ a (lst (List.replicate x.toNat l).flatten 0))) :
    W prog w K g os A env own ns (binaryOp .Mult (.ref r) (.int x u)) vs σ Q := W_in fun s H F => by
  obtain ⟨m, F', hm⟩ := F.fr
  refine KMa.mul F' (news_allBut _ _ env.locals) (isList_of H.led e) (Int.le_trans (by decide) hlo) hhi hz rfl fun D h' F₁ N₁ hD => ?_
  obtain ⟨hn, H₂, F₂⟩ := via_new H F hm F₁ N₁ hD s.toks
  exact ⟨_, _, H₂, F₂, q _ hn⟩
end
end TextMW6
noncomputable section TextMW7
variable {prog : Program} {w : World} {K : Frag} {g : Led} {os : OsState} {A : Around} {env : Env} {own : Bool} {ns : List (Str × NameKind)} {vs : List (Option Value)} {σ : Led}

/-! slices -/
theorem W_part0 {Q : ValQ} (q : Q .none vs σ) : W prog w K g os A env own ns (evalPart none env) vs σ Q := W_look fun s H F => by rw [evalPart_none]; exact wpAny_pure ⟨⟨_, rfl⟩, q⟩
theorem W_part1 {e : Expr} {Q : ValQ} (h : W prog w K g os A env own ns (eval e env) vs σ Q) : W prog w K g os A env own ns (evalPart (some e) env) vs σ Q := by rw [evalPart_some]; exact h
theorem W_slice {value : Expr} {lower upper : Option Expr} {p pos : Pos} {Q : ValQ}
    (h : W prog w K g os A env own ns (eval value env) vs σ fun o vs σ => W prog w K g os A env own ns (evalPart lower env) vs σ fun vl vs σ => W prog w K g os A env own ns (evalPart upper env) vs σ fun vu vs σ =>
      ∃ a l k lo hi, o = .ref a ∧ σ a = some (lst l k) ∧ l.length ≤ sizeLine ∧ IsPart vl lo ∧ IsPart vu hi ∧ ∀ b, σ b = none → Q (.ref b) vs (upd σ b (lst (kms_pick l lo hi) 0)))
    (ht : ∀ o r, letTemporaryGo value o r = pure () := by intro _ _; with_unfolding_all rfl) : W prog w K g os A env own ns (eval (.Subscript value (.Slice lower upper none p) pos) env) vs σ Q := W_in fun s H F => by
  refine wpAny_Subscript_list_slice (h.go H F (fun o s₁ _ _ H₁ F₁ h₁ => h₁.go H₁ F₁ (fun vl s₂ _ _ H₂ F₂ h₂ => h₂.go H₂ F₂ (fun vu s₃ vs₃ σ₃ H₃ F₃ h₃ => ?_)))) ht
  obtain ⟨a, l, k, lo, hi, rfl, e, hz, pl, pu, q⟩ := h₃
  refine ⟨a, l.toArray, lo, hi, rfl, isList_of H₃.led e, by rw [List.size_toArray]; exact hz, pl, pu, ?_⟩
  have eq : slicePick l.toArray lo hi none = (kms_pick l lo hi).toArray := kms_pick_eq _ _ _
  rw [eq]
  have ho : ((s₃.heap.push { cls := .type "slice", data := .fields #[vl, vu, .none] }).push (lst (kms_pick l lo hi) 0)).get? (s₃.heap.objs.size + 1) = some (lst (kms_pick l lo hi) 0) := by
    have := Heap.get?_push_size (s₃.heap.push { cls := .type "slice", data := .fields #[vl, vu, .none] }) (o := lst (kms_pick l lo hi) 0) rfl
    rwa [Heap.size_push] at this
  obtain ⟨hn, C⟩ := Chg.atEnd H₃.led (get?_ge _ (Nat.le_succ _)) (fun b o e => Heap.get?_push_of_some _ (Heap.get?_push_of_some _ e)) ho
  exact ⟨_, _, H₃.chg C s₃.toks, F₃.chg H₃ C, q _ hn⟩
/-! stores -/
section
variable {rest : List Stmt} {Q : FlowQ}
theorem W_sAssignSub {o i value : Expr} {pos' pos : Pos} (h : W prog w K g os A env own ns (eval value env) vs σ fun v vs σ => W prog w K g os A env own ns (eval o env) vs σ fun ov vs σ => W prog w K g os A env own ns (eval i env) vs σ fun iv vs σ =>
      W prog w K g os A env own ns (setItem ov iv v) vs σ fun _ vs σ => W prog w K g os A env own ns (execs rest env) vs σ Q)
    (hs : swapsWith value (some (.Subscript o i pos')) pos.line env = pure false := by with_unfolding_all rfl) : W prog w K g os A env own ns (execs (.Assign [.Subscript o i pos'] value pos :: rest) env) vs σ Q := W_cons <| W_in fun s H F =>
  wpAny_Assign_Subscript (h.go H F (fun _ _ _ _ H₁ F₁ h₁ => h₁.go H₁ F₁ (fun _ _ _ _ H₂ F₂ h₂ => wpAny_mono (h₂.out _ H₂ F₂) (fun _ _ ⟨_, _, H₃, F₃, h₃⟩ =>
    wpAny_mono (h₃.out _ H₃ F₃) (fun _ _ z => z) fun _ _ e => e) fun _ _ e => e))) hs
theorem W_sAssignAttr {o value : Expr} {attr : Str} {pos' pos : Pos} (h : W prog w K g os A env own ns (eval value env) vs σ fun v vs σ => W prog w K g os A env own ns (eval o env) vs σ fun ov vs σ =>
      W prog w K g os A env own ns (setAttr ov attr v) vs σ fun _ vs σ => W prog w K g os A env own ns (execs rest env) vs σ Q)
    (hs : swapsWith value (some (.Attribute o attr pos')) pos.line env = pure false := by with_unfolding_all rfl) : W prog w K g os A env own ns (execs (.Assign [.Attribute o attr pos'] value pos :: rest) env) vs σ Q := W_cons <| W_in fun s H F =>
  plainObj_wpAny_Assign_Attribute (h.go H F (fun _ _ _ _ H₁ F₁ h₁ => wpAny_mono (h₁.out _ H₁ F₁) (fun _ _ ⟨_, _, H₂, F₂, h₂⟩ =>
    wpAny_mono (h₂.out _ H₂ F₂) (fun _ _ z => z) fun _ _ e => e) fun _ _ e => e)) hs
end
/-- a list object, whatever else it bears -/
def LObj (o : Obj) (l : List Value) : Prop := o.cls = .type "list" ∧ ∃ n, o.data = .seq l.toArray n
theorem LObj.lst (l : List Value) (n : Nat) : LObj (lst l n) l := ⟨rfl, n, rfl⟩
theorem isList_ofO {h : Heap} {a : Addr} {l : List Value} {o : Obj} (hl : ∀ a o, σ a = some o → h.get? a = some o) (e : σ a = some o) (ho : LObj o l) : h.IsList a l.toArray := ⟨o, hl _ _ e, ho⟩
theorem W_setItemL {a : Addr} {l : List Value} {o : Obj} {k : Int} {t : Tok} {v : Value} {Q : Unit → List (Option Value) → Led → Prop} (e : σ a = some o) (ho : LObj o l) (h0 : 0 ≤ k) (hf : k < 2 ^ 63) (hn : k < l.length)
    (q : ∀ o', LObj o' (l.set k.toNat v) → Q () vs (upd σ a o')) : W prog w K g os A env own ns (setItem (.ref a) (.int k t) v) vs σ Q := W_of fun s H F => by
  refine wpAny_setItem_list (isList_ofO H.led e ho) h0 hf (by simpa using hn) fun h' hl hs => ?_
  obtain ⟨o', ho', hc, n, hd⟩ := hl
  exact ⟨_, h', s.toks, rfl, Chg.set H.led e hs ho', q o' ⟨hc, n, by rw [hd]; simp⟩⟩
theorem W_listCopyO {r : Addr} {o : Obj} {l : List Value} {Q : ValQ} (e : σ r = some o) (ho : LObj o l) (hz : l.length ≤ sizeLine) (q : ∀ a k, σ a = none → Q (.ref a) vs (upd σ a (lst l k))) : W prog w K g os A env own ns (call (.type "list") [.ref r] []) vs σ Q := W_of fun s H F => by
  obtain ⟨hc, n, hd⟩ := ho
  refine call_list_seq r (.inl rfl) (H.led _ _ e) hc hd (fun h' c' kp ho => ?_) (by rw [List.size_toArray]; exact hz)
  obtain ⟨hn, C⟩ := Chg.atEnd H.led (get?_size _) kp ho
  exact ⟨_, _, _, rfl, C, q _ _ hn⟩

/-! objects of a class of the text -/
inductive FdL : List DictEntry → List (Str × Value) → Prop
  | nil : FdL [] []
  | cons {es fs} (h : Int) (t : Tok) (x : Str) (v : Value) : FdL es fs → FdL (⟨h, .str x t, v⟩ :: es) ((x, v) :: fs)
def Fd (fs : List (Str × Value)) (o : Obj) : Prop := ∃ es n, o = dictOf es n ∧ FdL es fs
def putF (name : Str) (v : Value) : List (Str × Value) → List (Str × Value)
  | [] => [(name, v)]
  | (x, u) :: r => if x == name then (x, v) :: r else (x, u) :: putF name v r
theorem FdL.get {name : Str} : ∀ {es fs}, FdL es fs → getL name es = some (fs.lookup name) := fun {es fs} h => by
  unfold getL
  have hr : es.any (·.refKey) = false := by
    induction h with
    | nil => rfl
    | cons h t x v _ ih => rw [List.any_cons, ih]; rfl
  rw [hr]
  induction h with
  | nil => rfl
  | cons h t x v r ih =>
    rw [List.any_cons, Bool.or_eq_false_iff] at hr
    have ih := ih hr.2
    rw [List.find?_cons, List.lookup_cons]
    have e : (Value.str x t).isStr name = (name == x) := by
      show (x == name) = (name == x)
      rw [Bool.eq_iff_iff, beq_iff_eq, beq_iff_eq]; exact eq_comm
    dsimp only
    rw [e]
    cases name == x with
    | true => rfl
    | false => exact ih
theorem FdL.put {name : Str} {h : Int} {t : Tok} {v : Value} : ∀ {es fs}, FdL es fs → FdL (putL name h (.str name t) v es) (putF name v fs)
  | _, _, .nil => .cons _ _ _ _ .nil
  | _, _, .cons h' t' x u r => by
    unfold putL putF
    have e : (Value.str x t').isStr name = (x == name) := rfl
    dsimp only
    rw [e]
    cases x == name with
    | true => exact .cons _ _ _ _ r
    | false => exact .cons _ _ _ _ (FdL.put r)
theorem FdL.length {es fs} (h : FdL es fs) : es.length = fs.length := by
  induction h with
  | nil => rfl
  | cons _ _ _ _ _ ih => rw [List.length_cons, List.length_cons, ih]
theorem Fd.look {fs : List (Str × Value)} {o : Obj} {name : Str} (h : Fd fs o) : lookIn name o = some (fs.lookup name) := by
  obtain ⟨es, n, rfl, h⟩ := h
  rw [lookIn_dict]; exact h.get

def getOk (K : Frag) (C : Addr) (name : Str) : Bool := plainGet K C name && hasDictIn K C && (match findIn K (.ref C) name with | some attr => noGet K attr | none => false)
def setOk (K : Frag) (C : Addr) (name : Str) : Bool := (findIn K (.ref C) "__setattr__" == some (some (.builtin "object.__setattr__"))) && plainOver K C && (takerIn K C name == some none) && (clsIn K C).any (·.hasDict)
theorem inst_of {h : Heap} {x dx C : Addr} {o : Obj} (hl : ∀ a o, σ a = some o → h.get? a = some o) (hx : σ x = some (instObj C dx)) (hd : σ dx = some o) : InstAt h x (instObj C dx) C (some o) := ⟨hl _ _ hx, rfl, rfl, hl _ _ hd⟩
theorem W_getAttr {x dx C : Addr} {o : Obj} {fs : List (Str × Value)} {name : Str} {v : Value} {b : Bool} {Q : ValQ} (hx : σ x = some (instObj C dx)) (hd : σ dx = some o) (hf : Fd fs o) (hv : fs.lookup name = some v) (hok : getOk K C name = true) (hh : handedIn v = true)
    (q : Q v vs σ) : W prog w K g os A env own ns (getAttr (.ref x) name b) vs σ Q := W_look fun s H F => by
  unfold getOk at hok
  simp only [Bool.and_eq_true] at hok
  obtain ⟨⟨h1, h2⟩, h3⟩ := hok
  cases hq : findIn K (.ref C) name with
  | none => rw [hq] at h3; cases h3
  | some attr =>
    rw [hq] at h3
    exact get_value H.kin (inst_of H.led hx hd) (plainGet_of h1).1 (findObj_own h2 hq h3 (by rw [hf.look, hv])) hh ⟨⟨_, rfl⟩, q⟩
theorem W_setAttr {x dx C : Addr} {o : Obj} {fs : List (Str × Value)} {name : Str} {v : Value} {Q : Unit → List (Option Value) → Led → Prop} (hx : σ x = some (instObj C dx)) (hd : σ dx = some o) (hf : Fd fs o) (hn : fs.length ≤ 900) (hok : setOk K C name = true)
    (q : ∀ o', Fd (putF name v fs) o' → Q () vs (upd σ dx o')) : W prog w K g os A env own ns (setAttr (.ref x) name v) vs σ Q := W_in fun s H F => by
  unfold setOk at hok
  simp only [Bool.and_eq_true, beq_iff_eq] at hok
  obtain ⟨⟨⟨h1, h2⟩, h3⟩, h4⟩ := hok
  obtain ⟨m, F', hm⟩ := F.fr
  have hfd := hf
  obtain ⟨es, n, rfl, hL⟩ := hf
  have I := inst_of H.led hx hd
  have hdL : dx ≠ env.locals := by rintro rfl; rw [F.locf.1] at hd; cases hd
  have N : News h00 env.locals s.heap ([] ++ (dx, dictOf es n) :: allBut s.heap env.locals dx) := fun p hp => by
    rcases List.mem_cons.mp hp with rfl | hp
    · exact ⟨H.led _ _ hd, hdL, h00_get _⟩
    · exact news_allBut _ _ _ p hp
  have hl : (lookIn name (dictOf es n)).isSome = true := by rw [hfd.look]; rfl
  refine set_plain H.kin I h1 (osa_dict (s := { s with toks := s.toks + 1 }) (od := dictOf es n) (pre := []) F' N H.kin I rfl h2 h3 h4 hl (fun p hp => nomatch hp) (fun p hp => (of_allBut hp).2.2) (putName_dict _ _ _ _ _ _) rfl ?_ fun h' F₁ N₁ => ?_)
  · rw [hL.put.length]
    have : ∀ fs : List (Str × Value), (putF name v fs).length ≤ fs.length + 1 := by
      intro fs
      induction fs with
      | nil => exact Nat.le_refl _
      | cons a r ih =>
        unfold putF
        split
        · exact Nat.le_succ _
        · rw [List.length_cons, List.length_cons]; omega
    have := this fs
    omega
  · have kp : ∀ b o', b ≠ env.locals → b ≠ dx → s.heap.get? b = some o' → h'.get? b = some o' := fun b o' n1 n2 e => (N₁ (b, o') (.tail _ (mem_allBut e n1 n2))).1
    have hd' := (N₁ _ (.head _)).1
    obtain ⟨H₂, F₂⟩ := via_back H F hm F₁ (σ' := upd σ dx (dictOf (putL name (PyData.keyHash w.params name) (.str name (s.toks + 1)) v es) (putN name es n))) (fun b o' n1 n2 e => kp b o' n1 (by rintro rfl; rw [hd] at n2; cases n2) e)
      (fun b o' e => by
        unfold upd at e; split at e
        · rename_i q; cases e; rw [q]; exact hd'
        · rename_i q; exact kp _ _ (by rintro rfl; rw [F.locf.1] at e; cases e) q (H.led _ _ e))
      (fun b o' e n => by
        unfold upd at e; split at e
        · rename_i q; rw [q, hd] at n; cases n
        · rw [n] at e; cases e) (s.toks + 1 + 1)
    exact ⟨_, _, H₂, F₂, q _ ⟨_, _, rfl, hL.put⟩⟩
theorem callW_make {C fI : Addr} {args : List Value} {Φ : Value → Led → Prop} (hm : makesIn K C = true) (hi : findIn K (.ref C) "__init__" = some (some (.ref fI))) (hf : typeIn K (.ref fI) = some (.type "function"))
    (h : ∀ x dx, σ x = none → σ dx = none → x ≠ dx → CallW prog w K os (A.under (.builtin "type.__call__" ⟨.ref C :: args, []⟩)) (.ref fI) (.ref x :: args) (upd (upd σ dx emptyDict) x (instObj C dx)) fun r σ' => r = .none ∧ Φ (.ref x) σ') :
    CallW prog w K os A (.ref C) args σ Φ := fun g s H => by
  obtain ⟨hh, gg, d, t, oss⟩ := s
  have X := H.kin
  obtain ⟨n1, C₁⟩ := Chg.push (o := emptyDict) H.led rfl
  obtain ⟨n2, C₂⟩ := Chg.push (o := instObj C hh.objs.size) C₁.led rfl
  have H₂ := H.chg (C₁.trans C₂) t
  have e : (hh.push emptyDict).objs.size = hh.objs.size + 1 := Heap.size_push ..
  have n2' : σ (hh.objs.size + 1) = none := by
    cases q : σ (hh.objs.size + 1) with
    | none => rfl
    | some o => exact absurd (Heap.lt_size (H.led _ _ q)) (Nat.not_lt.mpr (Nat.le_succ _))
  rw [e] at H₂
  refine make_core (makes_of X hm) (looks_findIn X hi) (fun self => bind_fn X self hf) (.inl rfl) (codeAny_mono (h _ _ n2' n1 (Nat.ne_of_gt (Nat.lt_succ_self _)) g _ H₂) fun r s' z => ?_)
  obtain ⟨v, σ', rfl, H', rfl, q⟩ := z
  exact ⟨rfl, _, _, rfl, H', q⟩

/-! isinstance with a class of the text -/
theorem W_isiK {x dx C : Addr} {Q : ValQ} (hx : σ x = some (instObj C dx)) (e : isIn K (.ref C) C = true) (q : Q (.bool true) vs σ) : W prog w K g os A env own ns (call (.builtin "isinstance") [.ref x, .ref C] []) vs σ Q := W_look fun s H F =>
  isi_call H.kin (fun M => (Looks.ld (H.led _ _ hx)).andThen .now) e (by intro z; cases z) ⟨⟨_, rfl⟩, q⟩

/-! dicts with texts for keys -/
def DM (prog : Program) (w : World) (f : Str → Option Value) (o : Obj) : Prop := ∃ es ep, o.ExactDict ∧ o.data = .dict es ep ∧ KeysOf (strKind prog w) es ∧ ∀ k, findBy (strKind prog w).is es k = f k
theorem DM.at {f : Str → Option Value} {o : Obj} {h : Heap} {a : Addr} (d : DM prog w f o) (e : h.get? a = some o) : h.MapOf (strKind prog w) a f := let ⟨es, ep, r⟩ := d; ⟨o, es, ep, e, r⟩
theorem DM.of {f : Str → Option Value} {h : Heap} {a : Addr} (d : h.MapOf (strKind prog w) a f) : ∃ o, h.get? a = some o ∧ DM prog w f o := let ⟨o, es, ep, e, r⟩ := d; ⟨o, e, es, ep, r⟩

theorem Hp.notMods {s : Shared} (H : Hp K g σ os s) {a : Addr} (ha : s.heap.objs.size ≤ a) : (a == sysModules) = false := by
  obtain ⟨h₀, mg, mb, k0, _, n1, n2, _⟩ := H.gd.ex
  obtain ⟨o, _, _, ho, _⟩ := n1
  obtain ⟨o2, _, _, ho2, _⟩ := n2
  have l1 := Heap.lt_size (H.keep _ _ (k0 _ _ ho))
  have l2 := Heap.lt_size (H.keep _ _ (k0 _ _ ho2))
  rw [beq_eq_false_iff_ne]
  rintro rfl
  exact absurd (Nat.lt_of_lt_of_le l1 ha) (by decide)
theorem DM.empty : DM prog w (fun _ => none) emptyDict := ⟨#[], 0, ⟨rfl, rfl, rfl⟩, rfl, fun _ he => by simp at he, fun _ => rfl⟩
theorem W_dict0 {pos : Pos} {Q : ValQ} (q : ∀ a, σ a = none → (a == sysModules) = false → Q (.ref a) vs (upd σ a emptyDict)) : W prog w K g os A env own ns (eval (.Dict [] [] pos) env) vs σ Q := W_of fun s H F => by
  obtain ⟨hn, C⟩ := Chg.push (o := emptyDict) H.led rfl
  exact wpAny_Dict_empty ⟨_, _, s.toks, rfl, C, q _ hn (H.notMods (Nat.le_refl _))⟩
theorem W_dict1 {k v : Expr} {pos : Pos} {Q : ValQ} (h : ∀ a, σ a = none → (a == sysModules) = false → W prog w K g os A env own ns (eval k env) vs (upd σ a emptyDict) fun kv vs σ₁ => W prog w K g os A env own ns (eval v env) vs σ₁ fun vv vs σ₂ =>
      ∃ x t, kv = .str x t ∧ σ₂ a = some emptyDict ∧ ∀ o, DM prog w (fun y => if y = x then some vv else none) o → Q (.ref a) vs (upd σ₂ a o)) :
    W prog w K g os A env own ns (eval (.Dict [some k] [v] pos) env) vs σ Q := W_in fun s H F => by
  obtain ⟨hn, H₁, F₁⟩ := step_push H F (o := emptyDict) rfl
  refine wpAny_Dict_walk (knd := strKind prog w) rfl rfl (by simp) (by simp) ?_
  have nm := H.notMods (Nat.le_refl _)
  generalize s.heap.objs.size = D at *
  refine pairTrees_cons_walk ((h _ hn nm).go H₁ F₁ (fun kv s₁ _ _ H₂ F₂ h₂ => wpAny_mono (h₂.out _ H₂ F₂) (fun vv s₂ ⟨vs₂, σ₂, H₃, F₃, x, t, ek, eo, q⟩ => pairTrees_nil_walk ?_) fun _ _ e => e))
  subst ek
  refine ⟨[(x, vv)], ⟨strKind_is prog w x t, rfl, trivial⟩, ⟨_, #[], 0, H₃.led _ _ eo, ⟨rfl, rfl, rfl⟩, rfl, (fun _ he => by simp at he), Pairs.nil, List.nodup_nil⟩, fun h' hd hs => ?_⟩
  obtain ⟨o, ho, dm⟩ := DM.of hd.mapOf
  have C := Chg.set H₃.led eo hs ho
  refine ⟨_, _, H₃.chg C _, F₃.chg H₃ C, q o ?_⟩
  obtain ⟨es, ep, r1, r2, r3, r4⟩ := dm
  refine ⟨es, ep, r1, r2, r3, fun y => (r4 y).trans ?_⟩
  by_cases hy : y = x
  · subst hy; simp [merged, stored, valueAt]
  · have hy' : ¬ x = y := fun e => hy e.symm
    simp [merged, stored, valueAt, hy, hy']
theorem W_setItemD0 {d : Addr} {x : Str} {t : Tok} {v : Value} {Q : Unit → List (Option Value) → Led → Prop} (e : σ d = some emptyDict) (q : ∀ o, DM prog w (fun y => if y = x then some v else none) o → Q () vs (upd σ d o)) :
    W prog w K g os A env own ns (setItem (.ref d) (.str x t) v) vs σ Q := W_of fun s H F => by
  refine wpAny_setItem_of (knd := strKind prog w) (strKind_is prog w x t) ((DM.empty (prog := prog) (w := w)).at (H.led _ _ e)) (fun h' hm hs => ?_) (fun o es ep ho hd => ?_)
  · obtain ⟨o, ho, dm⟩ := DM.of hm
    exact ⟨_, h', _, rfl, Chg.set H.led e hs ho, q o dm⟩
  · rw [H.led _ _ e] at ho; cases ho; cases hd; exact Nat.zero_le _
theorem W_getItemD {value slice : Expr} {d : Addr} {o : Obj} {f : Str → Option Value} {x : Str} {t : Tok} {v : Value} {Q : ValQ} (e : σ d = some o) (dm : DM prog w f o) (hv : f x = some v) (q : Q v vs σ)
    (hs : subscripted slice false (.ref d) (.str x t) = operate [.ref d, .str x t] (getItem (.ref d) (.str x t)) := by with_unfolding_all rfl) : W prog w K g os A env own ns (subscriptTail value slice (.ref d) (.str x t)) vs σ Q := W_look fun s H F =>
  have hm := dm.at (H.led _ _ e)
  tail_any hm.typeIs slot_dict_getitem.lookup (wpAny_getItem_of (strKind_is prog w x t) hm hv ⟨⟨_, rfl⟩, q⟩) hs
theorem W_dictGet {o e : Expr} {apos pos : Pos} {Q : ValQ} (h : W prog w K g os A env own ns (eval o env) vs σ fun ov vs σ => ∃ d ob f, ov = .ref d ∧ σ d = some ob ∧ DM prog w f ob ∧ (d == sysModules) = false ∧ W prog w K g os A env own ns (eval e env) vs σ fun kv vs σ =>
      ∃ x t ob f, kv = .str x t ∧ σ d = some ob ∧ DM prog w f ob ∧ Q ((f x).getD .none) vs σ)
    (hbase : attributeBase o "get" env (eval o env) = eval o env := by with_unfolding_all rfl) (hline : (apos.endLine == pos.line) = true := by with_unfolding_all rfl) (he : backTo pos (starEach [e] env) = [(false, eval e env)] := by with_unfolding_all rfl) :
    W prog w K g os A env own ns (eval (.Call (.Attribute o "get" apos) [e] [] pos) env) vs σ Q := by
  refine W_meth hbase (by rw [he]; rfl) hline PySem.F.plainAttrs_dict PySem.F.slot_dict_get PySem.F.type_dict_get (W_mono h fun ov vs σ z => ?_)
  obtain ⟨d, ob, f, rfl, e1, dm, nm, h⟩ := z
  obtain ⟨es, ep, ⟨c1, c2, c3⟩, r⟩ := id dm
  refine ⟨d, ob, rfl, e1, c1, c2, ?_⟩
  rw [he]
  exact W_in fun s H F => wpAny_dict_get1 (knd := strKind prog w) nm (wpAny_mono (h.out s H F) (fun kv s₁ ⟨vs₁, σ₁, H₁, F₁, x, t, ob, f, ek, e2, dm₂, q⟩ => by
    subst ek
    exact ⟨x, f, strKind_is prog w x t, dm₂.at (H₁.led _ _ e2), vs₁, σ₁, H₁.tok _, F₁, q⟩) fun _ _ e => e)

/-! two names at once -/
theorem W_sUnpack2 {rest : List Stmt} {Q : FlowQ} {x y : Str} {p₁ p₂ tp pos : Pos} {k : Nat} {value : Expr} (hA : A.handled = none) (h : W prog w K g os A env own ns (eval value env) vs σ fun v vs σ => ∃ t a b n, v = .ref t ∧ σ t = some (tup [a, b] n) ∧
      ∃ vs₁ vs₂, Sto ns vs y .local b vs₁ ∧ Sto ns vs₁ x .local a vs₂ ∧ W prog w K g os A env own ns (execs rest env) vs₂ σ Q)
    (hs : swapsWithSole [.Tuple [.Name x p₁, .Name y p₂] k tp] value pos.line env = pure false := by with_unfolding_all rfl) (hw : swappedStores [.Tuple [.Name x p₁, .Name y p₂] k tp] value env = pure (some [x, y]) := by with_unfolding_all rfl) :
    W prog w K g os A env own ns (execs (.Assign [.Tuple [.Name x p₁, .Name y p₂] k tp] value pos :: rest) env) vs σ Q := W_cons <| W_in fun s H F => by
  refine Assign_Tuple_swapped (names := [x, y]) (wpAny_mono (h.out s H F) (fun v s₁ ⟨vs₁, σ₁, H₁, F₁, t, a, b, n, ev, e, vs₂, vs₃, h1, h2, q⟩ => ?_) fun _ _ e => e) hs hw
  subst ev
  refine unpackItems_tuple (items := [a, b].toArray) hA (isTup_of H₁.led e) fun h' he => ?_
  have C : Chg σ₁ s₁.heap σ₁ h' := ⟨fun b o n e => he _ _ (Nat.ne_of_lt (Heap.lt_size e)) e, fun b o e => he _ _ (Nat.ne_of_lt (Heap.lt_size (H₁.led _ _ e))) (H₁.led _ _ e), fun b o e n => by rw [n] at e; cases e⟩
  have H₂ := H₁.chg C s₁.toks
  have F₂ := F₁.chg H₁ C
  show wpAny _ A (assignInOrder [bindName env y, bindName env x] [b, a]) _ _ _
  unfold assignInOrder
  refine wpAny_bind (wpAny_holding (wpAny_bindName (wpAny_mono ((W_store (Q := fun _ vs' σ' => vs' = vs₂ ∧ σ' = σ₁) h1 (.inl rfl) ⟨rfl, rfl⟩).out _ H₂ F₂) (fun _ s₃ ⟨_, _, H₃, F₃, e1, e2⟩ => ?_) fun _ _ e => e.elim)))
  subst e1 e2
  unfold assignInOrder
  refine wpAny_bind (wpAny_holding (wpAny_bindName (wpAny_mono ((W_store (Q := fun _ vs' σ' => vs' = vs₃ ∧ σ' = _) h2 (.inl rfl) ⟨rfl, rfl⟩).out _ H₃ F₃) (fun _ s₄ ⟨_, _, H₄, F₄, e1, e2⟩ => ?_) fun _ _ e => e.elim)))
  subst e1 e2
  exact wpAny_pure ⟨_, _, H₄, F₄, q⟩
end TextMW7
noncomputable section TextMW8
variable {prog : Program} {w : World} {K : Frag} {g : Led} {os : OsState} {A : Around} {env : Env} {own : Bool} {ns : List (Str × NameKind)} {vs : List (Option Value)} {σ : Led}

theorem bex {c : Bool} {P : Bool → Prop} (h : P c) : ∃ b, Value.bool c = .bool b ∧ P b := ⟨c, rfl, h⟩
theorem br_t {X Y : Prop} (h : X) : (true = true → X) ∧ (true = false → Y) := ⟨fun _ => h, fun e => nomatch e⟩
theorem br_f {X Y : Prop} (h : Y) : (false = true → X) ∧ (false = false → Y) := ⟨fun e => (nomatch e), fun _ => h⟩
theorem br_d {p X Y : Prop} [Decidable p] (h : p → X) (h' : ¬ p → Y) : (decide p = true → X) ∧ (decide p = false → Y) := ⟨fun e => h (of_decide_eq_true e), fun e => h' (of_decide_eq_false e)⟩
theorem br_e {a b : Int} {X Y : Prop} (h : a = b → X) (h' : a ≠ b → Y) : ((a == b) = true → X) ∧ ((a == b) = false → Y) := ⟨fun e => h (beq_iff_eq.mp e), fun e => h' (beq_eq_false_iff_ne.mp e)⟩
theorem br_n {a b : Int} {X Y : Prop} (h : a ≠ b → X) (h' : a = b → Y) : ((a != b) = true → X) ∧ ((a != b) = false → Y) := ⟨fun e => h (bne_iff_ne.mp e), fun e => h' (by simpa using e)⟩
section
variable {a b : Addr} {i : Int} {t : Tok} {x : Str} {c : Bool} {Q : ValQ}
theorem W_isN_n (q : Q (.bool true) vs σ) : W prog w K g os A env own ns (compareOp .Is .none .none) vs σ Q := W_isNone q
theorem W_isN_r (q : Q (.bool false) vs σ) : W prog w K g os A env own ns (compareOp .Is (.ref a) .none) vs σ Q := W_isNone q
theorem W_isN_i (q : Q (.bool false) vs σ) : W prog w K g os A env own ns (compareOp .Is (.int i t) .none) vs σ Q := W_isNone q
theorem W_isN_s (q : Q (.bool false) vs σ) : W prog w K g os A env own ns (compareOp .Is (.str x t) .none) vs σ Q := W_isNone q
theorem W_isN_b (q : Q (.bool false) vs σ) : W prog w K g os A env own ns (compareOp .Is (.bool c) .none) vs σ Q := W_isNone q
theorem W_isNN_n (q : Q (.bool false) vs σ) : W prog w K g os A env own ns (compareOp .IsNot .none .none) vs σ Q := W_isNotNone q
theorem W_isNN_r (q : Q (.bool true) vs σ) : W prog w K g os A env own ns (compareOp .IsNot (.ref a) .none) vs σ Q := W_isNotNone q
theorem W_isNN_i (q : Q (.bool true) vs σ) : W prog w K g os A env own ns (compareOp .IsNot (.int i t) .none) vs σ Q := W_isNotNone q
theorem W_isNN_s (q : Q (.bool true) vs σ) : W prog w K g os A env own ns (compareOp .IsNot (.str x t) .none) vs σ Q := W_isNotNone q
end
/-- x and y as a value -/
theorem W_and2 {x y : Expr} {pos : Pos} {Q : ValQ} (h : W prog w K g os A env own ns (eval x env) vs σ fun v vs σ => W prog w K g os A env own ns (truthy v) vs σ fun b vs σ => (b = true → W prog w K g os A env own ns (eval y env) vs σ Q) ∧ (b = false → Q v vs σ)) :
    W prog w K g os A env own ns (eval (.BoolOp .And [x, y] pos) env) vs σ Q :=
  W_in fun s H F => wpAny_And2 (h.go H F (fun v _ _ _ H' F' q => q.go H' F' (fun b _ vs₂ σ₂ H₂ F₂ q₂ => by
    cases b with
    | true => exact (q₂.1 rfl).out _ H₂ F₂
    | false => exact ⟨vs₂, σ₂, H₂, F₂, q₂.2 rfl⟩)))

/-! equality of data -/
def RD (σ : Led) (v : Value) (d : PyData) : Prop := ∀ h : Heap, (∀ a o, σ a = some o → h.get? a = some o) → ∃ as, Reads h v d as
theorem W_eqD {a b : Value} {da db : PyData} {Q : ValQ} (ra : RD σ a da) (rb : RD σ b db) (ha : shaped da = true) (hb : shaped db = true) (hu : A.units + 64 < cLine) (q : Q (.bool (PyData.eqv da db)) vs σ) :
    W prog w K g os A env own ns (compareOp .Eq a b) vs σ Q := W_look fun s H F => by
  obtain ⟨as, r1⟩ := ra _ H.led
  obtain ⟨bs, r2⟩ := rb _ H.led
  exact eq_dataH r1 r2 ha hb hu ⟨⟨_, rfl⟩, q⟩
theorem W_neD {a b : Value} {da db : PyData} {Q : ValQ} (ra : RD σ a da) (rb : RD σ b db) (ha : shaped da = true) (hb : shaped db = true) (hu : A.units + 64 < cLine) (q : Q (.bool (!PyData.eqv da db)) vs σ) :
    W prog w K g os A env own ns (compareOp .NotEq a b) vs σ Q := W_look fun s H F => by
  obtain ⟨as, r1⟩ := ra _ H.led
  obtain ⟨bs, r2⟩ := rb _ H.led
  exact ne_dataH r1 r2 ha hb hu ⟨⟨_, rfl⟩, q⟩
theorem RD.none : RD σ .none .none := fun _ _ => ⟨_, .none⟩
theorem RD.int {i : Int} {t : Tok} : RD σ (.int i t) (.int i) := fun _ _ => ⟨_, .int _ _⟩
theorem RD.str {x : Str} {t : Tok} : RD σ (.str x t) (.str x) := fun _ _ => ⟨_, .str _ _⟩
inductive RDs (σ : Led) : List Value → List PyData → Prop
  | nil : RDs σ [] []
  | cons {v d vs ds} : RD σ v d → RDs σ vs ds → RDs σ (v :: vs) (d :: ds)
theorem RDs.all {vs ds} (r : RDs σ vs ds) (h : Heap) (hl : ∀ a o, σ a = some o → h.get? a = some o) : ∃ as, ReadsAll h vs ds as := by
  induction r with
  | nil => exact ⟨_, .nil⟩
  | cons r _ ih =>
    obtain ⟨_, x⟩ := r h hl
    obtain ⟨_, y⟩ := ih
    exact ⟨_, .cons x y⟩
theorem RD.list {a : Addr} {l : List Value} {n : Nat} {ds : List PyData} (e : σ a = some (lst l n)) (r : RDs σ l ds) : RD σ (.ref a) (.list ds) := fun h hl => by
  obtain ⟨as, x⟩ := r.all h hl
  exact ⟨_, .list (hl _ _ e) rfl rfl x⟩
theorem RD.tuple {a : Addr} {l : List Value} {n : Nat} {ds : List PyData} (e : σ a = some (tup l n)) (r : RDs σ l ds) : RD σ (.ref a) (.tuple ds) := fun h hl => by
  obtain ⟨as, x⟩ := r.all h hl
  exact ⟨_, .tuple (hl _ _ e) rfl rfl x⟩
end TextMW8
section TextD1
/-! the plain data -/
inductive Kd | int | log | dbl | chr
  deriving DecidableEq
inductive It | na | int (i : Int) | str (s : Str) | dbl (n d : Int)
structure Vec where
  kd : Kd
  items : List It
def kname : Kd → Str
  | .int => Str.ofString "integer"
  | .log => Str.ofString "logical"
  | .dbl => Str.ofString "double"
  | .chr => Str.ofString "character"
/-- an item of this kind -/
def ItOk : Kd → It → Prop
  | _, .na => True
  | .int, .int _ => True
  | .log, .int _ => True
  | .dbl, .dbl n d => (n, d) ∈ [((0 : Int), (1 : Int)), (1, 2), (-5, 3), (1, 0), (0, 0), (-1, 0)]
  | .chr, .str _ => True
  | _, _ => False
def lack : Kd → It → Bool
  | _, .na => true
  | .dbl, .dbl n d => n == 0 && d == 0
  | _, _ => false
def sgn (a b : Int) : Int := if a < b then -1 else if b < a then 1 else 0
/-- the two sides that compare lays against each other -/
def dblL (n d n₂ d₂ : Int) : Int := if d = 0 ∧ d₂ = 0 then n else if d = 0 then n else if d₂ = 0 then 0 else n * d₂
def dblR (n d n₂ d₂ : Int) : Int := if d = 0 ∧ d₂ = 0 then n₂ else if d = 0 then 0 else if d₂ = 0 then n₂ else n₂ * d
def cmpI : It → It → Int
  | .int a, .int b => sgn a b
  | .str a, .str b => if a.cps.toList < b.cps.toList then -1 else if b.cps.toList < a.cps.toList then 1 else 0
  | .dbl n d, .dbl n₂ d₂ => sgn (dblL n d n₂ d₂) (dblR n d n₂ d₂)
  | _, _ => 0
def cmpL (kd : Kd) (a b : It) (dec last : Bool) : Int :=
  if lack kd a then (if lack kd b then 0 else if last then 1 else -1) else if lack kd b then (if last then -1 else 1) else if dec then - cmpI a b else cmpI a b
def Vec.at (V : Vec) (i : Nat) : It := V.items.getD i .na
def cmpP (V : Vec) (i j : Nat) (dec last : Bool) : Int := cmpL V.kd (V.at i) (V.at j) dec last
def cmpK : List (Vec × Bool) → Nat → Nat → Bool → Int
  | [], _, _, _ => 0
  | (V, dec) :: r, i, j, last => if cmpP V i j dec last = 0 then cmpK r i j last else cmpP V i j dec last
def mrg (c : Nat → Nat → Int) (l r : List Nat) : List Nat := List.merge l r fun a b => decide (c a b ≤ 0)
def pass (c : Nat → Nat → Int) : List (List Nat) → List (List Nat)
  | a :: b :: r => mrg c a b :: pass c r
  | r => r
def passes (c : Nat → Nat → Int) : Nat → List (List Nat) → List (List Nat)
  | 0, r => r
  | n + 1, r => pass c (passes c n r)
/-- sorted by c, equals in the order of their places -/
def Srt (c : Nat → Nat → Int) (ps r : List Nat) : Prop := r.Perm ps ∧ r.Pairwise fun a b => c a b < 0 ∨ (c a b = 0 ∧ a < b)
end TextD1
noncomputable section TextPL1
/-! the plain law: sorting -/
structure PO (c : Nat → Nat → Int) : Prop where
  anti : ∀ a b, c b a = - c a b
  trans : ∀ a b d, c a b ≤ 0 → c b d ≤ 0 → c a d ≤ 0
def Lt (c : Nat → Nat → Int) (a b : Nat) : Prop := c a b < 0 ∨ (c a b = 0 ∧ a < b)
theorem Srt.iff {c : Nat → Nat → Int} {ps r : List Nat} : Srt c ps r ↔ r.Perm ps ∧ r.Pairwise (Lt c) := Iff.rfl
theorem PO.self {c : Nat → Nat → Int} (P : PO c) (a : Nat) : c a a = 0 := by have := P.anti a a; omega
theorem PO.trans0 {c : Nat → Nat → Int} (P : PO c) {a b d : Nat} (h1 : c a b = 0) (h2 : c b d = 0) : c a d = 0 := by
  have x1 := P.trans a b d (by omega) (by omega)
  have x2 := P.trans d b a (by have := P.anti b d; omega) (by have := P.anti a b; omega)
  have := P.anti a d
  omega
theorem PO.transL {c : Nat → Nat → Int} (P : PO c) {a b d : Nat} (h1 : c a b < 0) (h2 : c b d ≤ 0) : c a d < 0 := by
  have x1 := P.trans a b d (by omega) h2
  rcases Int.lt_or_eq_of_le x1 with h | h
  · exact h
  · have x2 := P.trans b d a h2 (by have := P.anti a d; omega)
    have := P.anti a b
    omega
theorem PO.transR {c : Nat → Nat → Int} (P : PO c) {a b d : Nat} (h1 : c a b ≤ 0) (h2 : c b d < 0) : c a d < 0 := by
  have x1 := P.trans a b d h1 (by omega)
  rcases Int.lt_or_eq_of_le x1 with h | h
  · exact h
  · have x2 := P.trans d a b (by have := P.anti a d; omega) h1
    have := P.anti b d
    omega
theorem Lt.trans {c : Nat → Nat → Int} (P : PO c) {a b d : Nat} (h1 : Lt c a b) (h2 : Lt c b d) : Lt c a d := by
  rcases h1 with h1 | ⟨h1, l1⟩ <;> rcases h2 with h2 | ⟨h2, l2⟩
  · exact .inl (P.transL h1 (by omega))
  · exact .inl (P.transL h1 (by omega))
  · exact .inl (P.transR (by omega) h2)
  · exact .inr ⟨P.trans0 h1 h2, by omega⟩
theorem Lt.irrefl {c : Nat → Nat → Int} (P : PO c) {a : Nat} (h : Lt c a a) : False := by
  rcases h with h | ⟨_, h⟩
  · have := P.self a; omega
  · omega
theorem Lt.asymm {c : Nat → Nat → Int} (P : PO c) {a b : Nat} (h : Lt c a b) (h' : Lt c b a) : False := Lt.irrefl P (h.trans P h')
/-- two sorted arrangements of the same places are one -/
theorem pairwise_unique {c : Nat → Nat → Int} (P : PO c) : ∀ {r r' : List Nat}, r.Perm r' → r.Pairwise (Lt c) → r'.Pairwise (Lt c) → r = r'
  | [], r', h, _, _ => (List.Perm.nil_eq h)
  | a :: r, [], h, _, _ => by have := h.length_eq; simp at this
  | a :: r, b :: r', h, h1, h2 => by
    have e : a = b := by
      by_cases hab : a = b
      · exact hab
      · have hb : b ∈ a :: r := h.symm.subset (List.mem_cons_self ..)
        have ha : a ∈ b :: r' := h.subset (List.mem_cons_self ..)
        have hb' : b ∈ r := by
          rcases List.mem_cons.mp hb with e | e
          · exact absurd e.symm hab
          · exact e
        have ha' : a ∈ r' := by
          rcases List.mem_cons.mp ha with e | e
          · exact absurd e hab
          · exact e
        exact ((List.rel_of_pairwise_cons h1 hb').asymm P (List.rel_of_pairwise_cons h2 ha')).elim
    subst e
    rw [pairwise_unique P (List.Perm.cons_inv h) h1.of_cons h2.of_cons]
theorem Srt.unique {c : Nat → Nat → Int} (P : PO c) {ps r r' : List Nat} (h : Srt c ps r) (h' : Srt c ps r') : r = r' := pairwise_unique P (h.1.trans h'.1.symm) h.2 h'.2
theorem mrg_perm (c : Nat → Nat → Int) (l r : List Nat) : (mrg c l r).Perm (l ++ r) := List.merge_perm_append _
theorem mrg_lt {c : Nat → Nat → Int} (P : PO c) : ∀ {l r : List Nat}, l.Pairwise (Lt c) → r.Pairwise (Lt c) → (∀ a ∈ l, ∀ b ∈ r, a < b) → (mrg c l r).Pairwise (Lt c)
  | [], r, _, h, _ => by unfold mrg; rw [List.nil_merge]; exact h
  | a :: l, [], h, _, _ => by unfold mrg; rw [List.merge_right]; exact h
  | a :: l, b :: r, h1, h2, h3 => by
    have hab : a < b := h3 a (List.mem_cons_self ..) b (List.mem_cons_self ..)
    unfold mrg
    rw [List.cons_merge_cons]
    split
    · rename_i h
      have h : c a b ≤ 0 := of_decide_eq_true h
      have ab : Lt c a b := by
        rcases Int.lt_or_eq_of_le h with h | h
        · exact .inl h
        · exact .inr ⟨h, hab⟩
      refine List.pairwise_cons.mpr ⟨fun x hx => ?_, mrg_lt P h1.of_cons h2 fun x hx y hy => h3 x (List.mem_cons_of_mem _ hx) y hy⟩
      rcases List.mem_append.mp ((mrg_perm c l (b :: r)).subset hx) with hx | hx
      · exact List.rel_of_pairwise_cons h1 hx
      · rcases List.mem_cons.mp hx with rfl | hx
        · exact ab
        · exact ab.trans P (List.rel_of_pairwise_cons h2 hx)
    · rename_i h
      have h : ¬ c a b ≤ 0 := fun e => h (decide_eq_true e)
      have ba : Lt c b a := .inl (by have := P.anti a b; omega)
      refine List.pairwise_cons.mpr ⟨fun x hx => ?_, mrg_lt P h1 h2.of_cons fun x hx y hy => h3 x hx y (List.mem_cons_of_mem _ hy)⟩
      rcases List.mem_append.mp ((mrg_perm c (a :: l) r).subset hx) with hx | hx
      · rcases List.mem_cons.mp hx with rfl | hx
        · exact ba
        · exact ba.trans P (List.rel_of_pairwise_cons h1 hx)
      · exact List.rel_of_pairwise_cons h2 hx
/-- runs in their blocks -/
def Runs (c : Nat → Nat → Int) (rs : List (List Nat)) : Prop := (∀ r ∈ rs, r.Pairwise (Lt c)) ∧ rs.Pairwise fun x y => ∀ a ∈ x, ∀ b ∈ y, a < b
theorem pass_ok {c : Nat → Nat → Int} (P : PO c) : ∀ {rs : List (List Nat)}, Runs c rs → Runs c (pass c rs) ∧ (pass c rs).flatten.Perm rs.flatten ∧ ∀ x ∈ pass c rs, ∀ a ∈ x, ∃ y ∈ rs, a ∈ y
  | [], h => ⟨h, .refl _, fun x hx => nomatch hx⟩
  | [a], h => ⟨h, .refl _, fun x hx a ha => ⟨x, hx, ha⟩⟩
  | x :: y :: rs, ⟨h1, h2⟩ => by
    obtain ⟨⟨i1, i2⟩, i3, i4⟩ := pass_ok P (rs := rs) ⟨fun r hr => h1 r (List.mem_cons_of_mem _ (List.mem_cons_of_mem _ hr)), h2.of_cons.of_cons⟩
    have hxy := List.rel_of_pairwise_cons h2 (List.mem_cons_self ..)
    have mem : ∀ a ∈ mrg c x y, a ∈ x ∨ a ∈ y := fun a ha => List.mem_append.mp ((mrg_perm c x y).subset ha)
    refine ⟨⟨fun r hr => ?_, List.pairwise_cons.mpr ⟨fun z hz a ha b hb => ?_, i2⟩⟩, ?_, fun z hz a ha => ?_⟩
    · rcases List.mem_cons.mp hr with rfl | hr
      · exact mrg_lt P (h1 x (List.mem_cons_self ..)) (h1 y (List.mem_cons_of_mem _ (List.mem_cons_self ..))) hxy
      · exact i1 r hr
    · obtain ⟨q, hq, hb'⟩ := i4 z hz b hb
      rcases mem a ha with ha | ha
      · exact List.rel_of_pairwise_cons h2 (List.mem_cons_of_mem _ hq) a ha b hb'
      · exact List.rel_of_pairwise_cons h2.of_cons hq a ha b hb'
    · show (mrg c x y ++ (pass c rs).flatten).Perm (x ++ (y ++ rs.flatten))
      rw [← List.append_assoc]
      exact (mrg_perm c x y).append i3
    · rcases List.mem_cons.mp hz with rfl | hz
      · rcases mem a ha with ha | ha
        · exact ⟨x, List.mem_cons_self .., ha⟩
        · exact ⟨y, List.mem_cons_of_mem _ (List.mem_cons_self ..), ha⟩
      · obtain ⟨q, hq, h⟩ := i4 z hz a ha
        exact ⟨q, List.mem_cons_of_mem _ (List.mem_cons_of_mem _ hq), h⟩
theorem passes_ok {c : Nat → Nat → Int} (P : PO c) {ps : List Nat} (hp : ps.Pairwise (· < ·)) : ∀ n, Runs c (passes c n (ps.map fun p => [p])) ∧ (passes c n (ps.map fun p => [p])).flatten.Perm ps
  | 0 => by
    refine ⟨⟨fun r hr => ?_, ?_⟩, ?_⟩
    · obtain ⟨p, _, rfl⟩ := List.mem_map.mp hr
      exact List.pairwise_singleton _ _
    · show (ps.map fun p => [p]).Pairwise _
      rw [List.pairwise_map]
      exact hp.imp fun {a b} h x hx y hy => by
        rw [List.mem_singleton] at hx hy; subst hx hy; exact h
    · show (ps.map fun p => [p]).flatten.Perm ps
      have : (ps.map fun p => [p]).flatten = ps := by
        induction ps with
        | nil => rfl
        | cons a r ih => rw [List.map_cons, List.flatten_cons, ih hp.of_cons]; rfl
      rw [this]
  | n + 1 => by
    obtain ⟨i1, i2⟩ := passes_ok P hp n
    obtain ⟨j1, j2, _⟩ := pass_ok P i1
    exact ⟨j1, j2.trans i2⟩
theorem passes_srt {c : Nat → Nat → Int} (P : PO c) {ps : List Nat} (hp : ps.Pairwise (· < ·)) {n : Nat} {r : List Nat} (h : passes c n (ps.map fun p => [p]) = [r]) : Srt c ps r := by
  obtain ⟨i1, i2⟩ := passes_ok P hp n
  rw [h] at i1 i2
  refine ⟨?_, i1.1 r (List.mem_cons_self ..)⟩
  simpa using i2
theorem pass_length (c : Nat → Nat → Int) : ∀ rs : List (List Nat), (pass c rs).length = (rs.length + 1) / 2
  | [] => rfl
  | [_] => by show 1 = (1 + 1) / 2; decide
  | a :: b :: r => by
    show (pass c r).length + 1 = _
    rw [pass_length c r]
    simp only [List.length_cons]
    omega
/-- one round of the sort by the last key first -/
theorem lsd {c₀ c cp : Nat → Nat → Int} {n : Nat} {spots inner : List Nat} (h : Srt c (List.range n) spots) (hc : ∀ i j, i < n → j < n → cp i j = c₀ (spots.getD i 0) (spots.getD j 0)) (hi : Srt cp (List.range n) inner) :
    Srt (fun a b => if c₀ a b = 0 then c a b else c₀ a b) (List.range n) (inner.map fun i => spots.getD i 0) := by
  have hl : spots.length = n := by have := h.1.length_eq; simpa using this
  have lt : ∀ i ∈ inner, i < n := fun i hm => List.mem_range.mp (hi.1.subset hm)
  refine ⟨?_, ?_⟩
  · have e : (List.range n).map (fun i => spots.getD i 0) = spots := by
      apply List.ext_getElem
      · simp [hl]
      · intro k h1 h2
        simp [List.getD, List.getElem?_eq_getElem (by omega : k < spots.length)]
    have hm := hi.1.map fun i => spots.getD i 0
    rw [e] at hm
    exact hm.trans h.1
  · rw [List.pairwise_map]
    refine hi.2.imp_of_mem fun {a b} ha hb hab => ?_
    have la := lt a ha
    have lb := lt b hb
    rw [hc a b la lb] at hab
    rcases hab with hab | ⟨hab, l⟩
    · left
      have hne : ¬ c₀ (spots.getD a 0) (spots.getD b 0) = 0 := by omega
      show (if c₀ (spots.getD a 0) (spots.getD b 0) = 0 then _ else _) < 0
      rw [if_neg hne]; exact hab
    · have := List.pairwise_iff_getElem.mp h.2 a b (by omega) (by omega) l
      simp only [List.getD, List.getElem?_eq_getElem (by omega : a < spots.length), List.getElem?_eq_getElem (by omega : b < spots.length), Option.getD_some] at hab ⊢
      simp only [hab, if_true]
      exact this
end TextPL1
noncomputable section TextPL2
theorem sgn_anti (a b : Int) : sgn b a = - sgn a b := by unfold sgn; split <;> split <;> omega
theorem sgn_trans {a b d : Int} (h1 : sgn a b ≤ 0) (h2 : sgn b d ≤ 0) : sgn a d ≤ 0 := by
  unfold sgn at *; split at h1 <;> split at h2 <;> split <;> omega
theorem lt3 (a b : List Nat) : a < b ∨ a = b ∨ b < a := by
  by_cases h : a < b
  · exact .inl h
  · by_cases h' : b < a
    · exact .inr (.inr h')
    · exact .inr (.inl (List.le_antisymm h' h))
def dbls : List (Int × Int) := [((0 : Int), (1 : Int)), (1, 2), (-5, 3), (1, 0), (0, 0), (-1, 0)]
theorem dbl_anti : ∀ p ∈ dbls, ∀ q ∈ dbls, ¬ (p = (0, 0)) → ¬ (q = (0, 0)) → sgn (dblL q.1 q.2 p.1 p.2) (dblR q.1 q.2 p.1 p.2) = - sgn (dblL p.1 p.2 q.1 q.2) (dblR p.1 p.2 q.1 q.2) := by decide +kernel
theorem dbl_trans : ∀ p ∈ dbls, ∀ q ∈ dbls, ∀ r ∈ dbls, ¬ (p = (0, 0)) → ¬ (q = (0, 0)) → ¬ (r = (0, 0)) → sgn (dblL p.1 p.2 q.1 q.2) (dblR p.1 p.2 q.1 q.2) ≤ 0 → sgn (dblL q.1 q.2 r.1 r.2) (dblR q.1 q.2 r.1 r.2) ≤ 0 → sgn (dblL p.1 p.2 r.1 r.2) (dblR p.1 p.2 r.1 r.2) ≤ 0 := by decide +kernel
theorem dbl_lack {n d : Int} (h : lack .dbl (.dbl n d) = false) : ¬ ((n, d) = ((0 : Int), (0 : Int))) := by
  intro e; cases e; cases h
/-- an item that is not lacking -/
inductive Full : Kd → It → Prop
  | int (i : Int) : Full .int (.int i)
  | log (i : Int) : Full .log (.int i)
  | chr (s : Str) : Full .chr (.str s)
  | dbl (n d : Int) : (n, d) ∈ dbls → ¬ ((n, d) = ((0 : Int), (0 : Int))) → Full .dbl (.dbl n d)
theorem full_of {kd : Kd} {a : It} (h : ItOk kd a) (hl : lack kd a = false) : Full kd a := by
  cases a with
  | na => cases kd <;> cases hl
  | int i => cases kd <;> first | exact .int i | exact .log i | exact h.elim
  | str s => cases kd <;> first | exact .chr s | exact h.elim
  | dbl n d => cases kd <;> first | exact h.elim | exact .dbl n d h (dbl_lack hl)
theorem cmpI_anti {kd : Kd} {a b : It} (ha : Full kd a) (hb : Full kd b) : cmpI b a = - cmpI a b := by
  cases ha <;> cases hb
  · exact sgn_anti _ _
  · exact sgn_anti _ _
  · rename_i s t
    show (if t.cps.toList < s.cps.toList then (-1 : Int) else if s.cps.toList < t.cps.toList then 1 else 0) = - (if s.cps.toList < t.cps.toList then (-1 : Int) else if t.cps.toList < s.cps.toList then 1 else 0)
    rcases lt3 s.cps.toList t.cps.toList with h | h | h
    · rw [if_neg (List.lt_asymm h), if_pos h, if_pos h]; rfl
    · rw [h]; simp [List.lt_irrefl]
    · rw [if_pos h, if_neg (List.lt_asymm h), if_pos h]
  · rename_i h1 h2 _ _ h3 h4
    exact dbl_anti _ h1 _ h3 h2 h4
theorem cmpI_trans {kd : Kd} {a b d : It} (ha : Full kd a) (hb : Full kd b) (hd : Full kd d) (h1 : cmpI a b ≤ 0) (h2 : cmpI b d ≤ 0) : cmpI a d ≤ 0 := by
  cases ha <;> cases hb <;> cases hd
  · exact sgn_trans h1 h2
  · exact sgn_trans h1 h2
  · rename_i s t u
    have le : ∀ x y : Str, (if x.cps.toList < y.cps.toList then (-1 : Int) else if y.cps.toList < x.cps.toList then 1 else 0) ≤ 0 ↔ ¬ y.cps.toList < x.cps.toList := fun x y => by
      rcases lt3 x.cps.toList y.cps.toList with h | h | h
      · rw [if_pos h]; exact ⟨fun _ => List.lt_asymm h, fun _ => by decide⟩
      · rw [h]; simp [List.lt_irrefl]
      · rw [if_neg (List.lt_asymm h), if_pos h]; exact ⟨fun q => absurd q (by decide), fun q => absurd h q⟩
    have h1 := (le s t).mp h1
    have h2 := (le t u).mp h2
    refine (le s u).mpr fun h => ?_
    exact List.le_trans (l₁ := s.cps.toList) (l₂ := t.cps.toList) (l₃ := u.cps.toList) h1 h2 h
  · rename_i h1' h2' _ _ h3' h4' _ _ h5 h6
    exact dbl_trans _ h1' _ h3' _ h5 h2' h4' h6 h1 h2
theorem cmpL_anti {kd : Kd} {a b : It} (dec last : Bool) (ha : ItOk kd a) (hb : ItOk kd b) : cmpL kd b a dec last = - cmpL kd a b dec last := by
  unfold cmpL
  cases la : lack kd a <;> cases lb : lack kd b
  · have := cmpI_anti (full_of ha la) (full_of hb lb)
    cases dec <;> simp [this]
  · cases last <;> simp
  · cases last <;> simp
  · simp
theorem cmpL_trans {kd : Kd} {a b d : It} (dec last : Bool) (ha : ItOk kd a) (hb : ItOk kd b) (hd : ItOk kd d) (h1 : cmpL kd a b dec last ≤ 0) (h2 : cmpL kd b d dec last ≤ 0) : cmpL kd a d dec last ≤ 0 := by
  unfold cmpL at *
  cases la : lack kd a <;> cases lb : lack kd b <;> cases ld : lack kd d <;> rw [la, lb] at h1 <;> rw [lb, ld] at h2 <;> cases last <;> simp at h1 h2 ⊢
  all_goals
    cases dec
    · simp at h1 h2 ⊢
      exact cmpI_trans (full_of ha la) (full_of hb lb) (full_of hd ld) h1 h2
    · simp at h1 h2 ⊢
      have e1 := cmpI_anti (full_of ha la) (full_of hb lb)
      have e2 := cmpI_anti (full_of hb lb) (full_of hd ld)
      have e3 := cmpI_anti (full_of ha la) (full_of hd ld)
      have := cmpI_trans (full_of hd ld) (full_of hb lb) (full_of ha la) (by omega) (by omega)
      omega
def VecOk (V : Vec) : Prop := ∀ it ∈ V.items, ItOk V.kd it
theorem VecOk.at {V : Vec} (h : VecOk V) (i : Nat) : ItOk V.kd (V.at i) := by
  unfold Vec.at
  rw [List.getD]
  cases q : V.items[i]? with
  | none => cases V.kd <;> trivial
  | some it => exact h it (List.mem_of_getElem? q)
theorem cmpP_po {V : Vec} (h : VecOk V) (dec last : Bool) : PO fun i j => cmpP V i j dec last :=
  ⟨fun a b => cmpL_anti dec last (h.at a) (h.at b), fun a b d h1 h2 => cmpL_trans dec last (h.at a) (h.at b) (h.at d) h1 h2⟩
/-- first by the one, then by the other -/
theorem PO.lex {c₀ c : Nat → Nat → Int} (P₀ : PO c₀) (P : PO c) : PO fun a b => if c₀ a b = 0 then c a b else c₀ a b := by
  refine ⟨fun a b => ?_, fun a b d h1 h2 => ?_⟩
  · have e1 := P₀.anti a b
    have e2 := P.anti a b
    split <;> split <;> omega
  · skip
    have t0 := @PO.trans0 c₀ P₀ a b d
    have tL := @PO.transL c₀ P₀ a b d
    have tR := @PO.transR c₀ P₀ a b d
    have t := P.trans a b d
    split at h1 <;> split at h2 <;> split <;> first | omega | skip
    all_goals first | (have := t0 (by assumption) (by assumption); omega) | (have := tL (by omega) (by omega); omega) | (have := tR (by omega) (by omega); omega)
theorem cmpK_po (last : Bool) : ∀ {ks : List (Vec × Bool)}, (∀ k ∈ ks, VecOk k.1) → PO fun i j => cmpK ks i j last
  | [], _ => ⟨fun _ _ => rfl, fun _ _ _ _ _ => Int.le_refl _⟩
  | (V, dec) :: r, h => PO.lex (cmpP_po (h _ (List.mem_cons_self ..)) dec last) (cmpK_po last fun k hk => h k (List.mem_cons_of_mem _ hk))
end TextPL2
section TextT1
def one : Str := Str.ofString "a"
theorem one_eq : one = one := rfl
name_quick tw15514242108324955073 for Mine.one by Mine.one_eq
name_quick tw8075568018651887793 for Mine.one by Mine.one_eq
name_quick tw2874504208813169126 for Mine.one by Mine.one_eq
name_quick tw11928943613172570416 for Mine.one by Mine.one_eq
name_quick tw14979626087600564940 for Mine.one by Mine.one_eq
name_quick tw1309107185065388718 for Mine.one by Mine.one_eq
name_quick tw1051571026272145596 for Mine.one by Mine.one_eq
name_quick tw4067349750366427359 for Mine.one by Mine.one_eq
name_quick tw16573998221262416630 for Mine.one by Mine.one_eq
name_quick tw9376109419431680627 for Mine.one by Mine.one_eq
name_quick tw5732905514179830355 for Mine.one by Mine.one_eq
name_quick tw17207729816335089435 for Mine.one by Mine.one_eq
name_quick tw17428874351420789250 for Mine.one by Mine.one_eq
name_quick tw15766043655864335149 for Mine.one by Mine.one_eq
name_quick tw9136488742655976645 for Mine.one by Mine.one_eq
name_quick tw12700139031502230420 for Mine.one by Mine.one_eq
name_quick tw5131478536388391638 for Mine.one by Mine.one_eq
name_quick tw505943868828395459 for Mine.one by Mine.one_eq
name_quick tw183835017167291270 for Mine.one by Mine.one_eq
name_quick tw5529568453561195837 for Mine.one by Mine.one_eq
name_quick tw11566699232636054958 for Mine.one by Mine.one_eq
name_quick tw15323854079317868165 for Mine.one by Mine.one_eq
name_quick tw932993149863042379 for Mine.one by Mine.one_eq
name_quick tw11788150170368784547 for Mine.one by Mine.one_eq
name_quick tw2611137233208623240 for Mine.one by Mine.one_eq
name_quick tw14530364306720264245 for Mine.one by Mine.one_eq
name_quick tw15560500314895047343 for Mine.one by Mine.one_eq
name_quick tw16487347958798203451 for Mine.one by Mine.one_eq
name_quick tw7401281599722004195 for Mine.one by Mine.one_eq
name_quick tw4319705520415482375 for Mine.one by Mine.one_eq
name_quick tw6817277305950994716 for Mine.one by Mine.one_eq
name_quick tw9594665118957945026 for Mine.one by Mine.one_eq
name_quick tw1574873078441994576 for Mine.one by Mine.one_eq
name_quick tw17846936440860909165 for Mine.one by Mine.one_eq
name_quick tw4075660801711882420 for Mine.one by Mine.one_eq
name_quick tw9529234661008812162 for Mine.one by Mine.one_eq
name_quick tw4011157648589011858 for Mine.one by Mine.one_eq
name_quick tw14073706353221006472 for Mine.one by Mine.one_eq
name_quick tw3442601649717412197 for Mine.one by Mine.one_eq
name_quick tw12392613427281201732 for Mine.one by Mine.one_eq
name_quick tw13254397897704925713 for Mine.one by Mine.one_eq
name_quick tw11625766737575182897 for Mine.one by Mine.one_eq
name_quick tw12832477231654346042 for Mine.one by Mine.one_eq
name_quick tw8032284361305108907 for Mine.one by Mine.one_eq
name_quick tw4407734736301137906 for Mine.one by Mine.one_eq
name_quick tw17057272898397164401 for Mine.one by Mine.one_eq
name_quick tw117213463901210413 for Mine.one by Mine.one_eq
name_quick tw6683783046931543321 for Mine.one by Mine.one_eq
name_quick tw15450981722951097364 for Mine.one by Mine.one_eq
name_quick tw1962928258387122110 for Mine.one by Mine.one_eq
name_quick tw10317580896714288900 for Mine.one by Mine.one_eq
name_quick tw12172078356533094185 for Mine.one by Mine.one_eq
name_quick tw5396446701170858492 for Mine.one by Mine.one_eq
name_quick tw5721027456603625697 for Mine.one by Mine.one_eq
name_quick tw3698559305507148144 for Mine.one by Mine.one_eq
name_quick tw9800571698397750058 for Mine.one by Mine.one_eq
name_quick tw6550987210724342151 for Mine.one by Mine.one_eq
name_quick tw4224760802259116069 for Mine.one by Mine.one_eq
name_quick tw3766158894648301139 for Mine.one by Mine.one_eq
name_quick tw16241802466949684156 for Mine.one by Mine.one_eq
name_quick tw9467589175468403638 for Mine.one by Mine.one_eq
name_quick tw17804436615005485693 for Mine.one by Mine.one_eq
name_quick tw9285146279643344392 for Mine.one by Mine.one_eq
name_quick tw4748654258956052638 for Mine.one by Mine.one_eq
name_quick tw1258717718454355964 for Mine.one by Mine.one_eq
name_quick tw7035115661146626270 for Mine.one by Mine.one_eq
name_quick tw11939915149646268982 for Mine.one by Mine.one_eq
name_quick tw12734952128020822468 for Mine.one by Mine.one_eq
name_quick tw16916688483869632129 for Mine.one by Mine.one_eq
name_quick tw5349121933718820234 for Mine.one by Mine.one_eq
name_quick tw5701610774189311196 for Mine.one by Mine.one_eq
name_quick tw12659028871203227004 for Mine.one by Mine.one_eq
name_quick tw13145125596335152023 for Mine.one by Mine.one_eq
name_quick tw7788680626742099145 for Mine.one by Mine.one_eq
name_quick tw8119918657739134586 for Mine.one by Mine.one_eq
name_quick tw8555734327229750603 for Mine.one by Mine.one_eq
name_quick tw4679858250743294509 for Mine.one by Mine.one_eq
name_quick tw15263041282635125899 for Mine.one by Mine.one_eq
name_quick tw912392155897948271 for Mine.one by Mine.one_eq
name_quick tw8727135674562949291 for Mine.one by Mine.one_eq
name_quick tw10205541121877940668 for Mine.one by Mine.one_eq
name_quick tw7299303143086499733 for Mine.one by Mine.one_eq
name_quick tw8595292554425487202 for Mine.one by Mine.one_eq
name_quick tw16643379632663270332 for Mine.one by Mine.one_eq
name_quick tw16741492637210864865 for Mine.one by Mine.one_eq
name_quick tw5189142188285759775 for Mine.one by Mine.one_eq
name_quick tw12237943961548833269 for Mine.one by Mine.one_eq
name_quick tw6004533443673955352 for Mine.one by Mine.one_eq
name_quick tw43969757491396457 for Mine.one by Mine.one_eq
name_quick tw9763268239775435451 for Mine.one by Mine.one_eq
name_quick tw4775785305629353868 for Mine.one by Mine.one_eq
name_quick tw7323676302269181137 for Mine.one by Mine.one_eq
name_quick tw662354867322794072 for Mine.one by Mine.one_eq
name_quick tw3636048126100218174 for Mine.one by Mine.one_eq
name_quick tw17279654841073493023 for Mine.one by Mine.one_eq
name_quick tw17964007177503468958 for Mine.one by Mine.one_eq
name_quick tw9407582987413476825 for Mine.one by Mine.one_eq
name_quick tw4933834842325187142 for Mine.one by Mine.one_eq
name_quick tw9862997608875712007 for Mine.one by Mine.one_eq
name_quick tw8719427161674164953 for Mine.one by Mine.one_eq
name_quick tw3362959441861295915 for Mine.one by Mine.one_eq
name_quick tw3577408171920636059 for Mine.one by Mine.one_eq
name_quick tw18101931140130867144 for Mine.one by Mine.one_eq
name_quick tw17100903815162463580 for Mine.one by Mine.one_eq
name_quick tw1829445100760108279 for Mine.one by Mine.one_eq
name_quick tw17975652961387846372 for Mine.one by Mine.one_eq
name_quick tw15475462885187679331 for Mine.one by Mine.one_eq
name_quick tw17111948838632640456 for Mine.one by Mine.one_eq
name_quick tw3619232141914619222 for Mine.one by Mine.one_eq
name_quick tw8708707556590381134 for Mine.one by Mine.one_eq
name_quick tw18220123701641295943 for Mine.one by Mine.one_eq
name_quick tw14537914154153760125 for Mine.one by Mine.one_eq
name_quick tw6380047634161181297 for Mine.one by Mine.one_eq
name_quick tw8753696776887207221 for Mine.one by Mine.one_eq
name_quick tw10323183001455561277 for Mine.one by Mine.one_eq
name_quick tw4658958612460137192 for Mine.one by Mine.one_eq
name_quick tw2627984346626558326 for Mine.one by Mine.one_eq
name_quick tw4527066259768149269 for Mine.one by Mine.one_eq
name_quick tw3764465048917985505 for Mine.one by Mine.one_eq
name_quick tw2460228577881660442 for Mine.one by Mine.one_eq
name_quick tw1414301608579184545 for Mine.one by Mine.one_eq
name_quick tw7892128664451923741 for Mine.one by Mine.one_eq
name_quick tw14223099787259518943 for Mine.one by Mine.one_eq
name_quick tw11310463157757771331 for Mine.one by Mine.one_eq
name_quick tw7650934615059315214 for Mine.one by Mine.one_eq
name_quick tw347637069881736656 for Mine.one by Mine.one_eq
name_quick tw392140993173905013 for Mine.one by Mine.one_eq
name_quick tw10007627690174824804 for Mine.one by Mine.one_eq
name_quick tw7275051467321613617 for Mine.one by Mine.one_eq
name_quick tw11729385059970357855 for Mine.one by Mine.one_eq
name_quick tw8206430501311747189 for Mine.one by Mine.one_eq
name_quick tw13317431791736044220 for Mine.one by Mine.one_eq
name_quick tw11964429278604863157 for Mine.one by Mine.one_eq
name_quick tw16350708796919097252 for Mine.one by Mine.one_eq
name_quick tw8642067239939848140 for Mine.one by Mine.one_eq
name_quick tw4071324889030633612 for Mine.one by Mine.one_eq
name_quick tw4558998842232669794 for Mine.one by Mine.one_eq
name_quick tw14224011070414065920 for Mine.one by Mine.one_eq
name_quick tw470574548607681690 for Mine.one by Mine.one_eq
name_quick tw17476080006546285661 for Mine.one by Mine.one_eq
name_quick tw14821650378409806113 for Mine.one by Mine.one_eq
name_quick tw9931943479562821362 for Mine.one by Mine.one_eq
name_quick tw5357591511691535388 for Mine.one by Mine.one_eq
name_quick tw3094477031063562474 for Mine.one by Mine.one_eq
name_quick tw13141144453892091621 for Mine.one by Mine.one_eq
name_quick tw13036272033356848781 for Mine.one by Mine.one_eq
name_quick tw11462045893675790159 for Mine.one by Mine.one_eq
name_quick tw11186114360453789277 for Mine.one by Mine.one_eq
name_quick tw16145008321745377990 for Mine.one by Mine.one_eq
name_quick tw13912434898499826684 for Mine.one by Mine.one_eq
name_quick tw667198328695590252 for Mine.one by Mine.one_eq
name_quick tw5135500740108067664 for Mine.one by Mine.one_eq
name_quick tw16643706677886111943 for Mine.one by Mine.one_eq
name_quick tw11130039905162102590 for Mine.one by Mine.one_eq
name_quick tw3282434896037501709 for Mine.one by Mine.one_eq
name_quick tw14326252917377295143 for Mine.one by Mine.one_eq
name_quick tw16752143609539240740 for Mine.one by Mine.one_eq
name_quick tw13180171748994924942 for Mine.one by Mine.one_eq
name_quick tw9458956999447867950 for Mine.one by Mine.one_eq
name_quick tw5032809538720368765 for Mine.one by Mine.one_eq
name_quick tw5345256250457102556 for Mine.one by Mine.one_eq
name_quick tw1706496860858754268 for Mine.one by Mine.one_eq
name_quick tw16593013826814733010 for Mine.one by Mine.one_eq
name_quick tw13512673800721320934 for Mine.one by Mine.one_eq
name_quick tw10314498396905981064 for Mine.one by Mine.one_eq
name_quick tw6662432510661729299 for Mine.one by Mine.one_eq
name_quick tw5111356299099525756 for Mine.one by Mine.one_eq
name_quick tw4552823106982906706 for Mine.one by Mine.one_eq
name_quick tw18211773271919218964 for Mine.one by Mine.one_eq
name_quick tw1291980286583624508 for Mine.one by Mine.one_eq
name_quick tw11333186260410459676 for Mine.one by Mine.one_eq
name_quick tw8796240567053077481 for Mine.one by Mine.one_eq
name_quick tw13981391230805400906 for Mine.one by Mine.one_eq
name_quick tw13678640442995254988 for Mine.one by Mine.one_eq
name_quick tw7745614565497352828 for Mine.one by Mine.one_eq
name_quick tw460243522976405022 for Mine.one by Mine.one_eq
name_quick tw10833955939284561965 for Mine.one by Mine.one_eq
name_quick tw8376441433122354887 for Mine.one by Mine.one_eq
name_quick tw7397068168572129948 for Mine.one by Mine.one_eq
name_quick tw16296994325663420285 for Mine.one by Mine.one_eq
name_quick tw6654550962395885724 for Mine.one by Mine.one_eq
name_quick tw16049961110935095269 for Mine.one by Mine.one_eq
name_quick tw13900631225919944168 for Mine.one by Mine.one_eq
name_quick tw4039474712603431140 for Mine.one by Mine.one_eq
name_quick tw12945451867199242903 for Mine.one by Mine.one_eq
name_quick tw16018607276475445134 for Mine.one by Mine.one_eq
name_quick tw12233582284571471492 for Mine.one by Mine.one_eq
name_quick tw8860024209350480642 for Mine.one by Mine.one_eq
name_quick tw8098380416015320538 for Mine.one by Mine.one_eq
name_quick tw8579058602437062094 for Mine.one by Mine.one_eq
name_quick tw313226197891681235 for Mine.one by Mine.one_eq
name_quick tw6792406925840432001 for Mine.one by Mine.one_eq
name_quick tw1749818173716722547 for Mine.one by Mine.one_eq
name_quick tw10528696920762540405 for Mine.one by Mine.one_eq
name_quick tw17888162413812561239 for Mine.one by Mine.one_eq
name_quick tw8703263022893421829 for Mine.one by Mine.one_eq
name_quick tw11317593695737139937 for Mine.one by Mine.one_eq
name_quick tw11636919720809706868 for Mine.one by Mine.one_eq
name_quick tw7276740287692124622 for Mine.one by Mine.one_eq
name_quick tw3880421473898291048 for Mine.one by Mine.one_eq
name_quick tw17863021456227041891 for Mine.one by Mine.one_eq
name_quick tw17954471519018878134 for Mine.one by Mine.one_eq
name_quick tw17988542015724977305 for Mine.one by Mine.one_eq
name_quick tw10706342367453228570 for Mine.one by Mine.one_eq
name_quick tw151948405760981731 for Mine.one by Mine.one_eq
name_quick tw5978237884098788730 for Mine.one by Mine.one_eq
name_quick tw15168306246750427876 for Mine.one by Mine.one_eq
name_quick tw8424611434330503625 for Mine.one by Mine.one_eq
name_quick tw10948738476641704880 for Mine.one by Mine.one_eq
name_quick tw10010936943081839664 for Mine.one by Mine.one_eq
name_quick tw6589095468515690095 for Mine.one by Mine.one_eq
name_quick tw5268983451555188008 for Mine.one by Mine.one_eq
name_quick tw3093977132361051618 for Mine.one by Mine.one_eq
name_quick tw18260038339965228139 for Mine.one by Mine.one_eq
name_quick tw956555714629547637 for Mine.one by Mine.one_eq
name_quick tw17730448691065144110 for Mine.one by Mine.one_eq
name_quick tw17532440430192770315 for Mine.one by Mine.one_eq
name_quick tw15894407043143930727 for Mine.one by Mine.one_eq
name_quick tw11853533878840232495 for Mine.one by Mine.one_eq
name_quick tw7269565832213808900 for Mine.one by Mine.one_eq
name_quick tw2283851925072248500 for Mine.one by Mine.one_eq
name_quick tw14126943448341045398 for Mine.one by Mine.one_eq
name_quick tw17018628822417861297 for Mine.one by Mine.one_eq
name_quick tw13215998728584607739 for Mine.one by Mine.one_eq
name_quick tw6679490504615227074 for Mine.one by Mine.one_eq
name_quick tw6019396324639902685 for Mine.one by Mine.one_eq
name_quick tw17497748084772794779 for Mine.one by Mine.one_eq
name_quick tw14386061602966655976 for Mine.one by Mine.one_eq
name_quick tw1377046205977697930 for Mine.one by Mine.one_eq
name_quick tw7232422423428716515 for Mine.one by Mine.one_eq
open_top hd for PySem.Challenge.rw_ov0067_01
end TextT1
noncomputable section TextMK1
noncomputable abbrev Kx (w : World) : Frag := hd.heap_39 w.params
abbrev prg : Program := Challenge.pw_ov0067_01
variable {w : World} {g : Led} {os : OsState} {A : Around} {env : Env} {own : Bool} {ns : List (Str × NameKind)} {vs : List (Option Value)} {σ : Led}

abbrev gl : List (Str × Value) := [(Str.ofString "is_na", Value.ref 82), (Str.ofString "compare", Value.ref 110), (Str.ofString "Vector", Value.ref 135), (Str.ofString "integer", Value.ref 146), (Str.ofString "character", Value.ref 160), (Str.ofString "length", Value.ref 167), (Str.ofString "share", Value.ref 174),
  (Str.ofString "get_attr", Value.ref 181), (Str.ofString "put_attr", Value.ref 195), (Str.ofString "set_names", Value.ref 200), (Str.ofString "names_of", Value.ref 205), (Str.ofString "dim_of", Value.ref 212), (Str.ofString "class_attr", Value.ref 224), (Str.ofString "is_factor", Value.ref 231), (Str.ofString "pick", Value.ref 236),
  (Str.ofString "is_lacking", Value.ref 243), (Str.ofString "compare_items", Value.ref 250), (Str.ofString "check_sortable", Value.ref 257), (Str.ofString "compare_places", Value.ref 264), (Str.ofString "compare_keys", Value.ref 271), (Str.ofString "merge_runs", Value.ref 278), (Str.ofString "merge_sort", Value.ref 283),
  (Str.ofString "each_key", Value.ref 288), (Str.ofString "kept_places", Value.ref 295), (Str.ofString "order_by", Value.ref 303), (Str.ofString "sort_vector", Value.ref 311), (Str.ofString "tie_groups", Value.ref 318), (Str.ofString "group_rank", Value.ref 325), (Str.ofString "rank_of", Value.ref 333), (Str.ofString "is_unsorted", Value.ref 341),
  (Str.ofString "_law_pile", Value.ref 348), (Str.ofString "_law_top", Value.ref 355), (Str.ofString "_law_item", Value.ref 362), (Str.ofString "_law_key", Value.ref 369), (Str.ofString "_law_part", Value.ref 374), (Str.ofString "_law_less", Value.ref 381)]
abbrev bl : List (Str × Value) := [(Str.ofString "len", Value.builtin "len"), (Str.ofString "range", Value.type "range"), (Str.ofString "list", Value.type "list"), (Str.ofString "sorted", Value.builtin "sorted"), (Str.ofString "isinstance", Value.builtin "isinstance"), (Str.ofString "str", Value.type "str")]
theorem gl_ok (w : World) : (gl.all fun p => decide (nsIn (Kx w) mainGlobals p.1 = some (some p.2))) = true := by kernel_rfl
theorem bl_ok (w : World) : (bl.all fun p => decide (nsIn (Kx w) mainGlobals p.1 = some none) && decide (bootBuiltins p.1 = some p.2)) = true := by kernel_rfl
theorem W_gl {x : Str} {pos : Pos} {v : Value} {Q : ValQ} (hn : Nm ns x .globalImplicit) (e : (x, v) ∈ gl) (q : Q v vs σ) : W prg w (Kx w) g os A env own ns (eval (.Name x pos) env) vs σ Q :=
  W_glob hn (of_decide_eq_true (List.all_eq_true.mp (gl_ok w) _ e)) q
theorem W_bl {x : Str} {pos : Pos} {v : Value} {Q : ValQ} (hn : Nm ns x .globalImplicit) (e : (x, v) ∈ bl) (q : Q v vs σ) : W prg w (Kx w) g os A env own ns (eval (.Name x pos) env) vs σ Q := by
  have := List.all_eq_true.mp (bl_ok w) _ e
  rw [Bool.and_eq_true] at this
  exact W_blt hn (of_decide_eq_true this.1) (of_decide_eq_true this.2) q

theorem keep_ok (w : World) : (gl.all fun p => keepIn (Kx w) p.2) = true := by kernel_rfl
theorem keep_gl {x : Str} {v : Value} (e : (x, v) ∈ gl) : keepIn (Kx w) v = true := List.all_eq_true.mp (keep_ok w) _ e

/-! room -/
def Ok (n : Nat) (A : Around) : Prop := A.depth + n < 1000 ∧ A.units + 10 * n + 100 < 9900 ∧ A.handled = none
theorem Ok.room {n : Nat} {A : Around} (h : Ok (n + 1) A) : A.depth < recursionLimit := by
  have := h.1
  have e : recursionLimit = 1000 := rfl
  rw [e]; omega
theorem Ok.deeper {n : Nat} {A : Around} {env : Env} (h : Ok (n + 1) A) : Ok n (A.deeper env) := by
  obtain ⟨h1, h2, h3⟩ := h
  refine ⟨?_, ?_, h3⟩
  · show A.depth + 1 + n < 1000; omega
  · show A.units + 3 + 10 * n + 100 < 9900; omega
theorem Ok.units {n : Nat} {A : Around} (h : Ok n A) : A.units + 64 < cLine := by
  have := h.2.1
  have e : cLine = 9900 := rfl
  rw [e]; omega
theorem Ok.make {n : Nat} {A : Around} {C : Addr} {args : List Value} (h : Ok (n + 1) A) : Ok n (A.under (.builtin "type.__call__" ⟨.ref C :: args, []⟩)) := by
  obtain ⟨h1, h2, h3⟩ := h
  refine ⟨?_, ?_, h3⟩
  · show A.depth + Code.weight (.builtin "type.__call__" ⟨.ref C :: args, []⟩) + n < 1000
    have : Code.weight (.builtin "type.__call__" ⟨.ref C :: args, []⟩) ≤ 1 := Nat.le_of_ble_eq_true rfl
    omega
  · show A.units + Code.cUnits (.builtin "type.__call__" ⟨.ref C :: args, []⟩) + 10 * n + 100 < 9900
    have : Code.cUnits (.builtin "type.__call__" ⟨.ref C :: args, []⟩) ≤ 10 := Nat.le_of_ble_eq_true rfl
    omega


/-- a def of the text entered -/
theorem callK {n : Nat} {f : Addr} {name qual : Str} {params : Arguments} {body : List Stmt} {scope : Scope} {dV kV doc pm cdv ct oc : Value} {an od : Option Addr} {osl : Array (Option Value)} {args : List Value} {binds : List (Str × Value)} {Φ : Value → Led → Prop}
    (hA : Ok (n + 1) A) (ho : (Kx w).lookup f = some ⟨oc, od, .func (fnOf name qual params body scope dV kV doc pm an cdv ct), osl⟩) (hcd : codeIn (Kx w) cdv qual = true)
    (hb : ∀ S, peek (Kx w) S (bindArgs (fnOf name qual params body scope dV kV doc pm an cdv ct) ⟨args, []⟩) = some binds)
    (hok : namesOk scope.names = true) (hkind : (binds.all fun y => scope.names.lookup y.1 == some .local || scope.names.lookup y.1 == some .cell) = true)
    (hfree : (scope.names.all fun n => n.2 != .free) = true) (hvals : (scope.names.map fun n => binds.reverse.lookup n.1) = vs) (hns : scope.names = ns)
    (h : ∀ g A env, Ok n A → env.scope = scope → W prg w (Kx w) g os A env true ns (execs body env) vs σ (retQ Φ))
    (hco : scope.isCoroutine = false := by rfl) (hgen : scope.isGenerator = false := by rfl) (hk : scope.kind = .function := by rfl) :
    CallW prg w (Kx w) os A (.ref f) args σ Φ :=
  callW_fn ho hcd hA.room hb hok hkind hfree hvals (fun g L => by rw [hns]; exact h g _ _ hA.deeper rfl) hco hgen hk

/-- a def of the text entered -/
theorem callKG {n : Nat} {f : Addr} {name qual : Str} {params : Arguments} {body : List Stmt} {scope : Scope} {dV kV doc pm cdv ct oc : Value} {an od : Option Addr} {osl : Array (Option Value)} {args : List Value} {binds : List (Str × Value)} {Φ : Value → Led → Prop}
    (hA : Ok (n + 1) A) (ho : (Kx w).lookup f = some ⟨oc, od, .func (fnOf name qual params body scope dV kV doc pm an cdv ct), osl⟩) (hcd : codeIn (Kx w) cdv qual = true)
    (hb : ∀ S, peek (Kx w) S (bindArgs (fnOf name qual params body scope dV kV doc pm an cdv ct) ⟨args, []⟩) = some binds)
    (hok : namesOk scope.names = true) (hkind : (binds.all fun y => scope.names.lookup y.1 == some .local || scope.names.lookup y.1 == some .cell) = true)
    (hfree : (scope.names.all fun n => n.2 != .free) = true) (hvals : (scope.names.map fun n => binds.reverse.lookup n.1) = vs) (hns : scope.names = ns)
    (h : ∀ A env, Ok n A → env.scope = scope → W prg w (Kx w) g os A env true ns (execs body env) vs σ (retQ Φ))
    (hco : scope.isCoroutine = false := by rfl) (hgen : scope.isGenerator = false := by rfl) (hk : scope.kind = .function := by rfl) :
    CallWG prg w (Kx w) g os A (.ref f) args σ Φ :=
  callW_fnG ho hcd hA.room hb hok hkind hfree hvals (fun L => by rw [hns]; exact h _ _ hA.deeper rfl) hco hgen hk

/-! a step of the walk -/
theorem sto_ex {rest : List Stmt} {env : Env} {Q : FlowQ} {x : Str} {v : Value} {k : NameKind} {vs' : List (Option Value)} (hs : Sto ns vs x k v vs') (hk : k = .local ∨ (k = .cell ∧ own = true)) (h : W prg w (Kx w) g os A env own ns (execs rest env) vs' σ Q) :
    ∃ k vs', Sto ns vs x k v vs' ∧ (k = .local ∨ (k = .cell ∧ own = true)) ∧ W prg w (Kx w) g os A env own ns (execs rest env) vs' σ Q := ⟨_, _, hs, hk, h⟩
theorem keepW {f : Value} {first : List Value} {pos : Pos} {e : Expr} {rest : List Expr} {Q : ValQ} {x : Str} (hk : (x, f) ∈ gl)
    (h : W prg w (Kx w) g os A env own ns (spliced (backTo pos (starEach (e :: rest) env))) vs σ fun l vs σ => W prg w (Kx w) g os A env own ns (call f (first ++ l) []) vs σ Q)
    (he : starEach (e :: rest) env = (false, eval e env) :: starEach rest env := by with_unfolding_all rfl) (hplain : (backTo pos (starEach rest env)).any (·.1) = false := by with_unfolding_all rfl) :
    W prg w (Kx w) g os A env own ns (callWith pos f first (backTo pos (starEach (e :: rest) env)) []) vs σ Q := W_callWith (keep_gl hk) h he hplain
def locb (ns : List (Str × NameKind)) (x : Str) : Bool := ns.any fun n => n.1 == x && n.2 != .globalImplicit
def glob (ns : List (Str × NameKind)) (x : Str) : Bool := ns.any fun n => n.1 == x && n.2 == .globalImplicit
theorem Nm.of_glob : ∀ {ns : List (Str × NameKind)} {x : Str}, glob ns x = true → Nm ns x .globalImplicit
  | [], x, h => by cases h
  | (y, k) :: r, x, h => by
    have h' : ((y == x && k == .globalImplicit) || glob r x) = true := h
    rcases Bool.or_eq_true_iff.mp h' with h | h
    · rw [Bool.and_eq_true, beq_iff_eq, beq_iff_eq] at h
      obtain ⟨rfl, rfl⟩ := h
      exact .here
    · exact .next (Nm.of_glob h)
theorem W_nameG {x : Str} {pos : Pos} {k : NameKind} {v : Value} {Q : ValQ} (h0 : locb ns x = true) (hl : Ld ns vs x k (some v)) (hk : k = .local ∨ k = .cell ∨ k = .free) (q : Q v vs σ) : W prg w (Kx w) g os A env own ns (eval (.Name x pos) env) vs σ Q := W_name hl hk q
theorem W_blG {x : Str} {pos : Pos} {v : Value} {Q : ValQ} (h0 : (bl.any fun p => p.1 == x) = true) (h1 : glob ns x = true) (e : (x, v) ∈ bl) (q : Q v vs σ) : W prg w (Kx w) g os A env own ns (eval (.Name x pos) env) vs σ Q := W_bl (Nm.of_glob h1) e q
theorem W_glG {x : Str} {pos : Pos} {v : Value} {Q : ValQ} (h1 : glob ns x = true) (e : (x, v) ∈ gl) (q : Q v vs σ) : W prg w (Kx w) g os A env own ns (eval (.Name x pos) env) vs σ Q := W_gl (Nm.of_glob h1) e q
end TextMK1
local macro_rules | `(tactic| walk_at "ld") => `(tactic| with_reducible (repeat (first | exact Ld.here | apply Ld.next)))
local macro_rules | `(tactic| walk_at "sto") => `(tactic| with_reducible (repeat (first | exact Sto.here | apply Sto.next)))
local macro_rules | `(tactic| walk_at "s") => `(tactic| with_reducible first
  | (show W _ _ _ _ _ _ _ _ _ (eval (.Name _ _) _) _ _ _; refine W_nameG (by kernel_rfl) (by repeat (first | exact Ld.here | apply Ld.next)) (by first | exact Or.inl rfl | exact Or.inr (Or.inl rfl) | exact Or.inr (Or.inr rfl)) ?_)
  | (show W _ _ _ _ _ _ _ _ _ (eval (.Name _ _) _) _ _ _; refine W_glG (by kernel_rfl) (by repeat (first | exact List.mem_cons_self | apply List.mem_cons_of_mem)) ?_)
  | refine W_Call ?_
  | refine W_sAssign ?_
  | refine W_sRet ?_
  | refine W_sIf ?_
  | refine W_tbool ?_
  | refine W_or0 ?_
  | refine W_or ?_
  | refine W_args0 ?_
  | refine W_args ?_
  | (show W _ _ _ _ _ _ _ _ _ (callWith _ (.ref _) _ _ _) _ _ _; refine keepW (by repeat (first | exact List.mem_cons_self | apply List.mem_cons_of_mem)) ?_)
  | (show ∃ k vs, Sto _ _ _ k _ vs ∧ _; refine sto_ex (by repeat (first | exact Sto.here | apply Sto.next)) (by first | exact Or.inl rfl | exact Or.inr ⟨rfl, rfl⟩) ?_)
  | refine W_nil ?_
  | refine seq_next ?_
  | refine retQ_ret ?_
  | refine W_truthb ?_
  | refine bex ?_
  | refine br_t ?_
  | refine br_f ?_)
local macro_rules | `(tactic| walk_at "ss") => `(tactic| repeat with_reducible first
  | (show W _ _ _ _ _ _ _ _ _ (eval (.Name _ _) _) _ _ _; refine W_nameG (by kernel_rfl) (by repeat (first | exact Ld.here | apply Ld.next)) (by first | exact Or.inl rfl | exact Or.inr (Or.inl rfl) | exact Or.inr (Or.inr rfl)) ?_)
  | (show W _ _ _ _ _ _ _ _ _ (eval (.Name _ _) _) _ _ _; refine W_blG (by kernel_rfl) (by kernel_rfl) (by repeat (first | exact List.mem_cons_self | apply List.mem_cons_of_mem)) ?_)
  | (show W _ _ _ _ _ _ _ _ _ (eval (.Name _ _) _) _ _ _; refine W_glG (by kernel_rfl) (by repeat (first | exact List.mem_cons_self | apply List.mem_cons_of_mem)) ?_)
  | (refine W_int ?_; intro _)
  | (refine W_str ?_; intro _)
  | refine W_none ?_
  | refine W_bool ?_
  | refine W_binop ?_
  | refine W_cmp ?_
  | refine W_unary ?_
  | refine W_attr ?_
  | refine W_slice ?_
  | refine W_part0 ?_
  | refine W_part1 ?_
  | refine W_subs ?_
  | (show W _ _ _ _ _ _ _ _ _ (eval (.Call (.Attribute _ _ _) _ _ _) _) _ _ _; refine W_append ?_)
  | refine W_Call ?_
  | refine W_or2 ?_
  | refine W_and2 ?_
  | refine W_ifexp ?_
  | refine W_list ?_
  | refine W_tuple ?_
  | refine W_sAssign ?_
  | refine W_sRet ?_
  | refine W_sIf ?_
  | refine W_sExpr ?_
  | refine W_sAssignSub ?_
  | refine W_sAssignAttr ?_
  | refine W_sRet0 ?_
  | (show W _ _ _ _ _ _ _ _ _ (execs (.AugAssign _ _ _ _ :: _) _) _ _ _; refine W_sAug (by repeat (first | exact Ld.here | apply Ld.next)) (by first | exact Or.inl rfl | exact Or.inr (Or.inl rfl) | exact Or.inr (Or.inr rfl)) ?_)
  | refine W_nil ?_
  | refine W_tcmp ?_
  | refine W_tnot ?_
  | refine W_tbool ?_
  | refine W_and0 ?_
  | refine W_or0 ?_
  | refine W_and ?_
  | refine W_or ?_
  | refine W_tval ?_
  | refine W_args0 ?_
  | refine W_args ?_
  | (show W _ _ _ _ _ _ _ _ _ (callWith _ (.ref _) _ _ _) _ _ _; refine keepW (by repeat (first | exact List.mem_cons_self | apply List.mem_cons_of_mem)) ?_)
  | refine W_callWithB ?_
  | refine W_callWithT ?_
  | (show ∃ k vs, Sto _ _ _ k _ vs ∧ _; refine sto_ex (by repeat (first | exact Sto.here | apply Sto.next)) (by first | exact Or.inl rfl | exact Or.inr ⟨rfl, rfl⟩) ?_)
  | refine seq_next ?_
  | refine seq_ret ?_
  | refine retQ_ret ?_
  | refine retQ_next ?_
  | (refine W_add ?_; intro _)
  | (refine W_sub ?_; intro _)
  | (refine W_iadd ?_; intro _)
  | (refine W_neg ?_; intro _)
  | refine W_eq ?_
  | refine W_ne ?_
  | refine W_lt ?_
  | refine W_le ?_
  | refine W_gt ?_
  | refine W_ge ?_
  | refine W_eqs ?_
  | refine W_nes ?_
  | refine W_lts ?_
  | refine W_gts ?_
  | refine W_isN_n ?_
  | refine W_isN_r ?_
  | refine W_isN_i ?_
  | refine W_isN_s ?_
  | refine W_isN_b ?_
  | refine W_isNN_n ?_
  | refine W_isNN_r ?_
  | refine W_truthb ?_
  | refine W_notv ?_
  | refine bex ?_
  | refine br_t ?_
  | refine br_f ?_)
noncomputable section TextMK2
variable {w : World} {g : Led} {os : OsState} {A : Around} {env : Env} {own : Bool} {ns : List (Str × NameKind)} {vs : List (Option Value)} {σ σ' : Led}

abbrev CW (w : World) (os : OsState) (A : Around) (f : Value) (args : List Value) (σ : Led) (Φ : Value → Led → Prop) : Prop := CallW prg w (Kx w) os A f args σ Φ
theorem CallW.weak {prog : Program} {K : Frag} {f : Value} {args : List Value} {Φ Φ' : Value → Led → Prop} (h : CallW prog w K os A f args σ Φ) (hq : ∀ v σ', Φ v σ' → ∃ σ'', Le σ'' σ' ∧ Φ' v σ'') : CallW prog w K os A f args σ Φ' :=
  fun g s H => codeAny_mono (h g s H) fun r s' ⟨v, σ', e, H', q⟩ => by
    obtain ⟨σ'', l, q'⟩ := hq _ _ q
    exact ⟨v, σ'', e, H'.weak l, q'⟩
theorem CallWG.mono {prog : Program} {K : Frag} {g : Led} {f : Value} {args : List Value} {Φ Φ' : Value → Led → Prop} (h : CallWG prog w K g os A f args σ Φ) (hq : ∀ v σ', Φ v σ' → Φ' v σ') : CallWG prog w K g os A f args σ Φ' :=
  fun s H => codeAny_mono (h s H) fun r s' ⟨v, σ', e, H', q⟩ => ⟨v, σ', e, H', hq _ _ q⟩
theorem CallW.pure {prog : Program} {K : Frag} {f : Value} {args : List Value} {P : Value → Prop} (h : CallW prog w K os A f args σ fun r σ' => P r ∧ Le σ σ') : CallW prog w K os A f args σ fun r σ' => P r ∧ σ' = σ :=
  h.weak fun v σ' ⟨p, l⟩ => ⟨σ, l, p, rfl⟩
theorem W_callB {f v : Value} {args : List Value} {Q : ValQ} (h : CW w os A f args σ fun r σ' => r = v ∧ σ' = σ) (q : Q v vs σ) : W prg w (Kx w) g os A env own ns (call f args []) vs σ Q :=
  W_call (h.mono fun r σ' e => by obtain ⟨rfl, rfl⟩ := e; exact q)
theorem W_callI {f : Value} {i : Int} {args : List Value} {Q : ValQ} (h : CW w os A f args σ fun r σ' => (∃ t, r = .int i t) ∧ σ' = σ) (q : ∀ t, Q (.int i t) vs σ) : W prg w (Kx w) g os A env own ns (call f args []) vs σ Q :=
  W_call (h.mono fun r σ' e => by obtain ⟨⟨t, rfl⟩, rfl⟩ := e; exact q t)
theorem Le.upd_of {a : Addr} {o : Obj} (l : Le σ σ') (e : σ' a = some o) : Le (Mine.upd σ a o) σ' := fun b ob h => by
  unfold Mine.upd at h; split at h
  · rename_i q; cases h; rw [q]; exact e
  · exact l _ _ h
theorem Le.upd_r {a : Addr} {o : Obj} (l : Le σ σ') (e : σ a = none) : Le σ (Mine.upd σ' a o) := fun b ob h => by
  unfold Mine.upd; split
  · rename_i q; rw [q, e] at h; cases h
  · exact l _ _ h
theorem CallW.list {prog : Program} {K : Frag} {f : Value} {args : List Value} {P : List Value → Prop} (h : CallW prog w K os A f args σ fun r σ' => ∃ a l k, r = .ref a ∧ σ a = none ∧ Le σ σ' ∧ σ' a = some (lst l k) ∧ P l) :
    CallW prog w K os A f args σ fun r σ' => ∃ a l k, r = .ref a ∧ σ a = none ∧ σ' = Mine.upd σ a (lst l k) ∧ P l :=
  h.weak fun v σ' ⟨a, l, k, e, n, le, ha, p⟩ => ⟨_, le.upd_of ha, a, l, k, e, n, rfl, p⟩

/-! pairs of lists -/
inductive All2 {α β : Type} (R : α → β → Prop) : List α → List β → Prop
  | nil : All2 R [] []
  | cons {a b as bs} : R a b → All2 R as bs → All2 R (a :: as) (b :: bs)
section
variable {α β : Type} {R S : α → β → Prop}
theorem All2.imp {as : List α} {bs : List β} (h : All2 R as bs) (f : ∀ a b, R a b → S a b) : All2 S as bs := by
  induction h with
  | nil => exact .nil
  | cons r _ ih => exact .cons (f _ _ r) ih
theorem All2.length {as : List α} {bs : List β} (h : All2 R as bs) : bs.length = as.length := by
  induction h with
  | nil => rfl
  | cons r _ ih => rw [List.length_cons, List.length_cons, ih]
theorem All2.get {as : List α} {bs : List β} (h : All2 R as bs) {i : Nat} {a : α} (e : as[i]? = some a) : ∃ b, bs[i]? = some b ∧ R a b := by
  induction h generalizing i with
  | nil => cases e
  | cons r _ ih =>
    cases i with
    | zero => cases e; exact ⟨_, rfl, r⟩
    | succ i => exact ih (by simpa using e)
theorem All2.get' {as : List α} {bs : List β} (h : All2 R as bs) {i : Nat} {b : β} (e : bs[i]? = some b) : ∃ a, as[i]? = some a ∧ R a b := by
  induction h generalizing i with
  | nil => cases e
  | cons r _ ih =>
    cases i with
    | zero => cases e; exact ⟨_, rfl, r⟩
    | succ i => exact ih (by simpa using e)
theorem All2.append {as as' : List α} {bs bs' : List β} (h : All2 R as bs) (h' : All2 R as' bs') : All2 R (as ++ as') (bs ++ bs') := by
  induction h with
  | nil => exact h'
  | cons r _ ih => exact .cons r ih
theorem All2.snoc {as : List α} {bs : List β} {a : α} {b : β} (h : All2 R as bs) (r : R a b) : All2 R (as ++ [a]) (bs ++ [b]) := h.append (.cons r .nil)
theorem All2.drop {as : List α} {bs : List β} (h : All2 R as bs) (n : Nat) : All2 R (as.drop n) (bs.drop n) := by
  induction h generalizing n with
  | nil => simp; exact .nil
  | cons r h ih => cases n with
    | zero => exact .cons r h
    | succ n => exact ih n
theorem All2.rev {as : List α} {bs : List β} (h : All2 R as bs) : All2 R as.reverse bs.reverse := by
  induction h with
  | nil => exact .nil
  | cons r _ ih => rw [List.reverse_cons, List.reverse_cons]; exact ih.snoc r
theorem All2.of_get {as : List α} {bs : List β} (hl : bs.length = as.length) (h : ∀ (i : Nat) a b, as[i]? = some a → bs[i]? = some b → R a b) : All2 R as bs := by
  induction as generalizing bs with
  | nil => cases bs with
    | nil => exact .nil
    | cons b bs => simp at hl
  | cons a as ih => cases bs with
    | nil => simp at hl
    | cons b bs => exact .cons (h 0 _ _ rfl rfl) (ih (by simpa using hl) fun i x y e1 e2 => h (i + 1) x y (by simpa using e1) (by simpa using e2))
end

/-! values in the ledger -/
def ItV (σ : Led) : It → Value → Prop
  | .na, v => v = .none
  | .int i, v => ∃ t, v = .int i t
  | .str s, v => PyData.strOk s = true ∧ ∃ t, v = .str s t
  | .dbl n d, v => ∃ a t u k, v = .ref a ∧ σ a = some (tup [.int n t, .int d u] k)
theorem ItV.le {it : It} {v : Value} (h : ItV σ it v) (l : Le σ σ') : ItV σ' it v := by
  cases it with
  | na | int | str => exact h
  | dbl n d => obtain ⟨a, t, u, k, e, x⟩ := h; exact ⟨a, t, u, k, e, l _ _ x⟩
def It.dat : It → PyData
  | .na => .none
  | .int i => .int i
  | .str s => .str s
  | .dbl n d => .tuple [.int n, .int d]
theorem ItV.rd {it : It} {v : Value} (h : ItV σ it v) : RD σ v it.dat := by
  cases it with
  | na => cases h; exact .none
  | int i => obtain ⟨t, rfl⟩ := h; exact .int
  | str s => obtain ⟨_, t, rfl⟩ := h; exact .str
  | dbl n d => obtain ⟨a, t, u, k, rfl, x⟩ := h; exact .tuple x (.cons .int (.cons .int .nil))
theorem ItV.lay {it : It} {v : Value} (h : ItV σ it v) : it.dat.canLay0 = true ∧ it.dat.depth ≤ 1 := by
  cases it with
  | na => exact ⟨rfl, Nat.zero_le _⟩
  | int i => exact ⟨rfl, Nat.zero_le _⟩
  | str s => exact ⟨h.1, Nat.zero_le _⟩
  | dbl n d => exact ⟨rfl, Nat.le_of_ble_eq_true rfl⟩
theorem ItV.shaped {it : It} {v : Value} (h : ItV σ it v) : shaped it.dat = true := by
  have := h.lay
  unfold SeqAt.shaped
  rw [this.1, Bool.true_and]
  exact decide_eq_true (by omega)
def IsN (n : Nat) (v : Value) : Prop := ∃ t, v = .int n t
def NatL (ns : List Nat) (l : List Value) : Prop := All2 IsN ns l
theorem NatL.ints {ns : List Nat} {l : List Value} (h : NatL ns l) : IntsAre l (ns.map Int.ofNat) := by
  induction h with
  | nil => exact .nil
  | cons r _ ih => obtain ⟨t, rfl⟩ := r; exact .cons _ _ ih
def LN (σ : Led) (a : Addr) (ns : List Nat) : Prop := ∃ l k, σ a = some (lst l k) ∧ NatL ns l
theorem LN.le {a : Addr} {ns : List Nat} (h : LN σ a ns) (l : Le σ σ') : LN σ' a ns := by
  obtain ⟨x, k, e, n⟩ := h; exact ⟨x, k, l _ _ e, n⟩

abbrev vfs (k it a sh lo : Value) : List (Str × Value) := [(Str.ofString "kind", k), (Str.ofString "items", it), (Str.ofString "attrs", a), (Str.ofString "shared", sh), (Str.ofString "loose", lo)]
/-- a Vector, its dict and its list -/
def VO (σ : Led) (x dx li : Addr) (V : Vec) (at' : Value) : Prop := ∃ od t l k sh lo, σ x = some (instObj 135 dx) ∧ σ dx = some od ∧ Fd (vfs (.str (kname V.kd) t) (.ref li) at' (.bool sh) (.bool lo)) od ∧ σ li = some (lst l k) ∧ All2 (ItV σ) V.items l
def VecAt (σ : Led) (x : Addr) (V : Vec) (at' : Value) : Prop := ∃ dx li, VO σ x dx li V at'
theorem VO.le {x dx li : Addr} {V : Vec} {at' : Value} (h : VO σ x dx li V at') (l : Le σ σ') : VO σ' x dx li V at' := by
  obtain ⟨od, t, ll, k, sh, lo, h1, h2, h3, h4, h5⟩ := h
  exact ⟨od, t, ll, k, sh, lo, l _ _ h1, l _ _ h2, h3, l _ _ h4, h5.imp fun _ _ q => q.le l⟩
theorem VecAt.le {x : Addr} {V : Vec} {at' : Value} (h : VecAt σ x V at') (l : Le σ σ') : VecAt σ' x V at' := by
  obtain ⟨dx, li, h⟩ := h; exact ⟨dx, li, h.le l⟩

theorem get_ok : getOk (Kx w) 135 "kind" = true ∧ getOk (Kx w) 135 "items" = true ∧ getOk (Kx w) 135 "attrs" = true := ⟨by kernel_rfl, by kernel_rfl, by kernel_rfl⟩
theorem set_ok : setOk (Kx w) 135 "kind" = true ∧ setOk (Kx w) 135 "items" = true ∧ setOk (Kx w) 135 "attrs" = true ∧ setOk (Kx w) 135 "shared" = true ∧ setOk (Kx w) 135 "loose" = true := ⟨by kernel_rfl, by kernel_rfl, by kernel_rfl, by kernel_rfl, by kernel_rfl⟩
theorem isi_ok : isIn (Kx w) (.ref 135) 135 = true := by kernel_rfl
section
variable {x : Addr} {V : Vec} {at' : Value} {b : Bool} {Q : ValQ}
theorem W_vkind (h : VecAt σ x V at') (q : ∀ t, Q (.str (kname V.kd) t) vs σ) : W prg w (Kx w) g os A env own ns (getAttr (.ref x) "kind" b) vs σ Q := by
  obtain ⟨dx, li, od, t, l, k, sh, lo, h1, h2, h3, h4, h5⟩ := h
  exact W_getAttr h1 h2 h3 rfl get_ok.1 rfl (q t)
theorem W_vitems (h : VecAt σ x V at') (q : ∀ li l k, σ li = some (lst l k) → All2 (ItV σ) V.items l → Q (.ref li) vs σ) : W prg w (Kx w) g os A env own ns (getAttr (.ref x) "items" b) vs σ Q := by
  obtain ⟨dx, li, od, t, l, k, sh, lo, h1, h2, h3, h4, h5⟩ := h
  exact W_getAttr h1 h2 h3 rfl get_ok.2.1 rfl (q li l k h4 h5)
theorem W_vattrs (h : VecAt σ x V at') (hh : handedIn at' = true) (q : Q at' vs σ) : W prg w (Kx w) g os A env own ns (getAttr (.ref x) "attrs" b) vs σ Q := by
  obtain ⟨dx, li, od, t, l, k, sh, lo, h1, h2, h3, h4, h5⟩ := h
  exact W_getAttr h1 h2 h3 rfl get_ok.2.2 hh q
theorem W_visi (h : VecAt σ x V at') (q : Q (.bool true) vs σ) : W prg w (Kx w) g os A env own ns (call (.builtin "isinstance") [.ref x, .ref 135] []) vs σ Q := by
  obtain ⟨dx, li, od, t, l, k, sh, lo, h1, h2, h3, h4, h5⟩ := h
  exact W_isiK h1 isi_ok q
end
theorem lst_ne_dict {l : List Value} {k : Nat} {fs : List (Str × Value)} {o : Obj} (h : Fd fs o) : o ≠ lst l k := by
  obtain ⟨es, n, rfl, _⟩ := h; intro e; have := congrArg Obj.cls e; simp at this
theorem tup_ne_dict {l : List Value} {k : Nat} {fs : List (Str × Value)} {o : Obj} (h : Fd fs o) : o ≠ tup l k := by
  obtain ⟨es, n, rfl, _⟩ := h; intro e; have := congrArg Obj.cls e; simp at this
theorem inst_ne_dict {C dx : Addr} {fs : List (Str × Value)} {o : Obj} (h : Fd fs o) : o ≠ instObj C dx := by
  obtain ⟨es, n, rfl, _⟩ := h; intro e; have := congrArg Obj.cls e; simp at this
theorem upd_off {a b : Addr} {o ob oa : Obj} (ha : σ a = some oa) (hb : σ b = some ob) (n : oa ≠ ob) : upd σ a o b = some ob := by
  rw [upd_ne (by rintro rfl; rw [ha] at hb; cases hb; exact n rfl)]; exact hb
/-- v.attrs = … -/
theorem W_vsetAttrs {x dx li : Addr} {V : Vec} {at' v : Value} {Q : Unit → List (Option Value) → Led → Prop} (h : VO σ x dx li V at') (q : ∀ o, VO (upd σ dx o) x dx li V v → (∀ a l k, σ a = some (lst l k) → upd σ dx o a = some (lst l k)) → Q () vs (upd σ dx o)) :
    W prg w (Kx w) g os A env own ns (setAttr (.ref x) "attrs" v) vs σ Q := by
  obtain ⟨od, t, l, k, sh, lo, h1, h2, h3, h4, h5⟩ := h
  refine W_setAttr h1 h2 h3 (Nat.le_of_ble_eq_true rfl) set_ok.2.2.1 fun o' hf => q o' ?_ fun a l k e => upd_off h2 e (lst_ne_dict h3)
  refine ⟨o', t, l, k, sh, lo, upd_off h2 h1 (inst_ne_dict h3), upd_same, hf, upd_off h2 h4 (lst_ne_dict h3), h5.imp fun it v hv => ?_⟩
  cases it with
  | na | int | str => exact hv
  | dbl n d => obtain ⟨a, t, u, k, e, y⟩ := hv; exact ⟨a, t, u, k, e, upd_off h2 y (tup_ne_dict h3)⟩
theorem W_vsetShared {x dx li : Addr} {V : Vec} {at' : Value} {b : Bool} {Q : Unit → List (Option Value) → Led → Prop} (h : VO σ x dx li V at') (q : ∀ o, VO (upd σ dx o) x dx li V at' → (∀ a l k, σ a = some (lst l k) → upd σ dx o a = some (lst l k)) → Q () vs (upd σ dx o)) :
    W prg w (Kx w) g os A env own ns (setAttr (.ref x) "shared" (.bool b)) vs σ Q := by
  obtain ⟨od, t, l, k, sh, lo, h1, h2, h3, h4, h5⟩ := h
  refine W_setAttr h1 h2 h3 (Nat.le_of_ble_eq_true rfl) set_ok.2.2.2.1 fun o' hf => q o' ?_ fun a l k e => upd_off h2 e (lst_ne_dict h3)
  refine ⟨o', t, l, k, b, lo, upd_off h2 h1 (inst_ne_dict h3), upd_same, hf, upd_off h2 h4 (lst_ne_dict h3), h5.imp fun it v hv => ?_⟩
  cases it with
  | na | int | str => exact hv
  | dbl n d => obtain ⟨a, t, u, k, e, y⟩ := hv; exact ⟨a, t, u, k, e, upd_off h2 y (tup_ne_dict h3)⟩

/-! kinds -/
theorem kn_dbl (k : Kd) : ((kname k).cps.toList == (Str.ofString "double").cps.toList) = decide (k = .dbl) := by cases k <;> decide +kernel
theorem kn_ndbl (k : Kd) : ((kname k).cps.toList != (Str.ofString "double").cps.toList) = decide (k ≠ .dbl) := by cases k <;> decide +kernel
theorem kn_null (k : Kd) : ((kname k).cps.toList == (Str.ofString "NULL").cps.toList) = false := by cases k <;> decide +kernel
theorem kn_lang (k : Kd) : ((kname k).cps.toList == (Str.ofString "language").cps.toList) = false := by cases k <;> decide +kernel
theorem kn_env (k : Kd) : ((kname k).cps.toList == (Str.ofString "environment").cps.toList) = false := by cases k <;> decide +kernel
theorem kn_int (k : Kd) : ((kname k).cps.toList == (Str.ofString "integer").cps.toList) = decide (k = .int) := by cases k <;> decide +kernel
theorem kn_ne (k : Kd) : ((kname k).cps.toList != (kname k).cps.toList) = false := by cases k <;> decide +kernel
theorem kn_in (k : Kd) : (!([Str.ofString "logical", Str.ofString "integer", Str.ofString "double", Str.ofString "character"].any (· == kname k))) = false := by cases k <;> decide +kernel

/-! making a Vector -/
theorem mk_ok : makesIn (Kx w) 135 = true ∧ findIn (Kx w) (.ref 135) "__init__" = some (some (.ref 125)) ∧ typeIn (Kx w) (.ref 125) = some (.type "function") := ⟨by kernel_rfl, by kernel_rfl, by kernel_rfl⟩
end TextMK2
local macro_rules | `(tactic| walk_at "ti") => `(tactic| refine W_titem (by assumption) (by decide) (by decide) rfl rfl ?_)
noncomputable section TextMK3
variable {w : World} {os : OsState} {A : Around} {σ : Led}
theorem c_vinit {n : Nat} (hA : Ok (n + 1) A) {x dx : Addr} {k it : Value} (hx : σ x = some (instObj 135 dx)) (hd : σ dx = some emptyDict) :
    CW w os A (.ref 125) [.ref x, k, it] σ fun r σ' => r = .none ∧ ∃ od, σ' = upd σ dx od ∧ Fd (vfs k it .none (.bool false) (.bool false)) od := by
  refine callK (binds := [(Str.ofString "self", .ref x), (Str.ofString "kind", k), (Str.ofString "items", it), (Str.ofString "attrs", .none)]) (vs := [some (.ref x), some (k), some (it), some (.none)]) (ns := [(Str.ofString "self", NameKind.local), (Str.ofString "kind", NameKind.local), (Str.ofString "items", NameKind.local), (Str.ofString "attrs", NameKind.local)]) hA rfl (by kernel_rfl) (fun _ => by kernel_rfl) (by kernel_rfl) (by kernel_rfl) (by kernel_rfl) (by kernel_rfl) rfl fun g A env hA he => ?_
  have f0 : Fd [] emptyDict := ⟨[], 0, rfl, .nil⟩
  have nx : ∀ o, upd σ dx o x = some (instObj 135 dx) := fun o => by
    rw [upd_ne (by rintro rfl; rw [hx] at hd; cases hd)]; exact hx
  walk_at "ss"
  refine W_setAttr hx hd f0 (Nat.zero_le _) set_ok.1 fun o f1 => ?_
  walk_at "ss"
  refine W_setAttr (nx o) upd_same f1 (Nat.le_of_ble_eq_true rfl) set_ok.2.1 fun o f1 => ?_
  rw [upd_upd]
  walk_at "ss"
  refine W_setAttr (nx o) upd_same f1 (Nat.le_of_ble_eq_true rfl) set_ok.2.2.1 fun o f1 => ?_
  rw [upd_upd]
  walk_at "ss"
  refine W_setAttr (nx o) upd_same f1 (Nat.le_of_ble_eq_true rfl) set_ok.2.2.2.1 fun o f1 => ?_
  rw [upd_upd]
  walk_at "ss"
  refine W_setAttr (nx o) upd_same f1 (Nat.le_of_ble_eq_true rfl) set_ok.2.2.2.2 fun o f1 => ?_
  rw [upd_upd]
  walk_at "ss"
  exact ⟨rfl, o, rfl, f1⟩
theorem c_vmake {n : Nat} (hA : Ok (n + 2) A) {k it : Value} :
    CW w os A (.ref 135) [k, it] σ fun r σ' => ∃ x dx od, r = .ref x ∧ σ x = none ∧ σ dx = none ∧ x ≠ dx ∧ σ' = upd (upd σ dx od) x (instObj 135 dx) ∧ Fd (vfs k it .none (.bool false) (.bool false)) od :=
  callW_make mk_ok.1 mk_ok.2.1 mk_ok.2.2 fun x dx hx hd hne => by
    refine (c_vinit hA.make upd_same (by rw [upd_ne (Ne.symm hne)]; exact upd_same)).mono fun r σ' ⟨e, od, e2, f⟩ => ⟨e, x, dx, od, rfl, hx, hd, hne, ?_, f⟩
    rw [e2]
    funext b
    unfold upd
    by_cases h1 : b = dx
    · subst h1; simp [Ne.symm hne]
    · by_cases h2 : b = x
      · subst h2; simp [hne]
      · simp [h1, h2]
/-- a Vector made of a list that is there -/
theorem c_vmakeV {n : Nat} (hA : Ok (n + 2) A) {kd : Kd} {t : Tok} {li : Addr} {l : List Value} {k : Nat} {items : List It} (hl : σ li = some (lst l k)) (hi : All2 (ItV σ) items l) :
    CW w os A (.ref 135) [.str (kname kd) t, .ref li] σ fun r σ' => ∃ x dx, r = .ref x ∧ σ x = none ∧ σ dx = none ∧ Le σ σ' ∧ VO σ' x dx li ⟨kd, items⟩ .none :=
  (c_vmake hA).mono fun r σ' ⟨x, dx, od, e, h1, h2, h3, e2, f⟩ => by
    have l1 : Le σ (upd σ dx od) := Le.upd h2
    have l2 : Le (upd σ dx od) (upd (upd σ dx od) x (instObj 135 dx)) := Le.upd (by rw [upd_ne h3]; exact h1)
    subst e2
    exact ⟨x, dx, e, h1, h2, l1.trans l2, od, t, l, k, false, false, upd_same, l2 _ _ upd_same, f, (l1.trans l2) _ _ hl, hi.imp fun _ _ q => q.le (l1.trans l2)⟩
theorem dbl_small {n d : Int} (h : (n, d) ∈ dbls) : (-6 < n ∧ n < 6) ∧ (-1 < d ∧ d < 6) := by
  have : ∀ p ∈ dbls, (-6 < p.1 ∧ p.1 < 6) ∧ (-1 < p.2 ∧ p.2 < 6) := by decide +kernel
  exact this _ h
theorem mulOk {n d : Int} (h1 : -6 < n) (h2 : n < 6) : IntMulOk n d := IntMulOk.of_left (intBits_le_64 (by omega) (by omega))
theorem c_isna {n : Nat} (hA : Ok (n + 1) A) {a d : Int} {v : Value} (hv : ItV σ (.dbl a d) v) : CW w os A (.ref 82) [v] σ fun r σ' => r = .bool (a == 0 && d == 0) ∧ σ' = σ := by
  obtain ⟨x, t, u, k, rfl, hx⟩ := hv
  refine callK (binds := [(Str.ofString "x", .ref x)]) (vs := [some (.ref x)]) (ns := [(Str.ofString "x", NameKind.local)]) hA rfl (by kernel_rfl) (fun _ => by kernel_rfl) (by kernel_rfl) (by kernel_rfl) (by kernel_rfl) (by kernel_rfl) rfl fun g A env hA he => ?_
  walk_at "ss"
  walk_at "ti"
  walk_at "ss"
  refine br_e (fun e => ?_) fun e => ?_
  · walk_at "ss"
    walk_at "ti"
    walk_at "ss"
    subst e
    exact ⟨rfl, rfl⟩
  · have : (a == 0) = false := beq_eq_false_iff_ne.mpr e
    rw [this, Bool.false_and]
    exact ⟨rfl, rfl⟩
theorem c_compare {n : Nat} (hA : Ok (n + 2) A) {a b c d : Int} {v u : Value} (ha : (a, b) ∈ dbls) (hc : (c, d) ∈ dbls) (na : ¬ (a, b) = ((0 : Int), (0 : Int))) (nc : ¬ (c, d) = ((0 : Int), (0 : Int)))
    (hv : ItV σ (.dbl a b) v) (hu : ItV σ (.dbl c d) u) : CW w os A (.ref 110) [v, u] σ fun r σ' => (∃ t, r = .int (sgn (dblL a b c d) (dblR a b c d)) t) ∧ σ' = σ := by
  have s1 := dbl_small ha
  have s2 := dbl_small hc
  have z1 : (a == 0 && b == 0) = false := by
    rw [Bool.and_eq_false_iff]; by_cases h : a = 0
    · right; rw [beq_eq_false_iff_ne]; intro e; exact na (by rw [h, e])
    · left; rw [beq_eq_false_iff_ne]; exact h
  have z2 : (c == 0 && d == 0) = false := by
    rw [Bool.and_eq_false_iff]; by_cases h : c = 0
    · right; rw [beq_eq_false_iff_ne]; intro e; exact nc (by rw [h, e])
    · left; rw [beq_eq_false_iff_ne]; exact h
  have na' := fun {A : Around} {m : Nat} (hA : Ok (m + 1) A) => c_isna (w := w) (os := os) hA hv
  have nu' := fun {A : Around} {m : Nat} (hA : Ok (m + 1) A) => c_isna (w := w) (os := os) hA hu
  rw [z1] at na'; rw [z2] at nu'
  obtain ⟨x, t₁, t₂, k, rfl, hx⟩ := hv
  obtain ⟨y, u₁, u₂, k', rfl, hy⟩ := hu
  refine callK (binds := [(Str.ofString "x", .ref x), (Str.ofString "y", .ref y)]) (vs := [some (.ref x), some (.ref y), none, none, none]) (ns := [(Str.ofString "x", NameKind.local), (Str.ofString "y", NameKind.local), (Str.ofString "left", NameKind.local), (Str.ofString "right", NameKind.local), (Str.ofString "is_na", NameKind.globalImplicit)]) hA rfl (by kernel_rfl) (fun _ => by kernel_rfl) (by kernel_rfl) (by kernel_rfl) (by kernel_rfl) (by kernel_rfl) rfl fun g A env hA he => ?_
  walk_at "ss"
  refine W_callB (na' hA) ?_
  walk_at "ss"
  refine W_callB (nu' hA) ?_
  walk_at "ss"
  walk_at "ti"
  walk_at "ss"
  have fin : ∀ {z l r : Int} {t : Tok}, dblL a b c d = l → dblR a b c d = r → z = sgn l r → ∃ t', Value.int z t = .int (sgn (dblL a b c d) (dblR a b c d)) t' := fun {z l r t} h1 h2 h3 => ⟨t, by rw [h1, h2, h3]⟩
  have tail : ∀ {l r : Int}, l = r → (0 : Int) = sgn l r := fun h => by subst h; unfold sgn; simp
  have tail2 : ∀ {l r : Int}, l < r → (-1 : Int) = sgn l r := fun h => by unfold sgn; rw [if_pos h]
  have tail3 : ∀ {l r : Int}, l ≠ r → ¬ l < r → (1 : Int) = sgn l r := fun h h' => by unfold sgn; rw [if_neg h', if_pos (by omega)]
  refine br_e (fun e => ?_) fun e => ?_
  · walk_at "ss"
    walk_at "ti"
    walk_at "ss"
    refine br_e (fun e' => ?_) fun e' => ?_
    · have hL : dblL a b c d = a := by unfold dblL; rw [if_pos ⟨e, e'⟩]
      have hR : dblR a b c d = c := by unfold dblR; rw [if_pos ⟨e, e'⟩]
      walk_at "ss"
      walk_at "ti"
      walk_at "ss"
      walk_at "ti"
      walk_at "ss"
      refine br_e (fun e3 => ?_) fun e3 => ?_
      · walk_at "ss"; exact ⟨fin hL hR (tail e3), rfl⟩
      · walk_at "ss"
        refine br_d (fun e4 => ?_) fun e4 => ?_
        · walk_at "ss"; exact ⟨fin hL hR (tail2 e4), rfl⟩
        · walk_at "ss"; exact ⟨fin hL hR (tail3 e3 e4), rfl⟩
    · have hL : dblL a b c d = a := by unfold dblL; rw [if_neg (fun h => e' h.2), if_pos e]
      have hR : dblR a b c d = 0 := by unfold dblR; rw [if_neg (fun h => e' h.2), if_pos e]
      walk_at "ss"
      walk_at "ti"
      walk_at "ss"
      walk_at "ti"
      refine W_mul (mulOk s1.1.1 s1.1.2) fun _ => ?_
      walk_at "ss"
      walk_at "ti"
      walk_at "ss"
      walk_at "ti"
      refine W_mul (mulOk s2.1.1 s2.1.2) fun _ => ?_
      walk_at "ss"
      walk_at "ti"
      walk_at "ss"
      refine br_e (fun _ => ?_) (fun e3 => absurd e e3)
      walk_at "ss"
      walk_at "ti"
      walk_at "ss"
      refine br_e (fun e3 => ?_) fun e3 => ?_
      · walk_at "ss"; exact ⟨fin hL hR (tail e3), rfl⟩
      · walk_at "ss"
        refine br_d (fun e4 => ?_) fun e4 => ?_
        · walk_at "ss"; exact ⟨fin hL hR (tail2 e4), rfl⟩
        · walk_at "ss"; exact ⟨fin hL hR (tail3 e3 e4), rfl⟩
  · have pre : b ≠ 0 := e
    walk_at "ss"
    walk_at "ti"
    walk_at "ss"
    walk_at "ti"
    refine W_mul (mulOk s1.1.1 s1.1.2) fun _ => ?_
    walk_at "ss"
    walk_at "ti"
    walk_at "ss"
    walk_at "ti"
    refine W_mul (mulOk s2.1.1 s2.1.2) fun _ => ?_
    walk_at "ss"
    walk_at "ti"
    walk_at "ss"
    refine br_e (fun e3 => absurd e3 e) (fun _ => ?_)
    walk_at "ss"
    walk_at "ti"
    walk_at "ss"
    refine br_e (fun e' => ?_) fun e' => ?_
    · have hL : dblL a b c d = 0 := by unfold dblL; rw [if_neg (fun h => e h.1), if_neg e, if_pos e']
      have hR : dblR a b c d = c := by unfold dblR; rw [if_neg (fun h => e h.1), if_neg e, if_pos e']
      walk_at "ss"
      walk_at "ti"
      walk_at "ss"
      refine br_e (fun e3 => ?_) fun e3 => ?_
      · walk_at "ss"; exact ⟨fin hL hR (tail e3), rfl⟩
      · walk_at "ss"
        refine br_d (fun e4 => ?_) fun e4 => ?_
        · walk_at "ss"; exact ⟨fin hL hR (tail2 e4), rfl⟩
        · walk_at "ss"; exact ⟨fin hL hR (tail3 e3 e4), rfl⟩
    · have hL : dblL a b c d = a * d := by unfold dblL; rw [if_neg (fun h => e h.1), if_neg e, if_neg e']
      have hR : dblR a b c d = c * b := by unfold dblR; rw [if_neg (fun h => e h.1), if_neg e, if_neg e']
      walk_at "ss"
      refine br_e (fun e3 => ?_) fun e3 => ?_
      · walk_at "ss"; exact ⟨fin hL hR (tail e3), rfl⟩
      · walk_at "ss"
        refine br_d (fun e4 => ?_) fun e4 => ?_
        · walk_at "ss"; exact ⟨fin hL hR (tail2 e4), rfl⟩
        · walk_at "ss"; exact ⟨fin hL hR (tail3 e3 e4), rfl⟩
end TextMK3
noncomputable section TextMK4
variable {w : World} {os : OsState} {A : Around} {σ : Led}
theorem cmpS (a b : Str) : cmpI (.str a) (.str b) = if a.cps.toList < b.cps.toList then -1 else if b.cps.toList < a.cps.toList then 1 else 0 := rfl
theorem lack_na (kd : Kd) : lack kd .na = true := by cases kd <;> rfl
theorem W_itemN {g : Led} {env : Env} {own : Bool} {ns : List (Str × NameKind)} {vs : List (Option Value)} {value slice : Expr} {a : Addr} {l : List Value} {n : Nat} {i : Nat} {t : Tok} {v : Value} {Q : ValQ} (e : σ a = some (lst l n)) (hf : i < 2 ^ 62) (hx : l[i]? = some v) (q : Q v vs σ)
    (hs : subscripted slice false (.ref a) (.int i t) = operate [.ref a, .int i t] (getItem (.ref a) (.int i t)) := by with_unfolding_all rfl) : W prg w (Kx w) g os A env own ns (subscriptTail value slice (.ref a) (.int i t)) vs σ Q :=
  W_item e (Int.natCast_nonneg i) (by omega) hx q hs
def VOk (V : Vec) : Prop := VecOk V ∧ V.items.length ≤ 1000
theorem at_get {V : Vec} {l : List Value} (h : All2 (ItV σ) V.items l) {i : Nat} (hi : i < V.items.length) : ∃ v, l[i]? = some v ∧ ItV σ (V.at i) v := by
  have e : V.items[i]? = some (V.at i) := by
    unfold Vec.at
    rw [List.getD, List.getElem?_eq_getElem hi]; rfl
  exact h.get e
theorem c_lack {n : Nat} (hA : Ok (n + 1) A) {kd : Kd} {it : It} {t : Tok} {v : Value} (ho : ItOk kd it) (hv : ItV σ it v) : CW w os A (.ref 243) [.str (kname kd) t, v] σ fun r σ' => r = .bool (lack kd it) ∧ σ' = σ := by
  refine CallW.pure ?_
  have hd := hv.rd
  have hs := hv.shaped
  cases it with
  | na =>
    subst hv
    refine callK (binds := [(Str.ofString "kind", .str (kname kd) t), (Str.ofString "item", .none)]) (vs := [some (.str (kname kd) t), some (.none)]) (ns := [(Str.ofString "kind", NameKind.local), (Str.ofString "item", NameKind.local)]) hA rfl (by kernel_rfl) (fun _ => by kernel_rfl) (by kernel_rfl) (by kernel_rfl) (by kernel_rfl) (by kernel_rfl) rfl fun g A env hA he => ?_
    walk_at "ss"
    rw [lack_na]
    exact ⟨rfl, Le.refl⟩
  | int i =>
    obtain ⟨u, rfl⟩ := hv
    refine callK (binds := [(Str.ofString "kind", .str (kname kd) t), (Str.ofString "item", .int i u)]) (vs := [some (.str (kname kd) t), some (.int i u)]) (ns := [(Str.ofString "kind", NameKind.local), (Str.ofString "item", NameKind.local)]) hA rfl (by kernel_rfl) (fun _ => by kernel_rfl) (by kernel_rfl) (by kernel_rfl) (by kernel_rfl) (by kernel_rfl) rfl fun g A env hA he => ?_
    walk_at "ss"
    rw [kn_dbl]
    refine br_d (fun e => ?_) fun e => ?_
    · subst e; exact ho.elim
    · rw [decide_eq_false e]
      walk_at "ss"
      exact ⟨by cases kd <;> rfl, Le.refl⟩
  | str x =>
    obtain ⟨_, u, rfl⟩ := hv
    refine callK (binds := [(Str.ofString "kind", .str (kname kd) t), (Str.ofString "item", .str x u)]) (vs := [some (.str (kname kd) t), some (.str x u)]) (ns := [(Str.ofString "kind", NameKind.local), (Str.ofString "item", NameKind.local)]) hA rfl (by kernel_rfl) (fun _ => by kernel_rfl) (by kernel_rfl) (by kernel_rfl) (by kernel_rfl) (by kernel_rfl) rfl fun g A env hA he => ?_
    walk_at "ss"
    rw [kn_dbl]
    refine br_d (fun e => ?_) fun e => ?_
    · subst e; exact ho.elim
    · rw [decide_eq_false e]
      walk_at "ss"
      exact ⟨by cases kd <;> rfl, Le.refl⟩
  | dbl a b =>
    obtain ⟨x, t1, t2, k, rfl, hx⟩ := hv
    have hk : kd = .dbl := by cases kd <;> first | rfl | exact ho.elim
    subst hk
    refine callK (binds := [(Str.ofString "kind", .str (kname .dbl) t), (Str.ofString "item", .ref x)]) (vs := [some (.str (kname .dbl) t), some (.ref x)]) (ns := [(Str.ofString "kind", NameKind.local), (Str.ofString "item", NameKind.local)]) hA rfl (by kernel_rfl) (fun _ => by kernel_rfl) (by kernel_rfl) (by kernel_rfl) (by kernel_rfl) (by kernel_rfl) rfl fun g A env hA he => ?_
    walk_at "ss"
    rw [kn_dbl]
    refine br_d (fun e => ?_) fun e => absurd rfl e
    walk_at "ss"
    refine ⟨Nat.le_of_ble_eq_true rfl, fun y hy => ?_⟩
    refine W_eqD (RD.tuple (upd_get hy hx) (.cons .int (.cons .int .nil))) (RD.tuple upd_same (.cons .int (.cons .int .nil))) rfl rfl hA.units ?_
    walk_at "ss"
    refine ⟨?_, Le.upd hy⟩
    show Value.bool (a == 0 && (b == 0 && true)) = _
    rw [Bool.and_true]; rfl
theorem c_items {n : Nat} (hA : Ok (n + 3) A) {kd : Kd} {x y : It} {t : Tok} {u v : Value} (hx : Full kd x) (hy : Full kd y) (hu : ItV σ x u) (hv : ItV σ y v) : CW w os A (.ref 250) [.str (kname kd) t, u, v] σ fun r σ' => (∃ t, r = .int (cmpI x y) t) ∧ σ' = σ := by
  cases hx with
  | int i =>
    cases hy with
    | int j =>
    obtain ⟨t1, rfl⟩ := hu
    obtain ⟨t2, rfl⟩ := hv
    refine callK (binds := [(Str.ofString "kind", .str (kname .int) t), (Str.ofString "a", .int i t1), (Str.ofString "b", .int j t2)]) (vs := [some (.str (kname .int) t), some (.int i t1), some (.int j t2), none]) (ns := [(Str.ofString "kind", NameKind.local), (Str.ofString "a", NameKind.local), (Str.ofString "b", NameKind.local), (Str.ofString "compare", NameKind.globalImplicit)]) hA rfl (by kernel_rfl) (fun _ => by kernel_rfl) (by kernel_rfl) (by kernel_rfl) (by kernel_rfl) (by kernel_rfl) rfl fun g A env hA he => ?_
    walk_at "ss"
    rw [kn_dbl]
    refine br_f ?_
    walk_at "ss"
    refine br_d (fun e => ?_) fun e => ?_
    · walk_at "ss"; exact ⟨⟨_, by show Value.int (-1) _ = .int (sgn i j) _; unfold sgn; rw [if_pos e]⟩, rfl⟩
    · walk_at "ss"
      refine br_d (fun e' => ?_) fun e' => ?_
      · walk_at "ss"; exact ⟨⟨_, by show Value.int 1 _ = .int (sgn i j) _; unfold sgn; rw [if_neg e, if_pos e']⟩, rfl⟩
      · walk_at "ss"; exact ⟨⟨_, by show Value.int 0 _ = .int (sgn i j) _; unfold sgn; rw [if_neg e, if_neg e']⟩, rfl⟩
  | log i =>
    cases hy with
    | log j =>
    obtain ⟨t1, rfl⟩ := hu
    obtain ⟨t2, rfl⟩ := hv
    refine callK (binds := [(Str.ofString "kind", .str (kname .log) t), (Str.ofString "a", .int i t1), (Str.ofString "b", .int j t2)]) (vs := [some (.str (kname .log) t), some (.int i t1), some (.int j t2), none]) (ns := [(Str.ofString "kind", NameKind.local), (Str.ofString "a", NameKind.local), (Str.ofString "b", NameKind.local), (Str.ofString "compare", NameKind.globalImplicit)]) hA rfl (by kernel_rfl) (fun _ => by kernel_rfl) (by kernel_rfl) (by kernel_rfl) (by kernel_rfl) (by kernel_rfl) rfl fun g A env hA he => ?_
    walk_at "ss"
    rw [kn_dbl]
    refine br_f ?_
    walk_at "ss"
    refine br_d (fun e => ?_) fun e => ?_
    · walk_at "ss"; exact ⟨⟨_, by show Value.int (-1) _ = .int (sgn i j) _; unfold sgn; rw [if_pos e]⟩, rfl⟩
    · walk_at "ss"
      refine br_d (fun e' => ?_) fun e' => ?_
      · walk_at "ss"; exact ⟨⟨_, by show Value.int 1 _ = .int (sgn i j) _; unfold sgn; rw [if_neg e, if_pos e']⟩, rfl⟩
      · walk_at "ss"; exact ⟨⟨_, by show Value.int 0 _ = .int (sgn i j) _; unfold sgn; rw [if_neg e, if_neg e']⟩, rfl⟩
  | chr i =>
    cases hy with
    | chr j =>
    obtain ⟨_, t1, rfl⟩ := hu
    obtain ⟨_, t2, rfl⟩ := hv
    refine callK (binds := [(Str.ofString "kind", .str (kname .chr) t), (Str.ofString "a", .str i t1), (Str.ofString "b", .str j t2)]) (vs := [some (.str (kname .chr) t), some (.str i t1), some (.str j t2), none]) (ns := [(Str.ofString "kind", NameKind.local), (Str.ofString "a", NameKind.local), (Str.ofString "b", NameKind.local), (Str.ofString "compare", NameKind.globalImplicit)]) hA rfl (by kernel_rfl) (fun _ => by kernel_rfl) (by kernel_rfl) (by kernel_rfl) (by kernel_rfl) (by kernel_rfl) rfl fun g A env hA he => ?_
    walk_at "ss"
    rw [kn_dbl]
    refine br_f ?_
    walk_at "ss"
    refine br_d (fun e => ?_) fun e => ?_
    · walk_at "ss"; exact ⟨⟨_, by show Value.int (-1) _ = .int (cmpI (.str i) (.str j)) _; rw [cmpS, if_pos e]⟩, rfl⟩
    · walk_at "ss"
      refine br_d (fun e' => ?_) fun e' => ?_
      · walk_at "ss"; exact ⟨⟨_, by show Value.int 1 _ = .int (cmpI (.str i) (.str j)) _; rw [cmpS, if_neg e, if_pos e']⟩, rfl⟩
      · walk_at "ss"; exact ⟨⟨_, by show Value.int 0 _ = .int (cmpI (.str i) (.str j)) _; rw [cmpS, if_neg e, if_neg e']⟩, rfl⟩
  | dbl a b h1 h2 =>
    cases hy with
    | dbl c d h3 h4 =>
    refine callK (binds := [(Str.ofString "kind", .str (kname .dbl) t), (Str.ofString "a", u), (Str.ofString "b", v)]) (vs := [some (.str (kname .dbl) t), some (u), some (v), none]) (ns := [(Str.ofString "kind", NameKind.local), (Str.ofString "a", NameKind.local), (Str.ofString "b", NameKind.local), (Str.ofString "compare", NameKind.globalImplicit)]) hA rfl (by kernel_rfl) (fun _ => by kernel_rfl) (by kernel_rfl) (by kernel_rfl) (by kernel_rfl) (by kernel_rfl) rfl fun g A env hA he => ?_
    walk_at "ss"
    rw [kn_dbl]
    refine br_d (fun _ => ?_) fun e => absurd rfl e
    walk_at "ss"
    refine W_call ((c_compare hA h1 h3 h2 h4 hu hv).mono fun r σ' e => ?_)
    walk_at "ss"
    exact e
theorem c_places {n : Nat} (hA : Ok (n + 4) A) {x : Addr} {V : Vec} {at' : Value} {i j : Nat} {dec last : Bool} {ti tj : Tok} (hv : VecAt σ x V at') (ho : VOk V) (hi : i < V.items.length) (hj : j < V.items.length) :
    CW w os A (.ref 264) [.ref x, .int i ti, .int j tj, .bool dec, .bool last] σ fun r σ' => (∃ t, r = .int (cmpP V i j dec last) t) ∧ σ' = σ := by
  have b1 := ho.2
  have oi := ho.1.at i
  have oj := ho.1.at j
  refine callK (binds := [(Str.ofString "v", .ref x), (Str.ofString "i", .int i ti), (Str.ofString "j", .int j tj), (Str.ofString "decreasing", .bool dec), (Str.ofString "na_last", .bool last)]) (vs := [some (.ref x), some (.int i ti), some (.int j tj), some (.bool dec), some (.bool last), none, none, none, none, none, none, none]) (ns := [(Str.ofString "v", NameKind.local), (Str.ofString "i", NameKind.local), (Str.ofString "j", NameKind.local), (Str.ofString "decreasing", NameKind.local), (Str.ofString "na_last", NameKind.local), (Str.ofString "left", NameKind.local), (Str.ofString "right", NameKind.local), (Str.ofString "left_lacking", NameKind.local), (Str.ofString "right_lacking", NameKind.local), (Str.ofString "result", NameKind.local), (Str.ofString "is_lacking", NameKind.globalImplicit), (Str.ofString "compare_items", NameKind.globalImplicit)]) hA rfl (by kernel_rfl) (fun _ => by kernel_rfl) (by kernel_rfl) (by kernel_rfl) (by kernel_rfl) (by kernel_rfl) rfl fun g A env hA he => ?_
  walk_at "ss"
  refine W_vitems hv fun li l k hl hal => ?_
  obtain ⟨vi, ei, hvi⟩ := at_get hal hi
  walk_at "ss"
  refine W_itemN hl (by omega) ei ?_
  walk_at "ss"
  refine W_vitems hv fun li' l' k' hl' hal' => ?_
  obtain ⟨vj, ej, hvj⟩ := at_get hal' hj
  walk_at "ss"
  refine W_itemN hl' (by omega) ej ?_
  walk_at "ss"
  refine W_vkind hv fun tk => ?_
  walk_at "ss"
  refine W_callB (c_lack hA oi hvi) ?_
  walk_at "ss"
  refine W_vkind hv fun tk => ?_
  walk_at "ss"
  refine W_callB (c_lack hA oj hvj) ?_
  walk_at "ss"
  unfold cmpP cmpL
  refine ⟨fun e1 => ?_, fun e1 => ?_⟩
  · rw [if_pos e1]
    walk_at "ss"
    refine ⟨fun e2 => ?_, fun e2 => ?_⟩
    · rw [if_pos e2]
      walk_at "ss"
      exact ⟨⟨_, rfl⟩, rfl⟩
    · rw [if_neg (by rw [e2]; decide)]
      walk_at "ss"
      rw [e1]
      walk_at "ss"
      cases last
      · walk_at "ss"; exact ⟨⟨_, rfl⟩, rfl⟩
      · walk_at "ss"; exact ⟨⟨_, rfl⟩, rfl⟩
  · rw [if_neg (by rw [e1]; decide)]
    walk_at "ss"
    rw [e1]
    walk_at "ss"
    refine ⟨fun e2 => ?_, fun e2 => ?_⟩
    · rw [if_pos e2]
      walk_at "ss"
      cases last
      · walk_at "ss"; exact ⟨⟨_, rfl⟩, rfl⟩
      · walk_at "ss"; exact ⟨⟨_, rfl⟩, rfl⟩
    · rw [if_neg (by rw [e2]; decide)]
      walk_at "ss"
      refine W_vkind hv fun tk => ?_
      walk_at "ss"
      refine W_callI (c_items hA (full_of oi e1) (full_of oj e2) hvi hvj) fun t => ?_
      walk_at "ss"
      cases dec
      · walk_at "ss"; exact ⟨⟨_, rfl⟩, rfl⟩
      · walk_at "ss"; exact ⟨⟨_, rfl⟩, rfl⟩

/-! keys -/
def KeyR (σ : Led) (m : Nat) (V : Vec × Bool) (v : Value) : Prop := ∃ x at', v = .ref x ∧ VecAt σ x V.1 at' ∧ VOk V.1 ∧ V.1.items.length = m
def Keys (σ : Led) (m : Nat) (keys : List (Vec × Bool)) (ks : Addr) : Prop := keys.length ≤ 200 ∧ ∃ l k, σ ks = some (lst l k) ∧ All2 (KeyR σ m) keys l
def Flags (σ : Led) (keys : List (Vec × Bool)) (ds : Addr) : Prop := ∃ l k, σ ds = some (lst l k) ∧ All2 (fun V v => v = Value.bool V.2) keys l
theorem Keys.le {σ' : Led} {m : Nat} {keys : List (Vec × Bool)} {ks : Addr} (h : Keys σ m keys ks) (l : Le σ σ') : Keys σ' m keys ks := by
  obtain ⟨z, ll, k, e, r⟩ := h
  exact ⟨z, ll, k, l _ _ e, r.imp fun _ _ ⟨x, a, e1, e2, e3⟩ => ⟨x, a, e1, e2.le l, e3⟩⟩
theorem Flags.le {σ' : Led} {keys : List (Vec × Bool)} {ds : Addr} (h : Flags σ keys ds) (l : Le σ σ') : Flags σ' keys ds := by
  obtain ⟨ll, k, e, r⟩ := h
  exact ⟨ll, k, l _ _ e, r⟩
section
variable {prog : Program} {v : Value} {n : Nat} {P P' : Nat → Value → Prop} {S : Led → Prop}
theorem Itb.imp (h : Itb prog w A v σ n P S) (hp : ∀ i v, i < n → P i v → P' i v) : Itb prog w A v σ n P' S :=
  ⟨h.s0, fun s Q hl k => h.go s Q hl fun o ob hf h0 it => k o ob hf h0 ⟨it.fields, it.self, fun i o s Q hi ho z hS q => it.item i o s Q hi ho z hS fun v h' t o' p => q v h' t o' (hp i v hi p), it.fin⟩⟩
theorem rsize1 (a b : Nat) : Builtin.Range.rangeSize (a : Int) (b : Int) 1 = ((b - a : Nat) : Int) := by
  unfold Builtin.Range.rangeSize
  simp only [show (1 : Int) > 0 by decide, if_true, Int.ediv_one]
  split <;> omega
theorem itb_rangeN {r : Addr} {b : Nat} {t u x : Tok} (hA : A.handled = none) (e : σ r = some (rng 0 b 1 t u x)) (hb : b ≤ 1000000) : Itb prog w A (.ref r) σ b (fun i v => ∃ t, v = .int i t) (fun _ => True) :=
  (itb_range hA e (small_one (by decide) (by decide) (by omega) (by omega)) (by have := rsize1 0 b; simpa using this)).imp fun i v _ ⟨t, h⟩ => ⟨t, by rw [h]; congr 1; omega⟩
theorem itb_rangeAB {r : Addr} {a b : Nat} {t u x : Tok} (hA : A.handled = none) (e : σ r = some (rng a b 1 t u x)) (ha : a ≤ 1000000) (hb : b ≤ 1000000) : Itb prog w A (.ref r) σ (b - a) (fun i v => ∃ t, v = .int ((a + i : Nat) : Int) t) (fun _ => True) :=
  (itb_range hA e (small_one (by omega) (by omega) (by omega) (by omega)) (rsize1 a b)).imp fun i v _ ⟨t, h⟩ => ⟨t, by rw [h]; congr 1; push_cast; omega⟩
end
theorem c_keys {n : Nat} (hA : Ok (n + 5) A) {m : Nat} {keys : List (Vec × Bool)} {ks ds : Addr} {i j : Nat} {last : Bool} {ti tj : Tok} (hk : Keys σ m keys ks) (hd : Flags σ keys ds) (hi : i < m) (hj : j < m) :
    CW w os A (.ref 271) [.ref ks, .int i ti, .int j tj, .ref ds, .bool last] σ fun r σ' => (∃ t, r = .int (cmpK keys i j last) t) ∧ σ' = σ := by
  refine CallW.pure ?_
  have hk0 := hk
  have hd0 := hd
  obtain ⟨kz, lk, kk, ek, rk⟩ := hk
  obtain ⟨ld, kd, ed, rd⟩ := hd
  have lz := rk.length
  refine callK (binds := [(Str.ofString "vs", .ref ks), (Str.ofString "i", .int i ti), (Str.ofString "j", .int j tj), (Str.ofString "decreasing", .ref ds), (Str.ofString "na_last", .bool last)]) (vs := [some (.ref ks), some (.int i ti), some (.int j tj), some (.ref ds), some (.bool last), none, none, none, none, none]) (ns := [(Str.ofString "vs", NameKind.local), (Str.ofString "i", NameKind.local), (Str.ofString "j", NameKind.local), (Str.ofString "decreasing", NameKind.local), (Str.ofString "na_last", NameKind.local), (Str.ofString "number", NameKind.local), (Str.ofString "result", NameKind.local), (Str.ofString "range", NameKind.globalImplicit), (Str.ofString "len", NameKind.globalImplicit), (Str.ofString "compare_places", NameKind.globalImplicit)]) hA rfl (by kernel_rfl) (fun _ => by kernel_rfl) (by kernel_rfl) (by kernel_rfl) (by kernel_rfl) (by kernel_rfl) rfl fun g A env hA he => ?_
  refine W_cons ?_
  refine W_for (n := keys.length) (P := fun i v => ∃ t, v = .int i t) (S := fun _ => True) (fun a vs σ' => Le σ σ' ∧ (∃ nv rv, vs = [some (.ref ks), some (.int i ti), some (.int j tj), some (.ref ds), some (.bool last), nv, rv, none, none, none]) ∧ cmpK keys i j last = cmpK (keys.drop a) i j last) ?_ (fun _ _ _ _ => trivial) ?_ ?_
  · walk_at "ss"
    refine W_len ek (by omega) fun t => ?_
    walk_at "ss"
    refine W_range1 fun r t u v hr => ?_
    rw [lz]
    exact ⟨itb_rangeN hA.2.2 upd_same (by omega), Le.upd hr, ⟨_, _, rfl⟩, rfl⟩
  · rintro a v vs σ' g ha ⟨t, rfl⟩ ⟨hle, ⟨nv, rv, rfl⟩, hc⟩
    obtain ⟨xv, ex, x, at', rfl, hx, ho, hlen⟩ := rk.get (List.getElem?_eq_getElem ha)
    obtain ⟨fv, ef, rfl⟩ := rd.get (List.getElem?_eq_getElem ha)
    walk_at "ss"
    refine W_itemN (hle _ _ ek) (by omega) ex ?_
    walk_at "ss"
    refine W_itemN (hle _ _ ed) (by omega) ef ?_
    walk_at "ss"
    refine W_callI (c_places hA (hx.le hle) ho (by omega) (by omega)) fun t => ?_
    have hdrop : keys.drop a = keys[a] :: keys.drop (a + 1) := List.drop_eq_getElem_cons ha
    rw [hdrop] at hc
    have hc' : cmpK keys i j last = if cmpP keys[a].1 i j keys[a].2 last = 0 then cmpK (keys.drop (a + 1)) i j last else cmpP keys[a].1 i j keys[a].2 last := hc
    walk_at "ss"
    refine br_n (fun e => ?_) fun e => ?_
    · rw [if_neg e] at hc'
      walk_at "ss"
      rw [hc']
      exact ⟨⟨_, rfl⟩, hle⟩
    · rw [if_pos e] at hc'
      walk_at "ss"
      exact ⟨hle, ⟨_, _, rfl⟩, hc'⟩
  · rintro vs σ' ⟨hle, ⟨nv, rv, rfl⟩, hc⟩
    rw [List.drop_length] at hc
    walk_at "ss"
    rw [hc]
    exact ⟨⟨_, rfl⟩, hle⟩
end TextMK4
noncomputable section TextMK5
variable {w : World} {os : OsState} {A : Around} {σ : Led}
theorem szl {n : Nat} (h : n ≤ 100000) : n ≤ sizeLine := Nat.le_trans h (Nat.le_of_ble_eq_true rfl)
theorem pick_drop (l : List Value) (i : Nat) : kms_pick l (some (i : Int)) none = l.drop i := by
  unfold kms_pick kms_lo kms_hi
  simp only [show ¬ ((i : Int) < 0) by omega, if_false, Int.toNat_natCast]
  rcases Nat.le_total i l.length with h | h
  · rw [Nat.min_eq_left h, List.take_of_length_le (by simp)]
  · rw [Nat.min_eq_right h, List.drop_eq_nil_of_le (Nat.le_refl _), List.drop_eq_nil_of_le h, List.take_nil]
theorem c_merge {n : Nat} (hA : Ok (n + 6) A) {m : Nat} {keys : List (Vec × Bool)} {ks ds ln rn : Addr} {L R : List Nat} {last : Bool} (hk : Keys σ m keys ks) (hd : Flags σ keys ds) (hL : LN σ ln L) (hR : LN σ rn R)
    (bL : ∀ p ∈ L, p < m) (bR : ∀ p ∈ R, p < m) (hz : L.length + R.length ≤ 10000) :
    CW w os A (.ref 278) [.ref ln, .ref rn, .ref ks, .ref ds, .bool last] σ fun r σ' => ∃ a l k, r = .ref a ∧ σ a = none ∧ σ' = upd σ a (lst l k) ∧ NatL (mrg (fun i j => cmpK keys i j last) L R) l := by
  refine CallW.list ?_
  have hL0 := hL
  have hR0 := hR
  obtain ⟨ll, lk, el, nl⟩ := hL
  obtain ⟨rl, rk, er, nr⟩ := hR
  have ll' := nl.length
  have rl' := nr.length
  refine callK (binds := [(Str.ofString "left", .ref ln), (Str.ofString "right", .ref rn), (Str.ofString "vs", .ref ks), (Str.ofString "decreasing", .ref ds), (Str.ofString "na_last", .bool last)]) (vs := [some (.ref ln), some (.ref rn), some (.ref ks), some (.ref ds), some (.bool last), none, none, none, none, none]) (ns := [(Str.ofString "left", NameKind.local), (Str.ofString "right", NameKind.local), (Str.ofString "vs", NameKind.local), (Str.ofString "decreasing", NameKind.local), (Str.ofString "na_last", NameKind.local), (Str.ofString "merged", NameKind.local), (Str.ofString "i", NameKind.local), (Str.ofString "j", NameKind.local), (Str.ofString "len", NameKind.globalImplicit), (Str.ofString "compare_keys", NameKind.globalImplicit)]) hA rfl (by kernel_rfl) (fun _ => by kernel_rfl) (by kernel_rfl) (by kernel_rfl) (by kernel_rfl) (by kernel_rfl) rfl fun g A env hA he => ?_
  walk_at "ss"
  refine ⟨Nat.zero_le _, fun D hD => ?_⟩
  walk_at "ss"
  refine W_cons (W_while (fun z vs σ' => ∃ i j t t' M lm km, Le σ σ' ∧ σ' D = some (lst lm km) ∧ NatL M lm ∧ i ≤ L.length ∧ j ≤ R.length ∧ vs = [some (.ref ln), some (.ref rn), some (.ref ks), some (.ref ds), some (.bool last), some (.ref D), some (.int (i : Nat) t), some (.int (j : Nat) t'), none, none] ∧
    M ++ mrg (fun i j => cmpK keys i j last) (L.drop i) (R.drop j) = mrg (fun i j => cmpK keys i j last) L R ∧ z = (L.length - i) + (R.length - j) ∧ M.length = i + j) ?_ (L.length + R.length) ⟨0, 0, _, _, [], [], _, Le.upd hD, upd_same, .nil, Nat.zero_le _, Nat.zero_le _, rfl, rfl, rfl, rfl⟩)
  rintro z vs σ' ⟨i, j, t, t', M, lm, km, hle, hM, nM, hi, hj, rfl, hm, rfl, hlen⟩
  have lM := nM.length
  walk_at "ss"
  refine W_len (hle _ _ el) (by omega) fun _ => ?_
  walk_at "ss"
  rw [ll']
  refine br_d (fun e => ?_) fun e => ?_
  · walk_at "ss"
    refine W_len (hle _ _ er) (by omega) fun _ => ?_
    walk_at "ss"
    rw [rl']
    refine br_d (fun e' => ?_) fun e' => ?_
    · walk_at "ss"
      have hil : i < L.length := by omega
      have hjl : j < R.length := by omega
      obtain ⟨_, e1, u1, rfl⟩ := nl.get (List.getElem?_eq_getElem hil)
      obtain ⟨_, e2, u2, rfl⟩ := nr.get (List.getElem?_eq_getElem hjl)
      refine W_itemN (hle _ _ el) (by omega) e1 ?_
      walk_at "ss"
      refine W_itemN (hle _ _ er) (by omega) e2 ?_
      walk_at "ss"
      refine W_callI (c_keys hA (hk.le hle) (hd.le hle) (bL _ (List.getElem_mem hil)) (bR _ (List.getElem_mem hjl))) fun _ => ?_
      walk_at "ss"
      have dL : L.drop i = L[i] :: L.drop (i + 1) := List.drop_eq_getElem_cons hil
      have dR : R.drop j = R[j] :: R.drop (j + 1) := List.drop_eq_getElem_cons hjl
      have hm' := hm
      unfold mrg at hm'
      rw [dL, dR, List.cons_merge_cons] at hm'
      refine br_d (fun e3 => ?_) fun e3 => ?_
      · rw [if_pos (decide_eq_true e3), ← dR] at hm'
        walk_at "ss"
        refine ⟨_, _, _, rfl, hM, ?_⟩
        walk_at "ss"
        refine W_itemN (hle _ _ el) (by omega) e1 ?_
        refine ⟨_, _, hM, szl (by omega), ?_⟩
        walk_at "ss"
        refine ⟨_, by omega, i + 1, j, _, t', M ++ [L[i]], _, _, hle.upd_r hD, upd_same, nM.snoc ⟨_, rfl⟩, by omega, hj, rfl, ?_, rfl, by simp; omega⟩
        rw [List.append_assoc]; exact hm'
      · rw [if_neg (by simpa using e3), ← dL] at hm'
        walk_at "ss"
        refine ⟨_, _, _, rfl, hM, ?_⟩
        walk_at "ss"
        refine W_itemN (hle _ _ er) (by omega) e2 ?_
        refine ⟨_, _, hM, szl (by omega), ?_⟩
        walk_at "ss"
        refine ⟨_, by omega, i, j + 1, t, _, M ++ [R[j]], _, _, hle.upd_r hD, upd_same, nM.snoc ⟨_, rfl⟩, hi, by omega, rfl, ?_, rfl, by simp; omega⟩
        rw [List.append_assoc]; exact hm'
    · have hfin : M ++ L.drop i ++ R.drop j = mrg (fun i j => cmpK keys i j last) L R := by
        rw [← hm, List.append_assoc]
        congr 1
        rw [show R.drop j = [] from List.drop_eq_nil_of_le (by omega), List.append_nil]
        unfold mrg; rw [List.merge_right]
      walk_at "ss"
      refine ⟨_, _, _, _, _, rfl, hle _ _ el, szl (by omega), .int _ _, .none, fun b hb => ?_⟩
      rw [pick_drop]
      refine W_concat (upd_get hb hM) upd_same (szl (by simp; omega)) fun c hc => ?_
      walk_at "ss"
      have l1 : Le σ' (upd (upd σ' b (lst (ll.drop i) 0)) c (lst (lm ++ ll.drop i) 0)) := (Le.upd hb).trans (Le.upd hc)
      refine ⟨_, _, _, _, _, rfl, l1 _ _ (hle _ _ er), szl (by omega), .int _ _, .none, fun d hd' => ?_⟩
      rw [pick_drop]
      refine W_concat (upd_get hd' upd_same) upd_same (szl (by simp; omega)) fun f hf => ?_
      walk_at "ss"
      refine ⟨f, _, _, rfl, ?_, (hle.trans l1).trans ((Le.upd hd').trans (Le.upd hf)), upd_same, ?_⟩
      · cases q : σ f with
        | none => rfl
        | some o => rw [((hle.trans l1).trans (Le.upd hd')) _ _ q] at hf; cases hf
      · rw [← hfin]
        exact (nM.append (nl.drop i)).append (nr.drop j)
  · have hfin : M ++ L.drop i ++ R.drop j = mrg (fun i j => cmpK keys i j last) L R := by
      rw [← hm, List.append_assoc]
      congr 1
      rw [show L.drop i = [] from List.drop_eq_nil_of_le (by omega), List.nil_append]
      unfold mrg; rw [List.nil_merge]
    walk_at "ss"
    refine ⟨_, _, _, _, _, rfl, hle _ _ el, szl (by omega), .int _ _, .none, fun b hb => ?_⟩
    rw [pick_drop]
    refine W_concat (upd_get hb hM) upd_same (szl (by simp; omega)) fun c hc => ?_
    walk_at "ss"
    have l1 : Le σ' (upd (upd σ' b (lst (ll.drop i) 0)) c (lst (lm ++ ll.drop i) 0)) := (Le.upd hb).trans (Le.upd hc)
    refine ⟨_, _, _, _, _, rfl, l1 _ _ (hle _ _ er), szl (by omega), .int _ _, .none, fun d hd' => ?_⟩
    rw [pick_drop]
    refine W_concat (upd_get hd' upd_same) upd_same (szl (by simp; omega)) fun f hf => ?_
    walk_at "ss"
    refine ⟨f, _, _, rfl, ?_, (hle.trans l1).trans ((Le.upd hd').trans (Le.upd hf)), upd_same, ?_⟩
    · cases q : σ f with
      | none => rfl
      | some o => rw [((hle.trans l1).trans (Le.upd hd')) _ _ q] at hf; cases hf
    · rw [← hfin]
      exact (nM.append (nl.drop i)).append (nr.drop j)
end TextMK5
noncomputable section TextMK6
variable {w : World} {os : OsState} {A : Around} {σ : Led}
theorem swapT {s : Scope} {env : Env} {elt : Expr} {gens : List Comprehension} {sc : Scope} {pos p : Pos} {t : Str} {line : Nat} (he : env.scope = s)
    (h : ((if s.kind.isAnnotationScope then ScopeKind.function else s.kind) == .function && s.names.lookup t == some .local && p.line == pos.line && !(sc.names.any fun (n, k) => n == t && (k == .local || k == .cell))) = true) :
    swapsWith (.ListComp elt gens sc pos) (some (.Name t p)) line env = pure true := by
  have h' : (env.blockKind == .function && env.kindOf t == some .local && p.line == pos.line && !(sc.names.any fun (n, k) => n == t && (k == .local || k == .cell))) = true := by
    unfold Env.blockKind Env.kindOf
    rw [he]; exact h
  show (pure (env.blockKind == .function && env.kindOf t == some .local && p.line == pos.line && !(sc.names.any fun (n, k) => n == t && (k == .local || k == .cell))) : Sem Bool) = pure true
  rw [h']
theorem swapF {s : Scope} {env : Env} {elt : Expr} {gens : List Comprehension} {sc : Scope} {pos p : Pos} {t : Str} {line : Nat} (he : env.scope = s)
    (h : ((if s.kind.isAnnotationScope then ScopeKind.function else s.kind) == .function && s.names.lookup t == some .local && p.line == pos.line && !(sc.names.any fun (n, k) => n == t && (k == .local || k == .cell))) = false) :
    swapsWith (.ListComp elt gens sc pos) (some (.Name t p)) line env = pure false := by
  have h' : (env.blockKind == .function && env.kindOf t == some .local && p.line == pos.line && !(sc.names.any fun (n, k) => n == t && (k == .local || k == .cell))) = false := by
    unfold Env.blockKind Env.kindOf
    rw [he]; exact h
  show (pure (env.blockKind == .function && env.kindOf t == some .local && p.line == pos.line && !(sc.names.any fun (n, k) => n == t && (k == .local || k == .cell))) : Sem Bool) = pure false
  rw [h']
theorem fmodL (n : Nat) (k : Int) (m : Nat) (hk : k = m) : (n : Int).fmod k = ((n % m : Nat) : Int) := by
  subst hk; rw [Int.fmod_eq_emod_of_nonneg _ (by omega)]; rfl
theorem rsize2 (n : Nat) (h : 2 ≤ n) : Builtin.Range.rangeSize 0 ((n : Int) - 1) 2 = ((n / 2 : Nat) : Int) := by
  unfold Builtin.Range.rangeSize
  simp only [show (2 : Int) > 0 by decide, if_true]
  split <;> omega
theorem small2 (n : Nat) (h : 2 ≤ n) (h' : n ≤ 1000000) : Builtin.Range.small 0 ((n : Int) - 1) 2 = true := by
  unfold Builtin.Range.small
  rw [rsize2 n h]
  simp only [Builtin.Range.rangeFitsLong, Bool.and_eq_true, Bool.or_eq_true, decide_eq_true_eq, beq_iff_eq, show (2 : Int) > 0 by decide, if_true]
  omega
/-- the runs -/
def RunR (σ₀ σ : Led) (r : List Nat) (v : Value) : Prop := ∃ a, v = .ref a ∧ σ₀ a = none ∧ LN σ a r
theorem RunR.le {σ₀ σ σ' : Led} {r : List Nat} {v : Value} (h : RunR σ₀ σ r v) (l : Le σ σ') : RunR σ₀ σ' r v := by
  obtain ⟨a, e, n, h⟩ := h; exact ⟨a, e, n, h.le l⟩
def RunE (σ₀ : Led) (E : Addr) (σ : Led) (r : List Nat) (v : Value) : Prop := ∃ a, v = .ref a ∧ σ₀ a = none ∧ a ≠ E ∧ LN σ a r
theorem RunE.le {σ₀ σ σ' : Led} {E : Addr} {r : List Nat} {v : Value} (h : RunE σ₀ E σ r v) (l : Le σ σ') : RunE σ₀ E σ' r v := by
  obtain ⟨a, e, n, ne, h⟩ := h; exact ⟨a, e, n, ne, h.le l⟩
theorem RunE.set {σ₀ σ : Led} {E : Addr} {r : List Nat} {v : Value} {o : Obj} (h : RunE σ₀ E σ r v) : RunE σ₀ E (upd σ E o) r v := by
  obtain ⟨a, e, n, ne, l, k, x, y⟩ := h; exact ⟨a, e, n, ne, l, k, by rw [upd_ne ne]; exact x, y⟩
theorem RunE.run {σ₀ σ : Led} {E : Addr} {r : List Nat} {v : Value} (h : RunE σ₀ E σ r v) : RunR σ₀ σ r v := by
  obtain ⟨a, e, n, ne, h⟩ := h; exact ⟨a, e, n, h⟩
theorem flat1 : ∀ ps : List Nat, (ps.map fun p => [p]).flatten = ps
  | [] => rfl
  | a :: r => by rw [List.map_cons, List.flatten_cons, flat1 r]; rfl
theorem none_of_le {σ σ' : Led} {a : Addr} (l : Le σ σ') (h : σ' a = none) : σ a = none := by
  cases q : σ a with
  | none => rfl
  | some o => rw [l _ _ q] at h; cases h
theorem pass_perm (c : Nat → Nat → Int) : ∀ rs : List (List Nat), (pass c rs).flatten.Perm rs.flatten
  | [] => .refl _
  | [_] => .refl _
  | x :: y :: rs => by
    show (mrg c x y ++ (pass c rs).flatten).Perm (x ++ (y ++ rs.flatten))
    rw [← List.append_assoc]
    exact (mrg_perm c x y).append (pass_perm c rs)
theorem upd_keep {D : Addr} {l l' : List Value} {k k' : Nat} {a : Addr} {o : Obj} (hn : a ≠ D) (h : σ a = some o) : upd σ D (lst l k) a = some o := by rw [upd_ne hn]; exact h
theorem c_sort {n : Nat} (hA : Ok (n + 7) A) {m : Nat} {keys : List (Vec × Bool)} {ks ds pl : Addr} {ps : List Nat} {last : Bool} (hk : Keys σ m keys ks) (hd : Flags σ keys ds) (hP : LN σ pl ps)
    (bP : ∀ p ∈ ps, p < m) (hz : ps.length ≤ 10000) :
    CW w os A (.ref 283) [.ref pl, .ref ks, .ref ds, .bool last] σ fun r σ' => ∃ a l k, r = .ref a ∧ σ a = none ∧ σ' = upd σ a (lst l k) ∧ ∃ r, NatL r l ∧ ((ps = [] ∧ r = []) ∨ ∃ j, passes (fun i j => cmpK keys i j last) j (ps.map fun p => [p]) = [r]) := by
  refine CallW.list ?_
  have hP0 := hP
  obtain ⟨ll, lk, el, nl⟩ := hP
  have ll' := nl.length
  refine callK (binds := [(Str.ofString "places", .ref pl), (Str.ofString "vs", .ref ks), (Str.ofString "decreasing", .ref ds), (Str.ofString "na_last", .bool last)]) (vs := [some (.ref pl), some (.ref ks), some (.ref ds), some (.bool last), none, none, none, none, none, none]) (ns := [(Str.ofString "places", NameKind.local), (Str.ofString "vs", NameKind.local), (Str.ofString "decreasing", NameKind.local), (Str.ofString "na_last", NameKind.local), (Str.ofString "runs", NameKind.local), (Str.ofString "longer", NameKind.local), (Str.ofString "at", NameKind.local), (Str.ofString "len", NameKind.globalImplicit), (Str.ofString "range", NameKind.globalImplicit), (Str.ofString "merge_runs", NameKind.globalImplicit)]) hA rfl (by kernel_rfl) (fun _ => by kernel_rfl) (by kernel_rfl) (by kernel_rfl) (by kernel_rfl) (by kernel_rfl) rfl fun g A env hA he => ?_
  refine W_sAssignComp .nil rfl rfl (by kernel_rfl) (by kernel_rfl) ?_ (hsw := swapT he (by kernel_rfl))
  walk_at "ss"
  refine ⟨rfl, ll.length, _, _, fun i out σ' => Le σ σ' ∧ All2 (RunR σ σ') ((ps.take i).map fun p => [p]) out, itb_list hA.2.2 el, ⟨Le.refl, by simp; exact .nil⟩, szl (by omega), fun i out σ' h => ⟨_, h.1 _ _ el⟩, ?_, ?_⟩
  · rintro i v out σ' g cenv hi hv ⟨hle, hr⟩ hlen
    refine W_tst0 ⟨rfl, fun _ => ?_, fun e => nomatch e⟩
    walk_at "ss"
    refine ⟨Nat.le_of_ble_eq_true rfl, fun a ha => ⟨rfl, hle.trans (Le.upd ha), ?_⟩⟩
    obtain ⟨p, ep, t, rfl⟩ := nl.get' hv
    have e : (ps.take (i + 1)).map (fun p => [p]) = (ps.take i).map (fun p => [p]) ++ [[p]] := by
      rw [List.take_add_one, ep]; simp
    rw [e]
    refine (hr.imp fun _ _ h => h.le (Le.upd ha)).snoc ⟨a, rfl, ?_, _, _, upd_same, .cons ⟨t, rfl⟩ .nil⟩
    cases q : σ a with
    | none => rfl
    | some o => rw [hle _ _ q] at ha; cases ha
  rintro D out σ₂ k hD0 hD ⟨hle, hr⟩
  rw [ll', List.take_length] at hr
  have lr := hr.length
  rw [List.length_map] at lr
  walk_at "ss"
  refine W_len upd_same (by omega) fun t => ?_
  walk_at "ss"
  refine br_e (fun e => ?_) fun e => ?_
  · walk_at "ss"
    refine ⟨Nat.zero_le _, fun b hb => ?_⟩
    walk_at "ss"
    have l1 := (hle.trans (Le.upd (o := lst out k) hD)).trans (Le.upd (o := lst [] 0) hb)
    refine ⟨b, _, _, rfl, ?_, l1, upd_same, [], .nil, .inl ⟨List.length_eq_zero_iff.mp (by omega), rfl⟩⟩
    cases q : σ b with
    | none => rfl
    | some o => rw [(hle.trans (Le.upd hD)) _ _ q] at hb; cases hb
  walk_at "ss"
  refine W_cons (W_while (fun z vs σ' => ∃ j rs D l k lv av, Le σ σ' ∧ σ D = none ∧ σ' D = some (lst l k) ∧ All2 (RunR σ σ') rs l ∧ rs = passes (fun i j => cmpK keys i j last) j (ps.map fun p => [p]) ∧ rs ≠ [] ∧ z = rs.length ∧ rs.flatten.Perm ps ∧ rs.length ≤ ps.length ∧
    vs = [some (.ref pl), some (.ref ks), some (.ref ds), some (.bool last), some (.ref D), lv, av, none, none, none]) ?_ ps.length ?_)
  · rintro z vs σ' ⟨j, rs, D, l, k, lv, av, hle, hD, hl, hrs, hpass, hne, rfl, hperm, hlen, rfl⟩
    have lz := hrs.length
    walk_at "ss"
    refine W_len hl (by omega) fun t => ?_
    walk_at "ss"
    rw [lz]
    refine br_d (fun e => ?_) fun e => ?_
    · have hb : ∀ r ∈ rs, ∀ p ∈ r, p < m := fun r hr p hp => bP p (hperm.subset (List.mem_flatten.mpr ⟨r, hr, hp⟩))
      have hfl := hperm.length_eq
      walk_at "ss"
      refine ⟨Nat.zero_le _, fun E hE => ?_⟩
      walk_at "ss"
      refine W_cons (W_for (n := rs.length / 2) (P := fun i v => ∃ t, v = .int ((2 * i : Nat) : Int) t) (S := fun _ => True) (fun i vs σ'' => ∃ M lm km av, Le σ' σ'' ∧ σ'' E = some (lst lm km) ∧ All2 (RunE σ E σ'') M lm ∧
        M ++ pass (fun i j => cmpK keys i j last) (rs.drop (2 * i)) = pass (fun i j => cmpK keys i j last) rs ∧ M.length = i ∧
        vs = [some (.ref pl), some (.ref ks), some (.ref ds), some (.bool last), some (.ref D), some (.ref E), av, none, none, none]) ?_ (fun _ _ _ _ => trivial) ?_ ?_)
      · walk_at "ss"
        refine W_len (upd_get hE hl) (by omega) fun t => ?_
        walk_at "ss"
        refine W_range3 (by decide) (PyProof.noPylong_of_log2 (by decide)) fun r t u v hr => ?_
        rw [lz]
        refine ⟨(itb_range hA.2.2 upd_same (small2 _ (by omega) (by omega)) (rsize2 _ (by omega))).imp fun i v _ ⟨t, h⟩ => ⟨t, by rw [h]; congr 1; push_cast; omega⟩, [], [], _, _, (Le.upd hE).trans (Le.upd hr), upd_get hr upd_same, .nil, rfl, rfl, rfl⟩
      · rintro i v vs σ'' g hi ⟨t, rfl⟩ ⟨M, lm, km, av, hle2, hE2, hM, hpp, rfl, rfl⟩
        have hi1 : 2 * M.length < rs.length := by omega
        have hi2 : 2 * M.length + 1 < rs.length := by omega
        have lM := hM.length
        have hdr : rs.drop (2 * M.length) = rs[2 * M.length] :: rs[2 * M.length + 1] :: rs.drop (2 * M.length + 2) := by
          rw [List.drop_eq_getElem_cons hi1, List.drop_eq_getElem_cons hi2]
        have hsum : rs[2 * M.length].length + rs[2 * M.length + 1].length ≤ 10000 := by
          have e1 : rs.flatten = (rs.take (2 * M.length)).flatten ++ (rs[2 * M.length] ++ (rs[2 * M.length + 1] ++ (rs.drop (2 * M.length + 2)).flatten)) := by
            rw [← List.flatten_cons, ← List.flatten_cons, ← hdr, ← List.flatten_append, List.take_append_drop]
          have := congrArg List.length e1
          simp only [List.length_append] at this
          omega
        obtain ⟨_, x1, a1, rfl, _, na1⟩ := hrs.get (List.getElem?_eq_getElem hi1)
        obtain ⟨_, x2, a2, rfl, _, na2⟩ := hrs.get (List.getElem?_eq_getElem hi2)
        walk_at "ss"
        refine ⟨_, _, _, rfl, hE2, ?_⟩
        walk_at "ss"
        refine W_itemN (hle2 _ _ hl) (by omega) x1 ?_
        walk_at "ss"
        refine W_item (hle2 _ _ hl) (by omega) (by omega) (by rw [show (((2 * M.length : Nat) : Int) + 1).toNat = 2 * M.length + 1 by omega]; exact x2) ?_
        walk_at "ss"
        refine W_call ((c_merge hA ((hk.le hle).le hle2) ((hd.le hle).le hle2) (na1.le hle2) (na2.le hle2) (hb _ (List.getElem_mem hi1)) (hb _ (List.getElem_mem hi2)) hsum).mono fun r σ' e => ?_)
        obtain ⟨x, lx, kx, rfl, hx, rfl, nx⟩ := e
        refine ⟨_, _, upd_get hx hE2, szl (by omega), ?_⟩
        walk_at "ss"
        refine ⟨M ++ [_], _, _, _, (hle2.trans (Le.upd hx)).upd_r hE, upd_same, All2.snoc (hM.imp fun _ _ h => (h.le (Le.upd hx)).set) (RunE.set ⟨x, rfl, none_of_le (hle.trans hle2) hx, (by rintro rfl; rw [hE2] at hx; cases hx), _, _, upd_same, nx⟩), ?_, by simp, rfl⟩
        rw [← hpp, hdr, List.append_assoc]
        rfl
      · rintro vs σ'' ⟨M, lm, km, av, hle2, hE2, hM, hpp, hlM, rfl⟩
        have lM := hM.length
        walk_at "ss"
        refine W_len (hle2 _ _ hl) (by omega) fun t => ?_
        walk_at "ss"
        refine W_mod (by decide) fun t => ?_
        rw [lz, fmodL _ 2 2 rfl]
        walk_at "ss"
        have hplen := pass_length (fun i j => cmpK keys i j last) rs
        refine br_e (fun eo => ?_) fun eo => ?_
        · have hlast : rs.length - 1 < rs.length := by omega
          obtain ⟨_, x1, a1, rfl, na0, na1⟩ := hrs.get (List.getElem?_eq_getElem hlast)
          walk_at "ss"
          refine ⟨_, _, _, rfl, hE2, ?_⟩
          walk_at "ss"
          refine W_itemLast (hle2 _ _ hl) (by omega) (by rw [List.getLast?_eq_getElem?, lz]; exact x1) ?_
          refine ⟨_, _, hE2, szl (by omega), ?_⟩
          walk_at "ss"
          have hd1 : rs.drop (2 * (rs.length / 2)) = [rs[rs.length - 1]] := by
            rw [show 2 * (rs.length / 2) = rs.length - 1 by omega, List.drop_eq_getElem_cons hlast, List.drop_eq_nil_of_le (by omega)]
          rw [hd1] at hpp
          have hpp' : M ++ [rs[rs.length - 1]] = pass (fun i j => cmpK keys i j last) rs := hpp
          have nE : a1 ≠ E := by
            rintro rfl
            obtain ⟨_, _, z, _⟩ := na1
            rw [hE] at z; cases z
          refine ⟨_, ?_, j + 1, pass (fun i j => cmpK keys i j last) rs, E, _, _, _, _, (hle.trans hle2).upd_r (none_of_le hle hE), none_of_le hle hE, upd_same, ?_, by rw [hpass]; rfl, ?_, rfl, (pass_perm _ _).trans hperm, by omega, rfl⟩
          · omega
          · rw [← hpp']
            exact All2.snoc (hM.imp fun _ _ h => h.set.run) (RunE.run (RunE.set ⟨a1, rfl, na0, nE, na1.le hle2⟩))
          · intro h0; rw [h0] at hplen; simp at hplen; omega
        · walk_at "ss"
          have hd1 : rs.drop (2 * (rs.length / 2)) = [] := List.drop_eq_nil_of_le (by omega)
          rw [hd1] at hpp
          have hpp' : M = pass (fun i j => cmpK keys i j last) rs := by rw [← hpp]; exact (List.append_nil _).symm
          refine ⟨_, ?_, j + 1, pass (fun i j => cmpK keys i j last) rs, E, _, _, _, _, (hle.trans hle2), none_of_le hle hE, hE2, ?_, by rw [hpass]; rfl, ?_, rfl, (pass_perm _ _).trans hperm, by omega, rfl⟩
          · omega
          · rw [← hpp']
            exact hM.imp fun _ _ h => h.run
          · intro h0; rw [h0] at hplen; simp at hplen; omega
    · have h1 : rs.length = 1 := by
        cases rs with
        | nil => exact absurd rfl hne
        | cons a r => simp only [List.length_cons] at e ⊢; omega
      obtain ⟨r, rfl⟩ : ∃ r, rs = [r] := by
        cases rs with
        | nil => cases h1
        | cons a r => cases r with
          | nil => exact ⟨a, rfl⟩
          | cons b r => simp at h1
      obtain ⟨_, x1, a1, rfl, na0, ll1, k1, z1, z2⟩ := hrs.get (i := 0) rfl
      walk_at "ss"
      refine W_item hl (by decide) (by decide) x1 ?_
      walk_at "ss"
      exact ⟨a1, _, _, rfl, na0, hle, z1, r, z2, .inr ⟨j, hpass.symm⟩⟩
  · refine ⟨0, _, D, _, _, none, none, hle.trans (Le.upd hD), none_of_le hle hD, upd_same, hr.imp fun _ _ h => h.le (Le.upd hD), rfl, ?_, by simp, ?_, by simp, rfl⟩
    · intro h0; have := congrArg List.length h0; simp at this; rw [this] at lr; simp at lr; rw [lr] at e; exact e rfl
    · rw [flat1]
end TextMK6
noncomputable section TextMK7
variable {w : World} {os : OsState} {A : Around} {σ : Led}
theorem c_length {n : Nat} (hA : Ok (n + 1) A) {x : Addr} {V : Vec} {at' : Value} (hv : VecAt σ x V at') (hz : V.items.length ≤ 1000) : CW w os A (.ref 167) [.ref x] σ fun r σ' => (∃ t, r = .int V.items.length t) ∧ σ' = σ := by
  refine callK (binds := [(Str.ofString "v", .ref x)]) (vs := [some (.ref x), none, none, none, none]) (ns := [(Str.ofString "v", NameKind.local), (Str.ofString "kind", NameKind.local), (Str.ofString "isinstance", NameKind.globalImplicit), (Str.ofString "Vector", NameKind.globalImplicit), (Str.ofString "len", NameKind.globalImplicit)]) hA rfl (by kernel_rfl) (fun _ => by kernel_rfl) (by kernel_rfl) (by kernel_rfl) (by kernel_rfl) (by kernel_rfl) rfl fun g A env hA he => ?_
  walk_at "ss"
  refine W_vkind hv fun tk => ?_
  walk_at "ss"
  rw [kn_null]
  walk_at "ss"
  refine W_visi hv ?_
  walk_at "ss"
  refine W_vitems hv fun li l k hl hal => ?_
  have := hal.length
  walk_at "ss"
  refine W_len hl (by omega) fun t => ?_
  walk_at "ss"
  rw [this]
  exact ⟨⟨_, rfl⟩, rfl⟩
theorem c_check {n : Nat} (hA : Ok (n + 1) A) {x : Addr} {V : Vec} {at' : Value} (hv : VecAt σ x V at') : CW w os A (.ref 257) [.ref x] σ fun r σ' => r = .none ∧ σ' = σ := by
  refine CallW.pure ?_
  refine callK (binds := [(Str.ofString "v", .ref x)]) (vs := [some (.ref x), none]) (ns := [(Str.ofString "v", NameKind.local), (Str.ofString "Refusal", NameKind.globalImplicit)]) hA rfl (by kernel_rfl) (fun _ => by kernel_rfl) (by kernel_rfl) (by kernel_rfl) (by kernel_rfl) (by kernel_rfl) rfl fun g A env hA he => ?_
  walk_at "ss"
  refine W_vkind hv fun tk => ?_
  walk_at "ss"
  refine ⟨Nat.le_of_ble_eq_true rfl, fun a ha => ?_⟩
  refine W_notin_tup upd_same (.cons _ _ (.cons _ _ (.cons _ _ (.cons _ _ .nil)))) ?_
  rw [kn_in]
  walk_at "ss"
  exact ⟨rfl, Le.upd ha⟩
theorem flags_rep {keys : List (Vec × Bool)} {b : Bool} (h : ∀ k ∈ keys, k.2 = b) : All2 (fun V v => v = Value.bool V.2) keys (List.replicate keys.length [Value.bool b]).flatten := by
  induction keys with
  | nil => exact .nil
  | cons k r ih =>
    rw [List.length_cons, List.replicate_succ, List.flatten_cons]
    exact .cons (by rw [h k List.mem_cons_self]) (ih fun q hq => h q (List.mem_cons_of_mem _ hq))
def DecV (σ : Led) (keys : List (Vec × Bool)) (d : Value) : Prop := (∃ b, d = .bool b ∧ ∀ k ∈ keys, k.2 = b) ∨ ∃ ds, d = .ref ds ∧ Flags σ keys ds
theorem c_each {n : Nat} (hA : Ok (n + 1) A) {keys : List (Vec × Bool)} {d : Value} {t : Tok} (hd : DecV σ keys d) (hz : keys.length ≤ 200) :
    CW w os A (.ref 288) [d, .int keys.length t] σ fun r σ' => ∃ a l k, r = .ref a ∧ σ a = none ∧ σ' = upd σ a (lst l k) ∧ All2 (fun V v => v = Value.bool V.2) keys l := by
  refine CallW.list ?_
  rcases hd with ⟨b, rfl, hb⟩ | ⟨ds, rfl, l, k, hl, hf⟩
  · refine callK (binds := [(Str.ofString "decreasing", .bool b), (Str.ofString "count", .int keys.length t)]) (vs := [some (.bool b), some (.int keys.length t), none, none, none]) (ns := [(Str.ofString "decreasing", NameKind.cell), (Str.ofString "count", NameKind.local), (Str.ofString "isinstance", NameKind.globalImplicit), (Str.ofString "list", NameKind.globalImplicit), (Str.ofString "range", NameKind.globalImplicit)]) hA rfl (by kernel_rfl) (fun _ => by kernel_rfl) (by kernel_rfl) (by kernel_rfl) (by kernel_rfl) (by kernel_rfl) rfl fun g A env hA he => ?_
    walk_at "ss"
    refine W_isiB ?_
    walk_at "ss"
    refine ⟨Nat.le_of_ble_eq_true rfl, fun a ha => ?_⟩
    walk_at "ss"
    refine W_repeat upd_same (by omega) (by omega) (by simp; omega) fun c hc => ?_
    walk_at "ss"
    rw [Int.toNat_natCast]
    exact ⟨c, _, _, rfl, none_of_le (Le.upd ha) hc, (Le.upd ha).trans (Le.upd hc), upd_same, flags_rep hb⟩
  · have hlen := hf.length
    refine callK (binds := [(Str.ofString "decreasing", .ref ds), (Str.ofString "count", .int keys.length t)]) (vs := [some (.ref ds), some (.int keys.length t), none, none, none]) (ns := [(Str.ofString "decreasing", NameKind.cell), (Str.ofString "count", NameKind.local), (Str.ofString "isinstance", NameKind.globalImplicit), (Str.ofString "list", NameKind.globalImplicit), (Str.ofString "range", NameKind.globalImplicit)]) hA rfl (by kernel_rfl) (fun _ => by kernel_rfl) (by kernel_rfl) (by kernel_rfl) (by kernel_rfl) (by kernel_rfl) rfl fun g A env hA he => ?_
    walk_at "ss"
    refine W_isiL hl ?_
    walk_at "ss"
    refine W_comp (.both (by walk_at "ld")) rfl rfl (by kernel_rfl) (by kernel_rfl) ?_
    walk_at "ss"
    refine W_range1 fun r t u v hr => ?_
    refine ⟨rfl, keys.length, _, _, fun i out σ' => Le σ σ' ∧ All2 (fun V v => v = Value.bool V.2) (keys.take i) out, itb_rangeN hA.2.2 upd_same (by omega), ⟨Le.upd hr, by simp; exact .nil⟩, szl (by omega), fun _ _ _ _ => trivial, ?_, ?_⟩
    · rintro i v out σ' g cenv hi ⟨t, rfl⟩ ⟨hle, hr⟩ hlen'
      refine W_tst0 ⟨rfl, fun _ => ?_, fun e => nomatch e⟩
      walk_at "ss"
      refine W_len (hle _ _ hl) (by omega) fun t => ?_
      rw [hlen]
      refine W_mod (by omega) fun t => ?_
      rw [fmodL _ _ keys.length rfl, Nat.mod_eq_of_lt hi]
      obtain ⟨_, e1, rfl⟩ := hf.get (List.getElem?_eq_getElem hi)
      refine W_itemN (hle _ _ hl) (by omega) e1 ?_
      refine ⟨rfl, hle, ?_⟩
      rw [List.take_add_one, List.getElem?_eq_getElem hi]
      exact hr.snoc rfl
    · rintro D out σ₂ k _ hD ⟨hle, hr⟩
      rw [List.take_length] at hr
      walk_at "ss"
      exact ⟨D, _, _, rfl, none_of_le hle hD, hle.trans (Le.upd hD), upd_same, hr⟩
abbrev nlv : Option Bool → Value
  | none => .none
  | some b => .bool b
def keptP (keys : List (Vec × Bool)) (nl : Option Bool) (i : Nat) : Bool := nl.isSome || keys.all fun V => !lack V.1.kd (V.1.at i)
def kept (keys : List (Vec × Bool)) (m : Nat) (nl : Option Bool) : List Nat := (List.range m).filter (keptP keys nl)
theorem kept_step (keys : List (Vec × Bool)) (i : Nat) (nl : Option Bool) : kept keys (i + 1) nl = kept keys i nl ++ if keptP keys nl i then [i] else [] := by
  unfold kept
  rw [List.range_succ, List.filter_append]
  congr 1
  cases h : keptP keys nl i <;> simp [h]
theorem c_kept {n : Nat} (hA : Ok (n + 2) A) {m : Nat} {keys : List (Vec × Bool)} {ks : Addr} {nl : Option Bool} (hk : Keys σ m keys ks) (hne : keys ≠ []) :
    CW w os A (.ref 295) [.ref ks, nlv nl] σ fun r σ' => ∃ a l k, r = .ref a ∧ σ a = none ∧ σ' = upd σ a (lst l k) ∧ NatL (kept keys m nl) l := by
  refine CallW.list ?_
  have hk0 := hk
  obtain ⟨kz, lk, kk, ek, rk⟩ := hk
  have lz := rk.length
  have h0 : 0 < keys.length := by cases keys with | nil => exact absurd rfl hne | cons a r => simp
  obtain ⟨_, e0, x0, at0, rfl, hx0, ho0, hm0⟩ := rk.get (List.getElem?_eq_getElem h0)
  have hm : m ≤ 1000 := by have := ho0.2; omega
  refine callK (binds := [(Str.ofString "vs", .ref ks), (Str.ofString "na_last", nlv nl)]) (vs := [some (.ref ks), some (nlv nl), none, none, none, none, none, none, none]) (ns := [(Str.ofString "vs", NameKind.local), (Str.ofString "na_last", NameKind.local), (Str.ofString "places", NameKind.local), (Str.ofString "place", NameKind.local), (Str.ofString "keep", NameKind.local), (Str.ofString "v", NameKind.local), (Str.ofString "range", NameKind.globalImplicit), (Str.ofString "length", NameKind.globalImplicit), (Str.ofString "is_lacking", NameKind.globalImplicit)]) hA rfl (by kernel_rfl) (fun _ => by kernel_rfl) (by kernel_rfl) (by kernel_rfl) (by kernel_rfl) (by kernel_rfl) rfl fun g A env hA he => ?_
  walk_at "ss"
  refine ⟨Nat.zero_le _, fun D hD => ?_⟩
  walk_at "ss"
  have l0 : Le σ (upd σ D (lst [] 0)) := Le.upd hD
  refine W_cons (W_for (n := m) (P := fun i v => ∃ t, v = .int i t) (S := fun _ => True) (fun i vs σ' => ∃ lm km pv kv vv, Le σ σ' ∧ σ' D = some (lst lm km) ∧ NatL (kept keys i nl) lm ∧
    vs = [some (.ref ks), some (nlv nl), some (.ref D), pv, kv, vv, none, none, none]) ?_ (fun _ _ _ _ => trivial) ?_ ?_)
  · walk_at "ss"
    refine W_item (l0 _ _ ek) (by decide) (by decide) e0 ?_
    walk_at "ss"
    refine W_callI (c_length hA (hx0.le l0) ho0.2) fun t => ?_
    walk_at "ss"
    rw [hm0]
    refine W_range1 fun r t u v hr => ?_
    exact ⟨itb_rangeN hA.2.2 upd_same (by omega), _, _, _, _, _, l0.trans (Le.upd hr), upd_get hr upd_same, .nil, rfl⟩
  · rintro i v vs σ' g hi ⟨t, rfl⟩ ⟨lm, km, pv, kv, vv, hle, hM, nM, rfl⟩
    walk_at "ss"
    cases nl with
    | some b =>
      walk_at "ss"
      have lM := nM.length
      have e1 : kept keys (i + 1) (some b) = kept keys i (some b) ++ [i] := kept_step keys i (some b)
      have hln : lm.length ≤ 1000 := by
        rw [lM]; unfold kept; exact Nat.le_trans (List.length_filter_le _ _) (by simp; omega)
      refine ⟨_, _, _, rfl, hM, ?_⟩
      walk_at "ss"
      refine ⟨_, _, hM, szl (by omega), ?_⟩
      walk_at "ss"
      refine ⟨_, _, _, _, _, hle.upd_r hD, upd_same, ?_, rfl⟩
      rw [e1]; exact nM.snoc ⟨t, rfl⟩
    | none =>
      walk_at "ss"
      refine W_cons (W_for (n := lk.length) (P := fun i v => lk[i]? = some v) (S := fun σ => ∃ n, σ ks = some (lst lk n)) (fun j vs σ'' => σ'' = σ' ∧ ∃ vv, vs = [some (.ref ks), some .none, some (.ref D), some (.int i t), some (.bool ((keys.take j).all fun V => !lack V.1.kd (V.1.at i))), vv, none, none, none]) ?_ (fun j vs σ'' h => ⟨kk, by rw [h.1]; exact hle _ _ ek⟩) ?_ ?_)
      · walk_at "ss"
        exact ⟨itb_list hA.2.2 (hle _ _ ek), rfl, _, rfl⟩
      · rintro j v vs σ'' g hj hv ⟨rfl, vv, rfl⟩
        obtain ⟨V, eV, x, at', rfl, hx, ho, hm'⟩ := rk.get' hv
        have hx := hx.le hle
        walk_at "ss"
        refine W_vkind hx fun tk => ?_
        walk_at "ss"
        refine W_vitems hx fun li l k hl hal => ?_
        have hi' : i < V.1.items.length := by omega
        obtain ⟨vi, ei, hvi⟩ := at_get hal hi'
        walk_at "ss"
        refine W_itemN hl (by omega) ei ?_
        walk_at "ss"
        refine W_callB (c_lack hA (ho.1.at i) hvi) ?_
        walk_at "ss"
        have et : (keys.take (j + 1)).all (fun V => !lack V.1.kd (V.1.at i)) = ((keys.take j).all (fun V => !lack V.1.kd (V.1.at i)) && !lack V.1.kd (V.1.at i)) := by
          rw [List.take_add_one, eV]; simp
        refine ⟨fun e => ?_, fun e => ?_⟩
        · walk_at "ss"
          refine ⟨rfl, some (.ref x), ?_⟩
          rw [et, e, Bool.not_true, Bool.and_false]
        · walk_at "ss"
          refine ⟨rfl, some (.ref x), ?_⟩
          rw [et, e, Bool.not_false, Bool.and_true]
      · rintro vs σ'' ⟨rfl, vv, rfl⟩
        rw [show lk.length = keys.length from lz, List.take_length]
        have hkp : keptP keys none i = keys.all fun V => !lack V.1.kd (V.1.at i) := rfl
        have e1 := kept_step keys i none
        have lM := nM.length
        have hln : lm.length ≤ 1000 := by
          rw [lM]; unfold kept; exact Nat.le_trans (List.length_filter_le _ _) (by simp; omega)
        walk_at "ss"
        rw [← hkp]
        refine ⟨fun e => ?_, fun e => ?_⟩
        · rw [e, if_pos rfl] at e1
          walk_at "ss"
          refine ⟨_, _, _, rfl, hM, ?_⟩
          walk_at "ss"
          refine ⟨_, _, hM, szl (by omega), ?_⟩
          walk_at "ss"
          refine ⟨_, _, _, _, _, hle.upd_r hD, upd_same, ?_, rfl⟩
          rw [e1]; exact nM.snoc ⟨t, rfl⟩
        · rw [e, if_neg (by decide), List.append_nil] at e1
          walk_at "ss"
          refine ⟨_, _, _, _, _, hle, hM, ?_, rfl⟩
          rw [e1]; exact nM
  · rintro vs σ' ⟨lm, km, pv, kv, vv, hle, hM, nM, rfl⟩
    walk_at "ss"
    exact ⟨D, _, _, rfl, hD, hle, hM, nM⟩
theorem kept_sorted (keys : List (Vec × Bool)) (m : Nat) (nl : Option Bool) : (kept keys m nl).Pairwise (· < ·) := List.Pairwise.filter _ List.pairwise_lt_range
theorem kept_lt {keys : List (Vec × Bool)} {m : Nat} {nl : Option Bool} : ∀ p ∈ kept keys m nl, p < m := fun p hp => List.mem_range.mp (List.mem_filter.mp hp).1
theorem kept_len {keys : List (Vec × Bool)} {m : Nat} {nl : Option Bool} : (kept keys m nl).length ≤ m := by
  have := List.length_filter_le (keptP keys nl) (List.range m)
  unfold kept; simpa using this
theorem c_order {n : Nat} (hA : Ok (n + 8) A) {m : Nat} {keys : List (Vec × Bool)} {ks : Addr} {d : Value} {nl : Option Bool} (hk : Keys σ m keys ks) (hne : keys ≠ []) (hd : DecV σ keys d) :
    CW w os A (.ref 303) [.ref ks, d, nlv nl] σ fun r σ' => ∃ a l k, r = .ref a ∧ σ a = none ∧ σ' = upd σ a (lst l k) ∧ ∃ r, NatL r l ∧ Srt (fun i j => cmpK keys i j (nl.getD true)) (kept keys m nl) r := by
  refine CallW.list ?_
  have hk0 := hk
  obtain ⟨kz, lk, kk, ek, rk⟩ := hk
  have lz := rk.length
  have h0 : 0 < keys.length := by cases keys with | nil => exact absurd rfl hne | cons a r => simp
  obtain ⟨_, e0, x0, at0, rfl, hx0, ho0, hm0⟩ := rk.get (List.getElem?_eq_getElem h0)
  have hm : m ≤ 1000 := by have := ho0.2; omega
  have hok : ∀ k ∈ keys, VecOk k.1 := fun k hk => by
    obtain ⟨i, hi, rfl⟩ := List.getElem_of_mem hk
    obtain ⟨_, _, _, _, _, _, ho, _⟩ := rk.get (List.getElem?_eq_getElem hi)
    exact ho.1
  refine callK (binds := [(Str.ofString "vs", .ref ks), (Str.ofString "decreasing", d), (Str.ofString "na_last", nlv nl)]) (vs := [some (.ref ks), some (d), some (nlv nl), none, none, none, none, none, none, none, none, none]) (ns := [(Str.ofString "vs", NameKind.local), (Str.ofString "decreasing", NameKind.local), (Str.ofString "na_last", NameKind.local), (Str.ofString "v", NameKind.local), (Str.ofString "flags", NameKind.local), (Str.ofString "len", NameKind.globalImplicit), (Str.ofString "check_sortable", NameKind.globalImplicit), (Str.ofString "length", NameKind.globalImplicit), (Str.ofString "Refusal", NameKind.globalImplicit), (Str.ofString "each_key", NameKind.globalImplicit), (Str.ofString "merge_sort", NameKind.globalImplicit), (Str.ofString "kept_places", NameKind.globalImplicit)]) hA rfl (by kernel_rfl) (fun _ => by kernel_rfl) (by kernel_rfl) (by kernel_rfl) (by kernel_rfl) (by kernel_rfl) rfl fun g A env hA he => ?_
  walk_at "ss"
  refine W_len ek (by omega) fun t => ?_
  walk_at "ss"
  refine br_e (fun e => absurd e (by omega)) fun _ => ?_
  walk_at "ss"
  refine W_cons (W_for (n := lk.length) (P := fun i v => lk[i]? = some v) (S := fun σ => ∃ n, σ ks = some (lst lk n)) (fun j vs σ'' => σ'' = σ ∧ ∃ vv, vs = [some (.ref ks), some d, some (nlv nl), vv, none, none, none, none, none, none, none, none]) ?_ (fun j vs σ'' h => ⟨kk, by rw [h.1]; exact ek⟩) ?_ ?_)
  · walk_at "ss"
    exact ⟨itb_list hA.2.2 ek, rfl, _, rfl⟩
  · rintro j v vs σ'' g hj hv ⟨rfl, vv, rfl⟩
    obtain ⟨V, eV, x, at', rfl, hx, ho, hm'⟩ := rk.get' hv
    walk_at "ss"
    refine W_callB (c_check hA hx) ?_
    walk_at "ss"
    refine W_callI (c_length hA hx ho.2) fun t => ?_
    walk_at "ss"
    refine W_item ek (by decide) (by decide) e0 ?_
    walk_at "ss"
    refine W_callI (c_length hA hx0 ho0.2) fun t => ?_
    walk_at "ss"
    refine br_n (fun e => absurd (by rw [hm', hm0]) e) fun _ => ?_
    walk_at "ss"
    exact ⟨rfl, _, rfl⟩
  · rintro vs σ'' ⟨rfl, vv, rfl⟩
    walk_at "ss"
    refine W_len ek (by omega) fun t => ?_
    rw [lz]
    walk_at "ss"
    refine W_call ((c_each hA hd kz).mono fun r σ' e => ?_)
    obtain ⟨fa, fl, fk, rfl, hfa, rfl, nf⟩ := e
    have l1 : Le σ'' (upd σ'' fa (lst fl fk)) := Le.upd hfa
    have hF : Flags (upd σ'' fa (lst fl fk)) keys fa := ⟨_, _, upd_same, nf⟩
    walk_at "ss"
    refine W_call ((c_kept (nl := nl) hA (hk0.le l1) hne).mono fun r σ' e => ?_)
    obtain ⟨pa, pl, pk, rfl, hpa, rfl, np⟩ := e
    have l2 : Le (upd σ'' fa (lst fl fk)) (upd (upd σ'' fa (lst fl fk)) pa (lst pl pk)) := Le.upd hpa
    walk_at "ss"
    have fin : ∀ {A : Around} {last : Bool} {n : Nat}, Ok (n + 7) A → last = nl.getD true → CW w os A (.ref 283) [.ref pa, .ref ks, .ref fa, .bool last] (upd (upd σ'' fa (lst fl fk)) pa (lst pl pk)) fun r σ' => ∃ a l k, r = .ref a ∧ σ'' a = none ∧ Le σ'' σ' ∧ σ' a = some (lst l k) ∧ ∃ r, NatL r l ∧ Srt (fun i j => cmpK keys i j (nl.getD true)) (kept keys m nl) r := by
      intro A last n hA e
      subst e
      refine (c_sort hA ((hk0.le l1).le l2) (hF.le l2) ⟨_, _, upd_same, np⟩ kept_lt (Nat.le_trans kept_len (by omega))).mono fun r σ' e => ?_
      obtain ⟨a, l, k, rfl, ha, rfl, r, nr, hr⟩ := e
      refine ⟨a, l, k, rfl, none_of_le (l1.trans l2) ha, (l1.trans l2).trans (Le.upd ha), upd_same, r, nr, ?_⟩
      rcases hr with ⟨e1, rfl⟩ | ⟨j, hj⟩
      · rw [e1]; exact ⟨.refl _, .nil⟩
      · exact passes_srt (cmpK_po _ hok) (kept_sorted _ _ _) hj
    cases nl with
    | none =>
      walk_at "ss"
      refine W_call ((fin hA rfl).mono fun r σ' e => ?_)
      walk_at "ss"
      exact e
    | some b =>
      walk_at "ss"
      refine W_call ((fin hA rfl).mono fun r σ' e => ?_)
      walk_at "ss"
      exact e
end TextMK7
noncomputable section TextMK8
variable {w : World} {os : OsState} {A : Around} {σ : Led}
section
variable {g : Led} {env : Env} {own : Bool} {ns : List (Str × NameKind)} {vs : List (Option Value)}
theorem W_and3 {x y z : Expr} {pos : Pos} {Q : ValQ} (h : W prg w (Kx w) g os A env own ns (eval x env) vs σ fun v vs σ => W prg w (Kx w) g os A env own ns (truthy v) vs σ fun b vs σ => (b = true → W prg w (Kx w) g os A env own ns (eval (.BoolOp .And [y, z] pos) env) vs σ Q) ∧ (b = false → Q v vs σ)) :
    W prg w (Kx w) g os A env own ns (eval (.BoolOp .And [x, y, z] pos) env) vs σ Q :=
  W_in fun s H F => by
    show wpAny _ A (do
      let v ← eval x env
      standAt pos
      let t ← holding [v] (truthy v)
      match BoolOp.And, t with
      | .And, false | .Or, true => pure v
      | _, _ => eval (.BoolOp .And [y, z] pos) env) _ _ s
    refine wpAny_bind (h.go H F (fun v s₁ _ _ H' F' q => wpAny_bind (wpAny_standAt (wpAny_bind (wpAny_holding (q.go H' F' (fun t s₂ vs₂ σ₂ H₂ F₂ q₂ => ?_)))))))
    cases t with
    | false => exact wpAny_pure ⟨vs₂, σ₂, H₂, F₂, q₂.2 rfl⟩
    | true => exact (q₂.1 rfl).out _ H₂ F₂
theorem W_in_strs {r : Addr} {l : List Value} {k : Nat} {ys : List Str} {x : Str} {t : Tok} {Q : ValQ} (e : σ r = some (lst l k)) (hi : StrsAre l ys) (q : Q (.bool (ys.any (· == x))) vs σ) : W prg w (Kx w) g os A env own ns (compareOp .In (.str x t) (.ref r)) vs σ Q :=
  W_look fun s H F => in_list_strs (isList_of H.led e) hi ⟨⟨_, rfl⟩, q⟩
end
/-! attributes -/
def AF (w : World) (σ : Led) (at' : Value) (f : Str → Option Value) : Prop := (at' = .none ∧ f = fun _ => none) ∨ ∃ d ob, at' = .ref d ∧ (d == sysModules) = false ∧ σ d = some ob ∧ DM prg w f ob
theorem AF.le {σ' : Led} {at' : Value} {f : Str → Option Value} (h : AF w σ at' f) (l : Le σ σ') : AF w σ' at' f := by
  rcases h with h | ⟨d, ob, h1, h2, h3, h4⟩
  · exact .inl h
  · exact .inr ⟨d, ob, h1, h2, l _ _ h3, h4⟩
theorem AF.handed {at' : Value} {f : Str → Option Value} (h : AF w σ at' f) : handedIn at' = true := by
  rcases h with ⟨h, _⟩ | ⟨d, ob, h1, _⟩
  · rw [h]; rfl
  · rw [h1]; rfl
theorem c_getattr {n : Nat} (hA : Ok (n + 1) A) {x : Addr} {V : Vec} {at' : Value} {f : Str → Option Value} {s : Str} {t : Tok} {r0 : Value} (hv : VecAt σ x V at') (ha : AF w σ at' f) (e0 : (f s).getD .none = r0) :
    CW w os A (.ref 181) [.ref x, .str s t] σ fun r σ' => r = r0 ∧ σ' = σ := by
  subst e0
  have hh := ha.handed
  refine callK (binds := [(Str.ofString "v", .ref x), (Str.ofString "name", .str s t)]) (vs := [some (.ref x), some (.str s t)]) (ns := [(Str.ofString "v", NameKind.local), (Str.ofString "name", NameKind.local)]) hA rfl (by kernel_rfl) (fun _ => by kernel_rfl) (by kernel_rfl) (by kernel_rfl) (by kernel_rfl) (by kernel_rfl) rfl fun g A env hA he => ?_
  walk_at "ss"
  refine W_vattrs hv hh ?_
  rcases ha with ⟨rfl, rfl⟩ | ⟨d, ob, rfl, hm, hd, dm⟩
  · walk_at "ss"
    exact ⟨rfl, rfl⟩
  · walk_at "ss"
    refine W_dictGet ?_
    walk_at "ss"
    refine W_vattrs hv hh ?_
    refine ⟨d, ob, f, rfl, hd, dm, hm, ?_⟩
    walk_at "ss"
    refine ⟨s, t, ob, f, rfl, hd, dm, ?_⟩
    walk_at "ss"
    exact ⟨rfl, rfl⟩
theorem c_dim {n : Nat} (hA : Ok (n + 2) A) {x : Addr} {V : Vec} {at' : Value} {f : Str → Option Value} (hv : VecAt σ x V at') (ha : AF w σ at' f) (hf : f (Str.ofString "dim") = none) :
    CW w os A (.ref 212) [.ref x] σ fun r σ' => r = .none ∧ σ' = σ := by
  refine callK (binds := [(Str.ofString "v", .ref x)]) (vs := [some (.ref x), none, none, none]) (ns := [(Str.ofString "v", NameKind.local), (Str.ofString "dims", NameKind.local), (Str.ofString "get_attr", NameKind.globalImplicit), (Str.ofString "list", NameKind.globalImplicit)]) hA rfl (by kernel_rfl) (fun _ => by kernel_rfl) (by kernel_rfl) (by kernel_rfl) (by kernel_rfl) (by kernel_rfl) rfl fun g A env hA he => ?_
  walk_at "ss"
  refine W_callB (c_getattr hA hv ha (r0 := .none) (by rw [hf]; rfl)) ?_
  walk_at "ss"
  exact ⟨rfl, rfl⟩
theorem c_class {n : Nat} (hA : Ok (n + 2) A) {x : Addr} {V : Vec} {at' : Value} {f : Str → Option Value} (hv : VecAt σ x V at') (ha : AF w σ at' f) (hf : f (Str.ofString "class") = none) :
    CW w os A (.ref 224) [.ref x] σ fun r σ' => ∃ a, r = .ref a ∧ σ a = none ∧ σ' = upd σ a (lst [] 0) := by
  refine callK (binds := [(Str.ofString "v", .ref x)]) (vs := [some (.ref x), none, none, none]) (ns := [(Str.ofString "v", NameKind.local), (Str.ofString "found", NameKind.local), (Str.ofString "get_attr", NameKind.globalImplicit), (Str.ofString "list", NameKind.globalImplicit)]) hA rfl (by kernel_rfl) (fun _ => by kernel_rfl) (by kernel_rfl) (by kernel_rfl) (by kernel_rfl) (by kernel_rfl) rfl fun g A env hA he => ?_
  walk_at "ss"
  refine W_callB (c_getattr hA hv ha (r0 := .none) (by rw [hf]; rfl)) ?_
  walk_at "ss"
  refine ⟨Nat.zero_le _, fun a h => ?_⟩
  walk_at "ss"
  exact ⟨a, rfl, h, rfl⟩
theorem c_factor {n : Nat} (hA : Ok (n + 3) A) {x : Addr} {V : Vec} {at' : Value} {f : Str → Option Value} (hv : VecAt σ x V at') (ha : AF w σ at' f) (hf : f (Str.ofString "class") = none) :
    CW w os A (.ref 231) [.ref x] σ fun r σ' => r = .bool false ∧ σ' = σ := by
  refine CallW.pure ?_
  refine callK (binds := [(Str.ofString "v", .ref x)]) (vs := [some (.ref x), none, none]) (ns := [(Str.ofString "v", NameKind.local), (Str.ofString "class_attr", NameKind.globalImplicit), (Str.ofString "get_attr", NameKind.globalImplicit)]) hA rfl (by kernel_rfl) (fun _ => by kernel_rfl) (by kernel_rfl) (by kernel_rfl) (by kernel_rfl) (by kernel_rfl) rfl fun g A env hA he => ?_
  walk_at "ss"
  refine W_and3 ?_
  walk_at "ss"
  refine W_vkind hv fun tk => ?_
  walk_at "ss"
  rw [kn_int]
  refine br_d (fun e => ?_) fun e => ?_
  · walk_at "ss"
    refine W_call ((c_class hA hv ha hf).mono fun r σ' e => ?_)
    obtain ⟨a, rfl, h, rfl⟩ := e
    refine W_in_strs upd_same .nil ?_
    rw [List.any_nil]
    walk_at "ss"
    exact ⟨rfl, Le.upd h⟩
  · rw [decide_eq_false e]
    walk_at "ss"
    exact ⟨rfl, Le.refl⟩
/-- the attributes of a Vector: none, or its names -/
def NM (w : World) (σ : Led) (at' : Value) (nm : Option (List Str)) : Prop := ∃ f, AF w σ at' f ∧ f (Str.ofString "dim") = none ∧ f (Str.ofString "class") = none ∧
  match nm with | none => f (Str.ofString "names") = none | some ss => ∃ y, f (Str.ofString "names") = some (.ref y) ∧ VecAt σ y ⟨.chr, ss.map It.str⟩ .none
theorem NM.le {σ' : Led} {at' : Value} {nm : Option (List Str)} (h : NM w σ at' nm) (l : Le σ σ') : NM w σ' at' nm := by
  obtain ⟨f, h1, h2, h3, h4⟩ := h
  refine ⟨f, h1.le l, h2, h3, ?_⟩
  cases nm with
  | none => exact h4
  | some ss => obtain ⟨y, e, v⟩ := h4; exact ⟨y, e, v.le l⟩
theorem NM.none : NM w σ .none none := ⟨_, .inl ⟨rfl, rfl⟩, rfl, rfl, rfl⟩
theorem c_names {n : Nat} (hA : Ok (n + 3) A) {x : Addr} {V : Vec} {at' : Value} {nm : Option (List Str)} (hv : VecAt σ x V at') (hn : NM w σ at' nm) (hz : ∀ ss, nm = some ss → ss.length ≤ 1000) :
    CW w os A (.ref 205) [.ref x] σ fun r σ' => Le σ σ' ∧ match nm with | none => r = .none | some ss => ∃ a l k, r = .ref a ∧ σ' a = some (lst l k) ∧ All2 (ItV σ') (ss.map It.str) l := by
  obtain ⟨f, ha, hf1, hf2, hf3⟩ := hn
  refine callK (binds := [(Str.ofString "v", .ref x)]) (vs := [some (.ref x), none, none, none, none, none, none, none, none, none, none]) (ns := [(Str.ofString "v", NameKind.local), (Str.ofString "tag", NameKind.local), (Str.ofString "dims", NameKind.local), (Str.ofString "rows", NameKind.local), (Str.ofString "names", NameKind.local), (Str.ofString "sorted", NameKind.globalImplicit), (Str.ofString "dim_of", NameKind.globalImplicit), (Str.ofString "len", NameKind.globalImplicit), (Str.ofString "dimnames_of", NameKind.globalImplicit), (Str.ofString "get_attr", NameKind.globalImplicit), (Str.ofString "list", NameKind.globalImplicit)]) hA rfl (by kernel_rfl) (fun _ => by kernel_rfl) (by kernel_rfl) (by kernel_rfl) (by kernel_rfl) (by kernel_rfl) rfl fun g A env hA he => ?_
  walk_at "ss"
  refine W_vkind hv fun tk => ?_
  walk_at "ss"
  rw [kn_lang]
  walk_at "ss"
  refine W_vkind hv fun tk => ?_
  walk_at "ss"
  rw [kn_env]
  walk_at "ss"
  refine W_callB (c_dim hA hv ha hf1) ?_
  walk_at "ss"
  cases nm with
  | none =>
    refine W_callB (c_getattr hA hv ha (r0 := .none) (by rw [hf3]; rfl)) ?_
    walk_at "ss"
    exact ⟨Le.refl, rfl⟩
  | some ss =>
    obtain ⟨y, hy, hvy⟩ := hf3
    have := hz ss rfl
    refine W_callB (c_getattr hA hv ha (r0 := .ref y) (by rw [hy]; rfl)) ?_
    walk_at "ss"
    refine W_vitems hvy fun li l k hl hal => ?_
    have hlen := hal.length
    rw [List.length_map] at hlen
    walk_at "ss"
    refine W_listCopy hl (szl (by omega)) fun a k h => ?_
    walk_at "ss"
    exact ⟨Le.upd h, a, l, k, rfl, upd_same, hal.imp fun _ _ q => q.le (Le.upd h)⟩
theorem VO.off {x dx li z : Addr} {V : Vec} {at' : Value} {oz o' : Obj} (h : VO σ x dx li V at') (hz : σ z = some oz) (hc : oz.cls = .type "dict") (hn : z ≠ dx) : VO (upd σ z o') x dx li V at' := by
  obtain ⟨od, t, l, k, sh, lo, h1, h2, h3, h4, h5⟩ := h
  refine ⟨od, t, l, k, sh, lo, upd_off hz h1 (by rintro rfl; cases hc), by rw [upd_ne (Ne.symm hn)]; exact h2, h3, upd_off hz h4 (by rintro rfl; simp at hc), h5.imp fun it v hv => ?_⟩
  cases it with
  | na | int | str => exact hv
  | dbl n d => obtain ⟨a, t, u, k, e, y⟩ := hv; exact ⟨a, t, u, k, e, upd_off hz y (by rintro rfl; simp at hc)⟩
theorem Fd.cls {fs : List (Str × Value)} {o : Obj} (h : Fd fs o) : o.cls = .type "dict" := by obtain ⟨es, n, rfl, _⟩ := h; rfl
theorem VO.dict {x dx li : Addr} {V : Vec} {at' : Value} (h : VO σ x dx li V at') : ∃ o, σ dx = some o ∧ o.cls = .type "dict" := by
  obtain ⟨od, t, l, k, sh, lo, h1, h2, h3, h4, h5⟩ := h; exact ⟨od, h2, h3.cls⟩
theorem c_share {n : Nat} (hA : Ok (n + 1) A) {y dy ly : Addr} {U : Vec} {at' : Value} (hv : VO σ y dy ly U at') : CW w os A (.ref 174) [.ref y] σ fun r σ' => r = .ref y ∧ ∃ o, σ' = upd σ dy o ∧ VO (upd σ dy o) y dy ly U at' := by
  refine callK (binds := [(Str.ofString "v", .ref y)]) (vs := [some (.ref y), none, none]) (ns := [(Str.ofString "v", NameKind.local), (Str.ofString "isinstance", NameKind.globalImplicit), (Str.ofString "Vector", NameKind.globalImplicit)]) hA rfl (by kernel_rfl) (fun _ => by kernel_rfl) (by kernel_rfl) (by kernel_rfl) (by kernel_rfl) (by kernel_rfl) rfl fun g A env hA he => ?_
  walk_at "ss"
  refine W_visi ⟨_, _, hv⟩ ?_
  walk_at "ss"
  refine W_vsetShared hv fun o ho _ => ?_
  walk_at "ss"
  exact ⟨rfl, o, rfl, ho⟩
theorem c_put {n : Nat} (hA : Ok (n + 2) A) {x dx li y dy ly : Addr} {V U : Vec} {at2 : Value} {s : Str} {t : Tok} (hx : VO σ x dx li V .none) (hy : VO σ y dy ly U at2) (hne : dx ≠ dy) :
    CW w os A (.ref 195) [.ref x, .str s t, .ref y] σ fun r σ' => r = .none ∧ ∃ at3, VecAt σ' x V at3 ∧ AF w σ' at3 (fun k => if k = s then some (.ref y) else none) ∧ VecAt σ' y U at2 ∧ ∀ a o, a ≠ dx → a ≠ dy → σ a = some o → σ' a = some o := by
  refine callK (binds := [(Str.ofString "v", .ref x), (Str.ofString "name", .str s t), (Str.ofString "value", .ref y)]) (vs := [some (.ref x), some (.str s t), some (.ref y), none]) (ns := [(Str.ofString "v", NameKind.local), (Str.ofString "name", NameKind.local), (Str.ofString "value", NameKind.local), (Str.ofString "share", NameKind.globalImplicit)]) hA rfl (by kernel_rfl) (fun _ => by kernel_rfl) (by kernel_rfl) (by kernel_rfl) (by kernel_rfl) (by kernel_rfl) rfl fun g A env hA he => ?_
  walk_at "ss"
  refine W_vattrs ⟨_, _, hx⟩ rfl ?_
  walk_at "ss"
  refine W_dict0 fun d hd hm => ?_
  have l1 : Le σ (upd σ d emptyDict) := Le.upd hd
  have hx1 := hx.le l1
  have hy1 := hy.le l1
  obtain ⟨ox, hox, hcx⟩ := hx1.dict
  obtain ⟨oy, hoy, hcy⟩ := hy1.dict
  have ndx : d ≠ dx := by
    obtain ⟨o, h, _⟩ := hx.dict
    rintro rfl; rw [hd] at h; cases h
  have ndy : d ≠ dy := by
    obtain ⟨o, h, _⟩ := hy.dict
    rintro rfl; rw [hd] at h; cases h
  walk_at "ss"
  refine W_vsetAttrs (v := .ref d) hx1 fun o ho _ => ?_
  have hy2 := hy1.off (o' := o) hox hcx hne
  have hd2 : upd (upd σ d emptyDict) dx o d = some emptyDict := by rw [upd_ne ndx]; exact upd_same
  walk_at "ss"
  refine W_call ((c_share hA hy2).mono fun r σ' e => ?_)
  obtain ⟨rfl, o2, rfl, hy3⟩ := e
  obtain ⟨oy2, hoy2, hcy2⟩ := hy2.dict
  have hx3 := ho.off (o' := o2) hoy2 hcy2 (Ne.symm hne)
  have hd3 : upd (upd (upd σ d emptyDict) dx o) dy o2 d = some emptyDict := by rw [upd_ne ndy]; exact hd2
  walk_at "ss"
  refine W_vattrs ⟨_, _, hx3⟩ rfl ?_
  walk_at "ss"
  refine W_setItemD0 hd3 fun o3 dm => ?_
  walk_at "ss"
  refine ⟨rfl, .ref d, ⟨_, _, hx3.off hd3 rfl ndx⟩, .inr ⟨d, o3, rfl, hm, upd_same, dm⟩, ⟨_, _, hy3.off hd3 rfl ndy⟩, fun a o h1 h2 h => ?_⟩
  have nd : a ≠ d := by rintro rfl; rw [hd] at h; cases h
  rw [upd_ne nd, upd_ne h2, upd_ne h1, upd_ne nd]; exact h
theorem c_char {n : Nat} (hA : Ok (n + 3) A) {a : Addr} {l : List Value} {k : Nat} {items : List It} (hl : σ a = some (lst l k)) (hi : All2 (ItV σ) items l) (hz : items.length ≤ 1000) :
    CW w os A (.ref 160) [.ref a] σ fun r σ' => ∃ y dy ly, r = .ref y ∧ σ y = none ∧ σ dy = none ∧ Le σ σ' ∧ VO σ' y dy ly ⟨.chr, items⟩ .none := by
  have := hi.length
  refine callK (binds := [(Str.ofString "items", .ref a)]) (vs := [some (.ref a), none, none]) (ns := [(Str.ofString "items", NameKind.local), (Str.ofString "Vector", NameKind.globalImplicit), (Str.ofString "list", NameKind.globalImplicit)]) hA rfl (by kernel_rfl) (fun _ => by kernel_rfl) (by kernel_rfl) (by kernel_rfl) (by kernel_rfl) (by kernel_rfl) rfl fun g A env hA he => ?_
  walk_at "ss"
  refine W_listCopy hl (szl (by omega)) fun b k h => ?_
  walk_at "ss"
  refine W_call ((c_vmakeV hA (kd := .chr) upd_same (hi.imp fun _ _ q => q.le (Le.upd h))).mono fun r σ' e => ?_)
  obtain ⟨y, dy, rfl, h1, h2, hle, hv⟩ := e
  walk_at "ss"
  exact ⟨y, dy, b, rfl, none_of_le (Le.upd h) h1, none_of_le (Le.upd h) h2, (Le.upd h).trans hle, hv⟩
theorem c_integer {n : Nat} (hA : Ok (n + 3) A) {a : Addr} {o : Obj} {l : List Value} {items : List It} (hl : σ a = some o) (ho : LObj o l) (hi : All2 (ItV σ) items l) (hz : items.length ≤ 1000) :
    CW w os A (.ref 146) [.ref a] σ fun r σ' => ∃ y, r = .ref y ∧ Le σ σ' ∧ VecAt σ' y ⟨.int, items⟩ .none := by
  have := hi.length
  refine callK (binds := [(Str.ofString "items", .ref a)]) (vs := [some (.ref a), none, none]) (ns := [(Str.ofString "items", NameKind.local), (Str.ofString "Vector", NameKind.globalImplicit), (Str.ofString "list", NameKind.globalImplicit)]) hA rfl (by kernel_rfl) (fun _ => by kernel_rfl) (by kernel_rfl) (by kernel_rfl) (by kernel_rfl) (by kernel_rfl) rfl fun g A env hA he => ?_
  walk_at "ss"
  refine W_listCopyO hl ho (szl (by omega)) fun b k h => ?_
  walk_at "ss"
  refine W_call ((c_vmakeV hA (kd := .int) upd_same (hi.imp fun _ _ q => q.le (Le.upd h))).mono fun r σ' e => ?_)
  obtain ⟨y, dy, rfl, h1, h2, hle, hv⟩ := e
  walk_at "ss"
  exact ⟨y, rfl, (Le.upd h).trans hle, _, _, hv⟩
theorem c_setnames {n : Nat} (hA : Ok (n + 4) A) {x dx li a : Addr} {V : Vec} {l : List Value} {k : Nat} {ss : List Str} (hx : VO σ x dx li V .none) (hl : σ a = some (lst l k)) (hi : All2 (ItV σ) (ss.map It.str) l) (hz : ss.length ≤ 1000) :
    CW w os A (.ref 200) [.ref x, .ref a] σ fun r σ' => r = .none ∧ ∃ at3, VecAt σ' x V at3 ∧ NM w σ' at3 (some ss) ∧ ∀ b o, b ≠ dx → σ b = some o → σ' b = some o := by
  refine callK (binds := [(Str.ofString "v", .ref x), (Str.ofString "texts", .ref a)]) (vs := [some (.ref x), some (.ref a), none, none, none, none, none, none, none, none]) (ns := [(Str.ofString "v", NameKind.local), (Str.ofString "texts", NameKind.local), (Str.ofString "dims", NameKind.local), (Str.ofString "len", NameKind.globalImplicit), (Str.ofString "dim_of", NameKind.globalImplicit), (Str.ofString "drop_attr", NameKind.globalImplicit), (Str.ofString "put_attr", NameKind.globalImplicit), (Str.ofString "Vector", NameKind.globalImplicit), (Str.ofString "share", NameKind.globalImplicit), (Str.ofString "character", NameKind.globalImplicit)]) hA rfl (by kernel_rfl) (fun _ => by kernel_rfl) (by kernel_rfl) (by kernel_rfl) (by kernel_rfl) (by kernel_rfl) rfl fun g A env hA he => ?_
  walk_at "ss"
  refine W_vkind ⟨_, _, hx⟩ fun tk => ?_
  walk_at "ss"
  rw [kn_lang]
  walk_at "ss"
  refine W_callB (c_dim hA ⟨_, _, hx⟩ (.inl ⟨rfl, rfl⟩) rfl) ?_
  walk_at "ss"
  refine W_call ((c_char hA hl hi (by simpa using hz)).mono fun r σ₂ e => ?_)
  obtain ⟨y, dy, ly, rfl, h1, h2, hle, hv⟩ := e
  walk_at "ss"
  have hne : dx ≠ dy := by
    obtain ⟨o, h, _⟩ := hx.dict
    rintro rfl; rw [h2] at h; cases h
  refine W_call ((c_put hA (hx.le hle) hv hne).mono fun r σ₃ e => ?_)
  obtain ⟨rfl, at3, hvx, haf, hvy, hfr⟩ := e
  walk_at "ss"
  refine ⟨rfl, at3, hvx, ⟨_, haf, if_neg (by decide +kernel), if_neg (by decide +kernel), y, if_pos rfl, hvy⟩, fun b o hb h => hfr b o hb ?_ (hle _ _ h)⟩
  rintro rfl; rw [h2] at h; cases h
end TextMK8
noncomputable section TextMK9
variable {w : World} {os : OsState} {A : Around} {σ : Led}
theorem map_take {α : Type} {ps : List Nat} {i : Nat} {p : Nat} (f : Nat → α) (e : ps[i]? = some p) : (ps.take (i + 1)).map f = (ps.take i).map f ++ [f p] := by
  rw [List.take_add_one, e]; simp
theorem c_pick {n : Nat} (hA : Ok (n + 5) A) {x pl : Addr} {V : Vec} {at' : Value} {nm : Option (List Str)} {ps : List Nat} (hv : VecAt σ x V at') (hn : NM w σ at' nm) (hz : VOk V) (hz2 : ∀ ss, nm = some ss → ss.length = V.items.length)
    (hp : LN σ pl ps) (hb : ∀ p ∈ ps, p < V.items.length) (hpz : ps.length ≤ 1000) :
    CW w os A (.ref 236) [.ref x, .ref pl] σ fun r σ' => ∃ y at3, r = .ref y ∧ Le σ σ' ∧ VecAt σ' y ⟨V.kd, ps.map V.at⟩ at3 ∧ NM w σ' at3 (nm.map fun ss => ps.map fun p => ss.getD p Str.empty) := by
  obtain ⟨ll, lk, el, nl⟩ := hp
  have lz := nl.length
  have vz := hz.2
  refine callK (binds := [(Str.ofString "v", .ref x), (Str.ofString "places", .ref pl)]) (vs := [some (.ref x), some (.ref pl), none, none, none, none, none, none, none, none, none]) (ns := [(Str.ofString "v", NameKind.cell), (Str.ofString "places", NameKind.local), (Str.ofString "result", NameKind.local), (Str.ofString "names", NameKind.cell), (Str.ofString "attrs", NameKind.local), (Str.ofString "Vector", NameKind.globalImplicit), (Str.ofString "names_of", NameKind.globalImplicit), (Str.ofString "set_names", NameKind.globalImplicit), (Str.ofString "is_factor", NameKind.globalImplicit), (Str.ofString "dict", NameKind.globalImplicit), (Str.ofString "get_attr", NameKind.globalImplicit)]) hA rfl (by kernel_rfl) (fun _ => by kernel_rfl) (by kernel_rfl) (by kernel_rfl) (by kernel_rfl) (by kernel_rfl) rfl fun g A env hA he => ?_
  walk_at "ss"
  refine W_vkind hv fun tk => ?_
  walk_at "ss"
  refine W_comp (.free (by walk_at "ld")) rfl rfl (by kernel_rfl) (by kernel_rfl) ?_
  walk_at "ss"
  refine ⟨rfl, ll.length, _, _, fun i out σ' => σ' = σ ∧ All2 (ItV σ) ((ps.take i).map V.at) out, itb_list hA.2.2 el, ⟨rfl, by simp; exact .nil⟩, szl (by omega), fun i out σ' h => ⟨lk, by rw [h.1]; exact el⟩, ?_, ?_⟩
  · rintro i v out σ' g cenv hi hv' ⟨rfl, hr⟩ hlen
    refine W_tst0 ⟨rfl, fun _ => ?_, fun e => nomatch e⟩
    obtain ⟨p, ep, t, rfl⟩ := nl.get' hv'
    have hp := hb p (List.mem_of_getElem? ep)
    walk_at "ss"
    refine W_vitems hv fun li l k hl hal => ?_
    obtain ⟨vi, ei, hvi⟩ := at_get hal hp
    walk_at "ss"
    refine W_itemN hl (by omega) ei ?_
    refine ⟨rfl, rfl, ?_⟩
    rw [map_take _ ep]
    exact hr.snoc hvi
  rintro D out σ₂ k _ hD ⟨rfl, hr⟩
  rw [lz, List.take_length] at hr
  have l1 : Le σ₂ (upd σ₂ D (lst out k)) := Le.upd hD
  walk_at "ss"
  refine W_call ((c_vmakeV hA upd_same (hr.imp fun _ _ q => q.le l1)).mono fun r σ' e => ?_)
  obtain ⟨y, dy, rfl, hy0, hdy0, l2, hvo⟩ := e
  have l12 := l1.trans l2
  walk_at "ss"
  refine W_call ((c_names hA (hv.le l12) (hn.le l12) (fun ss h => by rw [hz2 ss h]; omega)).mono fun r σ₃ e => ?_)
  obtain ⟨l3, e⟩ := e
  have l13 := l12.trans l3
  cases nm with
  | none =>
    obtain rfl := e
    walk_at "ss"
    obtain ⟨f, ha, hf1, hf2, hf3⟩ := hn
    refine W_callB (c_factor hA (hv.le l13) (ha.le l13) hf2) ?_
    walk_at "ss"
    exact ⟨y, .none, rfl, l13, (show VecAt _ y _ _ from ⟨_, _, hvo⟩).le l3, NM.none⟩
  | some ss =>
    obtain ⟨na, nl', nk, rfl, hna, han⟩ := e
    have sz := hz2 ss rfl
    walk_at "ss"
    refine W_comp (.free (by walk_at "ld")) rfl rfl (by kernel_rfl) (by kernel_rfl) ?_
    walk_at "ss"
    refine ⟨rfl, ll.length, _, _, fun i out σ' => σ' = σ₃ ∧ All2 (ItV σ₃) (((ps.take i).map fun p => ss.getD p Str.empty).map It.str) out, itb_list hA.2.2 (l13 _ _ el), ⟨rfl, by simp; exact .nil⟩, szl (by omega), fun i out σ' h => ⟨lk, by rw [h.1]; exact l13 _ _ el⟩, ?_, ?_⟩
    · rintro i v out σ' g cenv hi hv' ⟨rfl, hr⟩ hlen
      refine W_tst0 ⟨rfl, fun _ => ?_, fun e => nomatch e⟩
      obtain ⟨p, ep, t, rfl⟩ := nl.get' hv'
      have hp : p < ss.length := by rw [sz]; exact hb p (List.mem_of_getElem? ep)
      obtain ⟨vi, ei, hvi⟩ := han.get (i := p) (a := .str (ss.getD p Str.empty)) (by rw [List.getElem?_map, List.getD, List.getElem?_eq_getElem hp]; rfl)
      walk_at "ss"
      refine W_itemN hna (by omega) ei ?_
      refine ⟨rfl, rfl, ?_⟩
      rw [map_take _ ep, List.map_append]
      exact hr.snoc hvi
    rintro E out2 σ₄ k2 _ hE ⟨rfl, hr2⟩
    rw [lz, List.take_length] at hr2
    have l4 : Le σ₄ (upd σ₄ E (lst out2 k2)) := Le.upd hE
    walk_at "ss"
    refine W_call ((c_setnames hA ((hvo.le l3).le l4) upd_same (hr2.imp fun _ _ q => q.le l4) (by simpa using hpz)).mono fun r σ' e => ?_)
    obtain ⟨rfl, at3, hvx, hnm, hfr⟩ := e
    have l5 : Le σ₂ σ' := fun a o h => hfr a o (by rintro rfl; rw [none_of_le l1 hdy0] at h; cases h) (l4 _ _ (l13 _ _ h))
    walk_at "ss"
    obtain ⟨f, ha, hf1, hf2, hf3⟩ := hn
    refine W_callB (c_factor hA (hv.le l5) (ha.le l5) hf2) ?_
    walk_at "ss"
    exact ⟨y, at3, rfl, l5, hvx, hnm⟩
theorem cmpK_one (V : Vec) (b : Bool) (last : Bool) : (fun i j => cmpK [(V, b)] i j last) = fun i j => cmpP V i j b last := by
  funext i j
  unfold cmpK
  split
  · rename_i h; rw [h]; rfl
  · rfl
theorem keys_one {m : Nat} {a x : Addr} {V : Vec} {at' : Value} {k : Nat} {b : Bool} (hl : σ a = some (lst [.ref x] k)) (hv : VecAt σ x V at') (ho : VOk V) (hm : V.items.length = m) : Keys σ m [(V, b)] a :=
  ⟨Nat.le_of_ble_eq_true rfl, _, _, hl, .cons ⟨x, at', rfl, hv, ho, hm⟩ .nil⟩
/-- order_by of one key -/
theorem c_order1 {n : Nat} (hA : Ok (n + 8) A) {m : Nat} {V : Vec} {a x : Addr} {at' : Value} {k : Nat} {b : Bool} {nl : Option Bool} (hl : σ a = some (lst [.ref x] k)) (hv : VecAt σ x V at') (ho : VOk V) (hm : V.items.length = m) :
    CW w os A (.ref 303) [.ref a, .bool b, nlv nl] σ fun r σ' => ∃ a l k, r = .ref a ∧ σ a = none ∧ σ' = upd σ a (lst l k) ∧ ∃ r, NatL r l ∧ Srt (fun i j => cmpP V i j b (nl.getD true)) (kept [(V, b)] m nl) r :=
  (c_order (keys := [(V, b)]) hA (keys_one hl hv ho hm) (by simp) (.inl ⟨b, rfl, fun k hk => by rw [List.mem_singleton] at hk; rw [hk]⟩)).mono fun r σ' ⟨a, l, k, h1, h2, h3, r', h4, h5⟩ => ⟨a, l, k, h1, h2, h3, r', h4, by rw [cmpK_one] at h5; exact h5⟩
def sortPost (w : World) (σ : Led) (V : Vec) (b : Bool) (nm : Option (List Str)) (r : Value) (σ' : Led) : Prop := ∃ y at3 rr, r = .ref y ∧ Le σ σ' ∧ Srt (fun i j => cmpP V i j b true) (kept [(V, b)] V.items.length none) rr ∧ VecAt σ' y ⟨V.kd, rr.map V.at⟩ at3 ∧ NM w σ' at3 (nm.map fun ss => rr.map fun p => ss.getD p Str.empty)
theorem Srt.lt {c : Nat → Nat → Int} {keys : List (Vec × Bool)} {m : Nat} {nl : Option Bool} {r : List Nat} (h : Srt c (kept keys m nl) r) : ∀ p ∈ r, p < m := fun p hp => kept_lt p (h.1.subset hp)
theorem Srt.len {c : Nat → Nat → Int} {keys : List (Vec × Bool)} {m : Nat} {nl : Option Bool} {r : List Nat} (h : Srt c (kept keys m nl) r) : r.length ≤ m := by
  rw [h.1.length_eq]; exact kept_len
theorem c_sortv {n : Nat} (hA : Ok (n + 9) A) {x : Addr} {V : Vec} {at' : Value} {nm : Option (List Str)} {b : Bool} (hv : VecAt σ x V at') (hn : NM w σ at' nm) (hz : VOk V) (hz2 : ∀ ss, nm = some ss → ss.length = V.items.length) :
    CW w os A (.ref 311) [.ref x, .bool b] σ (sortPost w σ V b nm) := by
  have vz := hz.2
  refine callK (binds := [(Str.ofString "v", .ref x), (Str.ofString "decreasing", .bool b), (Str.ofString "na_last", .none)]) (vs := [some (.ref x), some (.bool b), some (.none), none, none]) (ns := [(Str.ofString "v", NameKind.local), (Str.ofString "decreasing", NameKind.local), (Str.ofString "na_last", NameKind.local), (Str.ofString "pick", NameKind.globalImplicit), (Str.ofString "order_by", NameKind.globalImplicit)]) hA rfl (by kernel_rfl) (fun _ => by kernel_rfl) (by kernel_rfl) (by kernel_rfl) (by kernel_rfl) (by kernel_rfl) rfl fun g A env hA he => ?_
  walk_at "ss"
  refine ⟨Nat.le_of_ble_eq_true rfl, fun a ha => ?_⟩
  have l1 : Le σ (upd σ a (lst [.ref x] 0)) := Le.upd ha
  walk_at "ss"
  refine W_call ((c_order1 (nl := none) hA upd_same (hv.le l1) hz rfl).mono fun r σ' e => ?_)
  obtain ⟨ra, rl, rk, rfl, hra, rfl, rr, nr, hs⟩ := e
  have l2 : Le (upd σ a (lst [.ref x] 0)) (upd (upd σ a (lst [.ref x] 0)) ra (lst rl rk)) := Le.upd hra
  walk_at "ss"
  refine W_call ((c_pick hA (hv.le (l1.trans l2)) (hn.le (l1.trans l2)) hz hz2 ⟨_, _, upd_same, nr⟩ hs.lt (Nat.le_trans hs.len (by omega))).mono fun r σ' e => ?_)
  obtain ⟨y, at3, rfl, l3, hvy, hny⟩ := e
  walk_at "ss"
  exact ⟨y, at3, rr, rfl, (l1.trans l2).trans l3, hs, hvy, hny⟩
theorem c_sortv1 {n : Nat} (hA : Ok (n + 9) A) {x : Addr} {V : Vec} {at' : Value} {nm : Option (List Str)} (hv : VecAt σ x V at') (hn : NM w σ at' nm) (hz : VOk V) (hz2 : ∀ ss, nm = some ss → ss.length = V.items.length) :
    CW w os A (.ref 311) [.ref x] σ (sortPost w σ V false nm) := by
  have vz := hz.2
  refine callK (binds := [(Str.ofString "v", .ref x), (Str.ofString "decreasing", .bool false), (Str.ofString "na_last", .none)]) (vs := [some (.ref x), some (.bool false), some (.none), none, none]) (ns := [(Str.ofString "v", NameKind.local), (Str.ofString "decreasing", NameKind.local), (Str.ofString "na_last", NameKind.local), (Str.ofString "pick", NameKind.globalImplicit), (Str.ofString "order_by", NameKind.globalImplicit)]) hA rfl (by kernel_rfl) (fun _ => by kernel_rfl) (by kernel_rfl) (by kernel_rfl) (by kernel_rfl) (by kernel_rfl) rfl fun g A env hA he => ?_
  walk_at "ss"
  refine ⟨Nat.le_of_ble_eq_true rfl, fun a ha => ?_⟩
  have l1 : Le σ (upd σ a (lst [.ref x] 0)) := Le.upd ha
  walk_at "ss"
  refine W_call ((c_order1 (nl := none) hA upd_same (hv.le l1) hz rfl).mono fun r σ' e => ?_)
  obtain ⟨ra, rl, rk, rfl, hra, rfl, rr, nr, hs⟩ := e
  have l2 : Le (upd σ a (lst [.ref x] 0)) (upd (upd σ a (lst [.ref x] 0)) ra (lst rl rk)) := Le.upd hra
  walk_at "ss"
  refine W_call ((c_pick hA (hv.le (l1.trans l2)) (hn.le (l1.trans l2)) hz hz2 ⟨_, _, upd_same, nr⟩ hs.lt (Nat.le_trans hs.len (by omega))).mono fun r σ' e => ?_)
  obtain ⟨y, at3, rfl, l3, hvy, hny⟩ := e
  walk_at "ss"
  exact ⟨y, at3, rr, rfl, (l1.trans l2).trans l3, hs, hvy, hny⟩
end TextMK9
noncomputable section TextMKA
variable {w : World} {os : OsState} {A : Around} {σ : Led}
theorem All2.unsnoc {α β : Type} {R : α → β → Prop} {as : List α} {a : α} {bs : List β} (h : All2 R (as ++ [a]) bs) : ∃ bs' b, bs = bs' ++ [b] ∧ All2 R as bs' ∧ R a b := by
  induction as generalizing bs with
  | nil => cases h with
    | cons r h => cases h; exact ⟨[], _, rfl, .nil, r⟩
  | cons x as ih => cases h with
    | cons r h =>
      obtain ⟨bs', b, e, h1, h2⟩ := ih h
      exact ⟨_ :: bs', b, by rw [e]; rfl, .cons r h1, h2⟩
theorem All2.set {α β : Type} {R : α → β → Prop} {as : List α} {bs : List β} {i : Nat} {a : α} {b : β} (h : All2 R as bs) (r : R a b) : All2 R (as.set i a) (bs.set i b) := by
  induction h generalizing i with
  | nil => exact .nil
  | cons r' h ih => cases i with
    | zero => exact .cons r h
    | succ i => exact .cons r' ih
def GrR (σ₀ : Led) (D : Addr) (σ : Led) (g : List Nat) (v : Value) : Prop := ∃ a, v = .ref a ∧ σ₀ a = none ∧ a ≠ D ∧ g ≠ [] ∧ LN σ a g
theorem GrR.le {σ₀ σ σ' : Led} {D : Addr} {g : List Nat} {v : Value} (h : GrR σ₀ D σ g v) (l : Le σ σ') : GrR σ₀ D σ' g v := by
  obtain ⟨a, e, n, nd, ne, h⟩ := h; exact ⟨a, e, n, nd, ne, h.le l⟩
theorem GrR.set {σ₀ σ : Led} {D b : Addr} {g : List Nat} {v : Value} {o : Obj} (h : GrR σ₀ D σ g v) (hb : v ≠ .ref b) : GrR σ₀ D (upd σ b o) g v := by
  obtain ⟨a, e, n, nd, ne, l, k, x, y⟩ := h
  exact ⟨a, e, n, nd, ne, l, k, by rw [upd_ne (by rintro rfl; exact hb e)]; exact x, y⟩
theorem All2.impM {α β : Type} {R S : α → β → Prop} {as : List α} {bs : List β} (h : All2 R as bs) (f : ∀ a b, b ∈ bs → R a b → S a b) : All2 S as bs := by
  induction h with
  | nil => exact .nil
  | cons r _ ih => exact .cons (f _ _ List.mem_cons_self r) (ih fun a b hb => f a b (List.mem_cons_of_mem _ hb))
theorem All2.memR {α β : Type} {R : α → β → Prop} {as : List α} {bs : List β} (h : All2 R as bs) {b : β} (hb : b ∈ bs) : ∃ a ∈ as, R a b := by
  obtain ⟨i, hi, rfl⟩ := List.getElem_of_mem hb
  obtain ⟨a, e, r⟩ := h.get' (List.getElem?_eq_getElem hi)
  exact ⟨a, List.mem_of_getElem? e, r⟩
theorem c_ties {n : Nat} (hA : Ok (n + 4) A) {x pl : Addr} {V : Vec} {at' : Value} {ps : List Nat} (hv : VecAt σ x V at') (hz : VOk V) (hp : LN σ pl ps) (hb : ∀ p ∈ ps, p < V.items.length ∧ lack V.kd (V.at p) = false) (hpz : ps.length ≤ 1000) :
    CW w os A (.ref 318) [.ref x, .ref pl] σ fun r σ' => ∃ D lg kg gs, r = .ref D ∧ Le σ σ' ∧ σ D = none ∧ σ' D = some (lst lg kg) ∧ All2 (GrR σ D σ') gs lg ∧ gs.flatten = ps := by
  obtain ⟨ll, lk, el, nl⟩ := hp
  have lz := nl.length
  have vz := hz.2
  refine callK (binds := [(Str.ofString "v", .ref x), (Str.ofString "places", .ref pl)]) (vs := [some (.ref x), some (.ref pl), none, none, none, none]) (ns := [(Str.ofString "v", NameKind.local), (Str.ofString "places", NameKind.local), (Str.ofString "groups", NameKind.local), (Str.ofString "place", NameKind.local), (Str.ofString "len", NameKind.globalImplicit), (Str.ofString "compare_items", NameKind.globalImplicit)]) hA rfl (by kernel_rfl) (fun _ => by kernel_rfl) (by kernel_rfl) (by kernel_rfl) (by kernel_rfl) (by kernel_rfl) rfl fun g A env hA he => ?_
  walk_at "ss"
  refine ⟨Nat.zero_le _, fun D hD => ?_⟩
  walk_at "ss"
  refine W_cons (W_for (n := ll.length) (P := fun i v => ll[i]? = some v) (S := fun σ => ∃ n, σ pl = some (lst ll n)) (fun i vs σ' => ∃ gs lg kg pv, Le σ σ' ∧ σ' D = some (lst lg kg) ∧ All2 (GrR σ D σ') gs lg ∧ lg.Pairwise (· ≠ ·) ∧ gs.flatten = ps.take i ∧ gs.length ≤ i ∧
    vs = [some (.ref x), some (.ref pl), some (.ref D), pv, none, none]) ?_ (fun i vs σ' h => ⟨lk, by obtain ⟨_, _, _, _, h, _⟩ := h; exact h _ _ el⟩) ?_ ?_)
  · walk_at "ss"
    exact ⟨itb_list hA.2.2 (Le.upd hD _ _ el), [], [], _, _, Le.upd hD, upd_same, .nil, .nil, rfl, Nat.zero_le _, rfl⟩
  · rintro i v vs σ' g hi hv' ⟨gs, lg, kg, pv, hle, hG, hgs, hnd, hfl, hgl, rfl⟩
    obtain ⟨p, ep, t, rfl⟩ := nl.get' hv'
    obtain ⟨hp1, hp2⟩ := hb p (List.mem_of_getElem? ep)
    have gz := hgs.length
    have etk : ps.take (i + 1) = ps.take i ++ [p] := by rw [List.take_add_one, ep]; rfl
    walk_at "ss"
    refine W_len hG (by omega) fun _ => ?_
    walk_at "ss"
    rcases List.eq_nil_or_concat gs with rfl | ⟨gs0, gl, rfl⟩
    · have : lg.length = 0 := gz
      rw [this]
      refine br_d (fun e => absurd e (by decide)) fun _ => ?_
      walk_at "ss"
      refine ⟨_, _, _, rfl, hG, ?_⟩
      walk_at "ss"
      refine ⟨Nat.le_of_ble_eq_true rfl, fun b hb' => ?_⟩
      refine ⟨_, _, upd_get hb' hG, szl (by omega), ?_⟩
      walk_at "ss"
      have hbD : b ≠ D := by rintro rfl; rw [hG] at hb'; cases hb'
      refine ⟨[[p]], _, _, _, (hle.trans (Le.upd hb')).upd_r hD, upd_same, ?_, ?_, ?_, by simp, rfl⟩
      · cases hgs
        exact .cons ⟨b, rfl, none_of_le hle hb', hbD, by simp, _, _, by rw [upd_ne hbD]; exact upd_same, .cons ⟨_, rfl⟩ .nil⟩ .nil
      · cases hgs
        exact List.pairwise_singleton _ _
      · rw [etk, ← hfl]; rfl
    · rw [List.concat_eq_append] at *
      obtain ⟨lg0, vl, rfl, hgs0, al, rfl, hal0, halD, hgne, ll2, lk2, hll, hnl⟩ := hgs.unsnoc
      refine br_d (fun _ => ?_) fun e => absurd (by simp) e
      obtain ⟨q, gl', rfl⟩ : ∃ q r, gl = q :: r := by cases gl with
        | nil => exact absurd rfl hgne
        | cons q r => exact ⟨q, r, rfl⟩
      have hqm : q ∈ ps := by
        have : q ∈ ps.take i := by rw [← hfl]; simp
        exact List.mem_of_mem_take this
      obtain ⟨hq1, hq2⟩ := hb q hqm
      obtain ⟨_, e0, tq, rfl⟩ := hnl.get (i := 0) rfl
      have l2z := hnl.length
      have flz := congrArg List.length hfl
      simp at flz
      walk_at "ss"
      refine W_vkind (hv.le hle) fun tk => ?_
      walk_at "ss"
      refine W_vitems (hv.le hle) fun li l k hl hal => ?_
      walk_at "ss"
      refine W_itemLast hG (by omega) List.getLast?_concat ?_
      walk_at "ss"
      refine W_item hll (by decide) (by decide) e0 ?_
      obtain ⟨v1, e1, hv1⟩ := at_get hal hq1
      refine W_itemN hl (by omega) e1 ?_
      walk_at "ss"
      refine W_vitems (hv.le hle) fun li' l' k' hl' hal' => ?_
      obtain ⟨v2, e2, hv2⟩ := at_get hal' hp1
      walk_at "ss"
      refine W_itemN hl' (by omega) e2 ?_
      walk_at "ss"
      refine W_callI (c_items hA (full_of (hz.1.at q) hq2) (full_of (hz.1.at p) hp2) hv1 hv2) fun _ => ?_
      walk_at "ss"
      refine br_e (fun _ => ?_) fun _ => ?_
      · walk_at "ss"
        refine W_itemLast hG (by omega) List.getLast?_concat ?_
        refine ⟨_, _, _, rfl, hll, ?_⟩
        walk_at "ss"
        refine ⟨_, _, hll, szl (by simp at l2z; omega), ?_⟩
        walk_at "ss"
        have hne : ∀ v ∈ lg0, v ≠ .ref al := fun v hv => (List.pairwise_append.mp hnd).2.2 v hv _ List.mem_cons_self
        refine ⟨gs0 ++ [(q :: gl') ++ [p]], _, _, _, hle.upd_r hal0, by rw [upd_ne (Ne.symm halD)]; exact hG, ?_, hnd, ?_, by simp at hgl ⊢; omega, rfl⟩
        · exact All2.snoc (hgs0.impM fun g v hv h => h.set (hne v hv)) ⟨al, rfl, hal0, halD, by simp, _, _, upd_same, hnl.snoc ⟨t, rfl⟩⟩
        · rw [etk, ← hfl]; simp
      · walk_at "ss"
        refine ⟨_, _, _, rfl, hG, ?_⟩
        walk_at "ss"
        refine ⟨Nat.le_of_ble_eq_true rfl, fun b hb' => ?_⟩
        refine ⟨_, _, upd_get hb' hG, szl (by omega), ?_⟩
        walk_at "ss"
        have hbD : b ≠ D := by rintro rfl; rw [hG] at hb'; cases hb'
        have hnv : ∀ v ∈ lg0 ++ [.ref al], v ≠ .ref b := fun v hv e => by
          obtain ⟨g, _, a, e', _, _, _, _, _, h, _⟩ := hgs.memR hv
          rw [e] at e'; cases e'; rw [hb'] at h; cases h
        have hnD : ∀ v ∈ lg0 ++ [.ref al], v ≠ .ref D := fun v hv e => by
          obtain ⟨g, _, a, e', _, h, _⟩ := hgs.memR hv
          rw [e] at e'; cases e'; exact h rfl
        refine ⟨(gs0 ++ [q :: gl']) ++ [[p]], _, _, _, (hle.trans (Le.upd hb')).upd_r hD, upd_same, ?_, ?_, ?_, by simp at hgl ⊢; omega, rfl⟩
        · exact All2.snoc (hgs.impM fun g v hv h => (h.le (Le.upd hb')).set (hnD v hv)) ⟨b, rfl, none_of_le hle hb', hbD, by simp, _, _, by rw [upd_ne hbD]; exact upd_same, .cons ⟨_, rfl⟩ .nil⟩
        · exact List.pairwise_append.mpr ⟨hnd, List.pairwise_singleton _ _, fun v hv u hu => by rw [List.mem_singleton] at hu; rw [hu]; exact hnv v hv⟩
        · rw [etk, ← hfl]; simp
  · rintro vs σ' ⟨gs, lg, kg, pv, hle, hG, hgs, hnd, hfl, hgl, rfl⟩
    rw [lz, List.take_length] at hfl
    walk_at "ss"
    exact ⟨D, lg, kg, gs, rfl, hle, hD, hG, hgs, hfl⟩
end TextMKA
noncomputable section TextMKB
variable {w : World} {os : OsState} {A : Around} {σ : Led}
def setR : List It → Nat → List Nat → List It
  | rk, _, [] => rk
  | rk, d, p :: ps => setR (rk.set p (.int (d + 1 : Nat))) (d + 1) ps
theorem setR_append : ∀ (a b : List Nat) (rk : List It) (d : Nat), setR rk d (a ++ b) = setR (setR rk d a) (d + a.length) b
  | [], b, rk, d => rfl
  | p :: a, b, rk, d => by
    show setR (rk.set p _) (d + 1) (a ++ b) = setR (setR (rk.set p _) (d + 1) a) _ b
    rw [setR_append a b]
    congr 1
    simp only [List.length_cons]; omega
theorem setR_len : ∀ (a : List Nat) (rk : List It) (d : Nat), (setR rk d a).length = rk.length
  | [], _, _ => rfl
  | p :: a, rk, d => by show (setR (rk.set p _) (d + 1) a).length = _; rw [setR_len a, List.length_set]
def RkV (it : It) (v : Value) : Prop := (it = .na ∧ v = .none) ∨ ∃ i t, it = .int i ∧ v = .int i t
theorem RkV.itv {it : It} {v : Value} (h : RkV it v) : ItV σ it v := by
  rcases h with ⟨rfl, rfl⟩ | ⟨i, t, rfl, rfl⟩
  · rfl
  · exact ⟨t, rfl⟩
abbrev first' : Str := Str.ofString "first"
theorem first_ne : (first'.cps.toList == (Str.ofString "average").cps.toList) = false ∧ (first'.cps.toList == (Str.ofString "min").cps.toList) = false ∧ (first'.cps.toList == (Str.ofString "max").cps.toList) = false ∧ (first'.cps.toList == (Str.ofString "first").cps.toList) = true ∧
    (!([Str.ofString "average", Str.ofString "min", Str.ofString "max", Str.ofString "first", Str.ofString "last"].any (· == first'))) = false := by decide +kernel
theorem c_grank {n : Nat} (hA : Ok (n + 1) A) {a b c : Int} {t t1 t2 t3 : Tok} : CW w os A (.ref 325) [.str first' t, .int a t1, .int b t2, .int c t3] σ fun r σ' => (∃ t, r = .int (a + c) t) ∧ σ' = σ := by
  refine callK (binds := [(Str.ofString "ties", .str first' t), (Str.ofString "first", .int a t1), (Str.ofString "last", .int b t2), (Str.ofString "number", .int c t3)]) (vs := [some (.str first' t), some (.int a t1), some (.int b t2), some (.int c t3), none, none]) (ns := [(Str.ofString "ties", NameKind.local), (Str.ofString "first", NameKind.local), (Str.ofString "last", NameKind.local), (Str.ofString "number", NameKind.local), (Str.ofString "div", NameKind.globalImplicit), (Str.ofString "from_int", NameKind.globalImplicit)]) hA rfl (by kernel_rfl) (fun _ => by kernel_rfl) (by kernel_rfl) (by kernel_rfl) (by kernel_rfl) (by kernel_rfl) rfl fun g A env hA he => ?_
  walk_at "ss"
  rw [first_ne.1]
  walk_at "ss"
  rw [first_ne.2.1]
  walk_at "ss"
  rw [first_ne.2.2.1]
  walk_at "ss"
  rw [first_ne.2.2.2.1]
  walk_at "ss"
  exact ⟨⟨_, rfl⟩, rfl⟩
theorem W_gen {g : Led} {env : Env} {own : Bool} {ns : List (Str × NameKind)} {vs : List (Option Value)} {α : Type} {m : Sem α} {Q : α → List (Option Value) → Led → Prop} (P : Led → Prop) (hp : P σ) (h : ∀ σ, P σ → W prg w (Kx w) g os A env own ns m vs σ Q) : W prg w (Kx w) g os A env own ns m vs σ Q := h _ hp
theorem kept_full {V : Vec} {b : Bool} {m p : Nat} (h : p ∈ kept [(V, b)] m none) : p < m ∧ lack V.kd (V.at p) = false := by
  obtain ⟨h1, h2⟩ := List.mem_filter.mp h
  refine ⟨List.mem_range.mp h1, ?_⟩
  have h3 : (([(V, b)] : List (Vec × Bool)).all fun V => !lack V.1.kd (V.1.at p)) = true := h2
  simpa using h3
def LeX (R : Addr) (σ σ' : Led) : Prop := ∀ a o, a ≠ R → σ a = some o → σ' a = some o
theorem rkI {i j : Int} {t : Tok} (h : i = j) : RkV (.int j) (.int i t) := by subst h; exact .inr ⟨i, t, rfl, rfl⟩
theorem rep1 (m : Nat) : All2 RkV (List.replicate m It.na) (List.replicate m [Value.none]).flatten := by
  induction m with
  | zero => exact .nil
  | succ m ih => rw [List.replicate_succ, List.replicate_succ, List.flatten_cons]; exact .cons (.inl ⟨rfl, rfl⟩) ih
theorem c_rank {n : Nat} (hA : Ok (n + 9) A) {x : Addr} {V : Vec} {at' : Value} {t : Tok} (hv : VecAt σ x V at') (hz : VOk V) (h2 : V.items.length ≤ 200) :
    CW w os A (.ref 333) [.ref x, .str first' t] σ fun r σ' => ∃ y rr, r = .ref y ∧ Le σ σ' ∧ Srt (fun i j => cmpP V i j false true) (kept [(V, false)] V.items.length none) rr ∧ VecAt σ' y ⟨.int, setR (List.replicate V.items.length .na) 0 rr⟩ .none := by
  have vz := hz.2
  refine callK (binds := [(Str.ofString "v", .ref x), (Str.ofString "ties", .str first' t)]) (vs := ((some (.ref x)) :: (some (.str first' t)) :: none :: none :: none :: none :: none :: none :: none :: none :: none :: none :: none :: none :: none :: none :: [])) (ns := ((Str.ofString "v", NameKind.local) :: (Str.ofString "ties", NameKind.local) :: (Str.ofString "ranks", NameKind.local) :: (Str.ofString "done", NameKind.local) :: (Str.ofString "group", NameKind.local) :: (Str.ofString "number", NameKind.local) :: (Str.ofString "check_sortable", NameKind.globalImplicit) :: (Str.ofString "Refusal", NameKind.globalImplicit) :: (Str.ofString "length", NameKind.globalImplicit) :: (Str.ofString "tie_groups", NameKind.globalImplicit) :: (Str.ofString "order_by", NameKind.globalImplicit) :: (Str.ofString "range", NameKind.globalImplicit) :: (Str.ofString "len", NameKind.globalImplicit) :: (Str.ofString "group_rank", NameKind.globalImplicit) :: (Str.ofString "double", NameKind.globalImplicit) :: (Str.ofString "integer", NameKind.globalImplicit) :: [])) hA rfl (by kernel_rfl) (fun _ => by kernel_rfl) (by kernel_rfl) (by kernel_rfl) (by kernel_rfl) (by kernel_rfl) rfl fun g A env hA he => ?_
  walk_at "ss"
  refine W_callB (c_check hA hv) ?_
  walk_at "ss"
  refine ⟨Nat.le_of_ble_eq_true rfl, fun a ha => ?_⟩
  refine W_notin_tup upd_same (.cons _ _ (.cons _ _ (.cons _ _ (.cons _ _ (.cons _ _ .nil))))) ?_
  rw [first_ne.2.2.2.2]
  walk_at "s"
  walk_at "s"
  refine W_gen (fun σ₁ => Le σ σ₁) (Le.upd ha) fun σ₁ l0 => ?_
  walk_at "ss"
  refine ⟨Nat.le_of_ble_eq_true rfl, fun b hb => ?_⟩
  walk_at "ss"
  refine W_callI (c_length hA (hv.le (l0.trans (Le.upd hb))) vz) fun t' => ?_
  refine W_repeat upd_same (by omega) (by omega) (by simp; omega) fun R hR0 => ?_
  rw [Int.toNat_natCast]
  have hRn : σ R = none := none_of_le (l0.trans (Le.upd hb)) hR0
  walk_at "s"
  refine W_gen (fun σR => Le σ σR ∧ σR R = some (lst (List.replicate V.items.length [Value.none]).flatten 0)) ⟨(l0.trans (Le.upd hb)).trans (Le.upd hR0), upd_same⟩ fun σR ⟨lR, hR⟩ => ?_
  walk_at "ss"
  refine W_cons ?_
  refine W_mono (Q := fun fl vs σ'' => fl = .next ∧ ∃ o l rr dv gv nv, Srt (fun i j => cmpP V i j false true) (kept [(V, false)] V.items.length none) rr ∧ Le σ σ'' ∧ σ'' R = some o ∧ LObj o l ∧ All2 RkV (setR (List.replicate V.items.length .na) 0 rr) l ∧
    vs = [some (.ref x), some (.str first' t), some (.ref R), dv, gv, nv, none, none, none, none, none, none, none, none, none, none]) ?_ ?_
  · refine W_forE ?_
    walk_at "ss"
    refine ⟨Nat.le_of_ble_eq_true rfl, fun a ha => ?_⟩
    have l1 := lR.trans (Le.upd (o := lst [.ref x] 0) ha)
    walk_at "ss"
    refine W_call ((c_order1 (nl := none) hA upd_same (hv.le l1) hz rfl).mono fun r σ' e => ?_)
    obtain ⟨ra, rl, rk, rfl, hra, rfl, rr, nr, hs⟩ := e
    have l2 := l1.trans (Le.upd (o := lst rl rk) hra)
    have hR2 : (upd (upd σR a (lst [.ref x] 0)) ra (lst rl rk)) R = some (lst (List.replicate V.items.length [Value.none]).flatten 0) := Le.upd hra _ _ (Le.upd ha _ _ hR)
    walk_at "ss"
    refine W_call ((c_ties hA (hv.le l2) hz ⟨_, _, upd_same, nr⟩ (fun p hp => kept_full (hs.1.subset hp)) (Nat.le_trans hs.len (by omega))).mono fun r σ₃ e => ?_)
    obtain ⟨D, lg, kg, gs, rfl, l3, hD0, hG, hgs, hfl⟩ := e
    have hDR : D ≠ R := by rintro rfl; rw [hR2] at hD0; cases hD0
    have hR3 := l3 _ _ hR2
    have lgz := hgs.length
    have hrl := hs.len
    refine ⟨lg.length, fun i v => lg[i]? = some v, fun σ => ∃ n, σ D = some (lst lg n), fun i vs σ'' => ∃ o l gv nv dt d, LeX R σ₃ σ'' ∧ σ'' R = some o ∧ LObj o l ∧ All2 RkV (setR (List.replicate V.items.length .na) 0 (gs.take i).flatten) l ∧ d = (((gs.take i).flatten.length : Nat) : Int) ∧
      vs = [some (.ref x), some (.str first' t), some (.ref R), some (.int d dt), gv, nv, none, none, none, none, none, none, none, none, none, none],
      itb_list hA.2.2 hG, ⟨_, _, _, _, _, _, fun _ _ _ h => h, hR3, LObj.lst _ _, rep1 _, rfl, rfl⟩, fun i vs σ'' h => ⟨kg, by obtain ⟨_, _, _, _, _, _, h, _⟩ := h; exact h _ _ hDR hG⟩, ?_, ?_⟩
    · rintro i v vs σ'' g hi hv' ⟨o, l, gv, nv, dt, d, hX, hR4, hlo, hrk, rfl, rfl⟩
      obtain ⟨gg, eg, ga, rfl, hga0, _, hgne, gl, gk, hgl, hgn⟩ := hgs.get' hv'
      have hgR : ga ≠ R := by rintro rfl; rw [hR2] at hga0; cases hga0
      have glz := hgn.length
      have etk : gs.take (i + 1) = gs.take i ++ [gg] := by rw [List.take_add_one, eg]; rfl
      have gsub : ∀ p ∈ gg, p < V.items.length := fun p hp => hs.lt p (by rw [← hfl]; exact List.mem_flatten.mpr ⟨gg, List.mem_of_getElem? eg, hp⟩)
      have gsz : gg.length ≤ 1000 := by
        have : (gs.take i ++ [gg]).flatten.length ≤ gs.flatten.length := by
          rw [← etk]
          conv => rhs; rw [← List.take_append_drop (i + 1) gs, List.flatten_append, List.length_append]
          omega
        rw [hfl] at this
        simp at this
        omega
      walk_at "ss"
      refine W_cons (W_for (n := gg.length) (P := fun i v => ∃ t, v = .int i t) (S := fun _ => True) (fun j vs σ'' => ∃ o l nv, LeX R σ₃ σ'' ∧ σ'' R = some o ∧ LObj o l ∧ All2 RkV (setR (setR (List.replicate V.items.length .na) 0 (gs.take i).flatten) (gs.take i).flatten.length (gg.take j)) l ∧
        vs = [some (.ref x), some (.str first' t), some (.ref R), some (.int (((gs.take i).flatten.length : Nat) : Int) dt), some (.ref ga), nv, none, none, none, none, none, none, none, none, none, none]) ?_ (fun _ _ _ _ => trivial) ?_ ?_)
      · walk_at "ss"
        refine W_len (hX _ _ hgR hgl) (by omega) fun _ => ?_
        walk_at "ss"
        refine W_range1 fun r t u v hr => ?_
        rw [glz]
        exact ⟨itb_rangeN hA.2.2 upd_same (by omega), o, l, _, fun a o hn h => upd_get hr (hX a o hn h), upd_get hr hR4, hlo, hrk, rfl⟩
      · rintro j v vs σ₄ g hj ⟨jt, rfl⟩ ⟨o, l, nv, hX, hR4, hlo, hrk, rfl⟩
        have lz := hrk.length
        rw [setR_len, setR_len, List.length_replicate] at lz
        obtain ⟨_, e1, u1, rfl⟩ := hgn.get (List.getElem?_eq_getElem hj)
        have hpm := gsub gg[j] (List.getElem_mem hj)
        walk_at "ss"
        refine W_len (hX _ _ hgR hgl) (by omega) fun _ => ?_
        walk_at "ss"
        refine W_callI (c_grank hA) fun _ => ?_
        walk_at "ss"
        refine W_itemN (hX _ _ hgR hgl) (by omega) e1 ?_
        refine W_setItemL hR4 hlo (by omega) (by omega) (by omega) fun o' ho' => ?_
        walk_at "ss"
        refine ⟨o', _, _, fun a o hn h => by rw [upd_ne hn]; exact hX a o hn h, upd_same, ho', ?_, rfl⟩
        have etj : gg.take (j + 1) = gg.take j ++ [gg[j]] := by rw [List.take_add_one, List.getElem?_eq_getElem hj]; rfl
        rw [etj, setR_append, Int.toNat_natCast]
        refine hrk.set (rkI ?_)
        rw [List.length_take, Nat.min_eq_left (Nat.le_of_lt hj)]
        push_cast
        omega
      · rintro vs σ₄ ⟨o, l, nv, hX, hR4, hlo, hrk, rfl⟩
        rw [List.take_length, ← Nat.zero_add (gs.take i).flatten.length, ← setR_append] at hrk
        walk_at "ss"
        refine W_len (hX _ _ hgR hgl) (by omega) fun _ => ?_
        walk_at "ss"
        refine ⟨o, l, _, _, _, _, hX, hR4, hlo, ?_, ?_, rfl⟩
        · rw [etk, List.flatten_append, List.flatten_cons, List.flatten_nil, List.append_nil]; exact hrk
        · rw [etk, List.flatten_append, List.flatten_cons, List.flatten_nil, List.append_nil, List.length_append, glz]; push_cast; rfl
    · rintro vs σ'' ⟨o, l, gv, nv, dt, d, hX, hR4, hlo, hrk, rfl, rfl⟩
      rw [show lg.length = gs.length from lgz, List.take_length, hfl] at hrk
      exact ⟨rfl, o, l, rr, _, _, _, hs, fun a o h => hX a o (by rintro rfl; rw [hRn] at h; cases h) (l3 _ _ (l2 _ _ h)), hR4, hlo, hrk, rfl⟩
  · rintro fl vs σ'' ⟨rfl, o, l, rr, dv, gv, nv, hs, hle, ho, hlo, hrk, rfl⟩
    walk_at "ss"
    rw [first_ne.1]
    walk_at "ss"
    refine W_call ((c_integer hA ho hlo (hrk.imp fun _ _ h => h.itv) (by rw [setR_len]; simp; omega)).mono fun r σ' e => ?_)
    obtain ⟨y, rfl, l3, hy⟩ := e
    walk_at "ss"
    exact ⟨y, rr, rfl, hle.trans l3, hs, hy⟩
theorem c_unsorted {n : Nat} (hA : Ok (n + 4) A) {x : Addr} {V : Vec} {at' : Value} (hv : VecAt σ x V at') (hz : VOk V) (hl : ∀ i, i < V.items.length → lack V.kd (V.at i) = false) (hc : ∀ i, i + 1 < V.items.length → cmpI (V.at i) (V.at (i + 1)) ≤ 0) :
    CW w os A (.ref 341) [.ref x] σ fun r σ' => (∃ t, r = .int 0 t) ∧ σ' = σ := by
  refine CallW.pure ?_
  have vz := hz.2
  refine callK (binds := [(Str.ofString "v", .ref x), (Str.ofString "strictly", .bool false)]) (vs := [some (.ref x), some (.bool false), none, none, none, none, none, none, none]) (ns := [(Str.ofString "v", NameKind.local), (Str.ofString "strictly", NameKind.local), (Str.ofString "item", NameKind.local), (Str.ofString "place", NameKind.local), (Str.ofString "result", NameKind.local), (Str.ofString "length", NameKind.globalImplicit), (Str.ofString "is_lacking", NameKind.globalImplicit), (Str.ofString "range", NameKind.globalImplicit), (Str.ofString "compare_items", NameKind.globalImplicit)]) hA rfl (by kernel_rfl) (fun _ => by kernel_rfl) (by kernel_rfl) (by kernel_rfl) (by kernel_rfl) (by kernel_rfl) rfl fun g A env hA he => ?_
  walk_at "ss"
  refine W_vkind hv fun tk => ?_
  walk_at "ss"
  refine ⟨Nat.le_of_ble_eq_true rfl, fun a ha => ?_⟩
  refine W_notin_tup upd_same (.cons _ _ (.cons _ _ (.cons _ _ (.cons _ _ .nil)))) ?_
  rw [kn_in]
  walk_at "s"
  walk_at "s"
  refine W_gen (fun σ₁ => Le σ σ₁) (Le.upd ha) fun σ₁ l0 => ?_
  walk_at "ss"
  refine W_callI (c_length hA (hv.le l0) vz) fun t' => ?_
  walk_at "ss"
  refine br_d (fun e => ?_) fun e => ?_
  · walk_at "ss"
    exact ⟨⟨_, rfl⟩, l0⟩
  walk_at "ss"
  refine W_cons (W_forE ?_)
  walk_at "ss"
  refine W_vitems (hv.le l0) fun li l k hli hal => ?_
  have lz := hal.length
  refine ⟨l.length, fun i v => l[i]? = some v, fun σ => ∃ n, σ li = some (lst l n), fun i vs σ'' => σ'' = σ₁ ∧ ∃ iv, vs = [some (.ref x), some (.bool false), iv, none, none, none, none, none, none], itb_list hA.2.2 hli, ⟨rfl, _, rfl⟩, fun i vs σ'' h => ⟨k, by rw [h.1]; exact hli⟩, ?_, ?_⟩
  · rintro i v vs σ'' g hi hv' ⟨rfl, iv, rfl⟩
    obtain ⟨it, eit, hit⟩ := hal.get' hv'
    have hi' : i < V.items.length := by omega
    have eat : it = V.at i := by
      unfold Vec.at; rw [List.getD, eit]; rfl
    subst eat
    walk_at "ss"
    refine W_vkind (hv.le l0) fun tk => ?_
    walk_at "ss"
    refine W_callB (c_lack hA (hz.1.at i) hit) ?_
    rw [hl i hi']
    walk_at "ss"
    exact ⟨rfl, _, rfl⟩
  · rintro vs σ'' ⟨rfl, iv, rfl⟩
    walk_at "ss"
    refine W_cons (W_for (n := V.items.length - 1) (P := fun i v => ∃ t, v = .int ((1 + i : Nat) : Int) t) (S := fun _ => True) (fun i vs σ₃ => Le σ'' σ₃ ∧ ∃ pv rv, vs = [some (.ref x), some (.bool false), iv, pv, rv, none, none, none, none]) ?_ (fun _ _ _ _ => trivial) ?_ ?_)
    · walk_at "ss"
      refine W_callI (c_length hA (hv.le l0) vz) fun t' => ?_
      walk_at "ss"
      refine W_range2 fun r t u v hr => ?_
      exact ⟨itb_rangeAB (a := 1) (b := V.items.length) hA.2.2 upd_same (by omega) (by omega), Le.upd hr, _, _, rfl⟩
    · rintro i v vs σ₃ g hi ⟨t, rfl⟩ ⟨l1, pv, rv, rfl⟩
      have h1 : i < V.items.length := by omega
      have h2 : 1 + i < V.items.length := by omega
      have hx := hv.le (l0.trans l1)
      walk_at "ss"
      refine W_vkind hx fun tk => ?_
      walk_at "ss"
      refine W_vitems hx fun li l k hli hal => ?_
      obtain ⟨v1, e1, hv1⟩ := at_get hal h1
      walk_at "ss"
      refine W_item hli (by omega) (by omega) (by rw [show (((1 + i : Nat) : Int) - 1).toNat = i by omega]; exact e1) ?_
      walk_at "ss"
      refine W_vitems hx fun li' l' k' hli' hal' => ?_
      obtain ⟨v2, e2, hv2⟩ := at_get hal' h2
      walk_at "ss"
      refine W_itemN hli' (by omega) e2 ?_
      walk_at "ss"
      refine W_callI (c_items hA (full_of (hz.1.at i) (hl i h1)) (full_of (hz.1.at (1 + i)) (hl _ h2)) hv1 hv2) fun _ => ?_
      have := hc i (by omega)
      rw [Nat.add_comm i 1] at this
      walk_at "ss"
      refine br_d (fun e => absurd e (by omega)) fun _ => ?_
      walk_at "ss"
      exact ⟨l1, _, _, rfl⟩
    · rintro vs σ₃ ⟨l1, pv, rv, rfl⟩
      walk_at "ss"
      exact ⟨⟨_, rfl⟩, l0.trans l1⟩
end TextMKB
noncomputable section TextMKC
variable {w : World} {os : OsState} {A : Around} {σ : Led}
section
variable {g : Led} {env : Env} {own : Bool} {ns : List (Str × NameKind)} {vs : List (Option Value)} {K : Frag} {prog : Program}
theorem W_sliceG {value : Expr} {lower upper : Option Expr} {p pos : Pos} {Q : ValQ}
    (h : W prog w K g os A env own ns (eval value env) vs σ fun o vs σ => W prog w K g os A env own ns (evalPart lower env) vs σ fun vl vs σ => W prog w K g os A env own ns (evalPart upper env) vs σ fun vu vs σ =>
      ∃ a l ob lo hi, o = .ref a ∧ g a = some ob ∧ LObj ob l ∧ l.length ≤ sizeLine ∧ IsPart vl lo ∧ IsPart vu hi ∧ ∀ b, σ b = none → Q (.ref b) vs (upd σ b (lst (kms_pick l lo hi) 0)))
    (ht : ∀ o r, letTemporaryGo value o r = pure () := by intro _ _; with_unfolding_all rfl) : W prog w K g os A env own ns (eval (.Subscript value (.Slice lower upper none p) pos) env) vs σ Q := W_in fun s H F => by
  refine wpAny_Subscript_list_slice (h.go H F (fun o s₁ _ _ H₁ F₁ h₁ => h₁.go H₁ F₁ (fun vl s₂ _ _ H₂ F₂ h₂ => h₂.go H₂ F₂ (fun vu s₃ vs₃ σ₃ H₃ F₃ h₃ => ?_)))) ht
  obtain ⟨a, l, ob, lo, hi, rfl, e, hob, hz, pl, pu, q⟩ := h₃
  refine ⟨a, l.toArray, lo, hi, rfl, isList_ofO H₃.keep e hob, by rw [List.size_toArray]; exact hz, pl, pu, ?_⟩
  have eq : slicePick l.toArray lo hi none = (kms_pick l lo hi).toArray := kms_pick_eq _ _ _
  rw [eq]
  have ho : ((s₃.heap.push { cls := .type "slice", data := .fields #[vl, vu, .none] }).push (lst (kms_pick l lo hi) 0)).get? (s₃.heap.objs.size + 1) = some (lst (kms_pick l lo hi) 0) := by
    have := Heap.get?_push_size (s₃.heap.push { cls := .type "slice", data := .fields #[vl, vu, .none] }) (o := lst (kms_pick l lo hi) 0) rfl
    rwa [Heap.size_push] at this
  obtain ⟨hn, C⟩ := Chg.atEnd H₃.led (get?_ge _ (Nat.le_succ _)) (fun b o e => Heap.get?_push_of_some _ (Heap.get?_push_of_some _ e)) ho
  exact ⟨_, _, H₃.chg C s₃.toks, F₃.chg H₃ C, q _ hn⟩
theorem W_reverse {o : Expr} {apos pos : Pos} {Q : ValQ} (h : W prog w K g os A env own ns (eval o env) vs σ fun ov vs σ => ∃ a l n, ov = .ref a ∧ σ a = some (lst l n) ∧ l.length ≤ sizeLine ∧ ∀ k', Q .none vs (upd σ a (lst l.reverse k')))
    (hbase : attributeBase o "reverse" env (eval o env) = eval o env := by with_unfolding_all rfl) (hline : (apos.endLine == pos.line) = true := by with_unfolding_all rfl) :
    W prog w K g os A env own ns (eval (.Call (.Attribute o "reverse" apos) [] [] pos) env) vs σ Q := by
  refine W_meth hbase rfl hline PySem.F.plainAttrs_list PySem.F.slot_list_reverse PySem.F.type_list_reverse (W_mono h fun ov vs σ => ?_)
  rintro ⟨a, l, n, rfl, hσ, hz, q⟩
  refine ⟨a, _, rfl, hσ, rfl, rfl, W_in fun s H F => callWith_builtin rfl (PySem.evalArgs_none ((W_reverseB hσ hz q).out s H F))⟩
end
def AllInt (l : List Value) : Prop := ∀ v ∈ l, ∃ i t, v = Value.int i t
theorem AllInt.snoc {l : List Value} {i : Int} {t : Tok} (h : AllInt l) : AllInt (l ++ [.int i t]) := fun v hv => by
  rcases List.mem_append.mp hv with hv | hv
  · exact h v hv
  · rw [List.mem_singleton] at hv; exact ⟨i, t, hv⟩
def PileAt (σ : Led) (P : Addr) : Prop := ∃ l k, σ P = some (lst l k) ∧ AllInt l ∧ l.length ≤ 210
theorem IntsAre.all {l : List Value} {ns : List Int} (h : IntsAre l ns) : AllInt l := by
  induction h with
  | nil => exact fun v hv => nomatch hv
  | cons i t _ ih =>
    intro v hv
    rcases List.mem_cons.mp hv with rfl | hv
    · exact ⟨_, _, rfl⟩
    · exact ih v hv
theorem c_pile {g : Led} {n : Nat} (hA : Ok (n + 1) A) {sc : Addr} {l : List Value} {o : Obj} (hs : g sc = some o) (ho : LObj o l) (hl : AllInt l) (hz : l.length ≤ 1000) :
    CallWG prg w (Kx w) g os A (.ref 348) [.ref sc] σ fun r σ' => ∃ P, r = .ref P ∧ σ P = none ∧ Le σ σ' ∧ PileAt σ' P := by
  refine callKG (binds := [(Str.ofString "script", .ref sc)]) (vs := [some (.ref sc), none, none, none, none, none]) (ns := [(Str.ofString "script", NameKind.local), (Str.ofString "pile", NameKind.local), (Str.ofString "cell", NameKind.local), (Str.ofString "held", NameKind.local), (Str.ofString "lap", NameKind.local), (Str.ofString "range", NameKind.globalImplicit)]) hA rfl (by kernel_rfl) (fun _ => by kernel_rfl) (by kernel_rfl) (by kernel_rfl) (by kernel_rfl) (by kernel_rfl) rfl fun A env hA he => ?_
  walk_at "ss"
  refine ⟨Nat.zero_le _, fun P hP => ?_⟩
  walk_at "ss"
  refine W_cons (W_forE ?_)
  refine W_sliceG ?_
  walk_at "ss"
  refine ⟨sc, l, o, _, _, rfl, hs, ho, szl (by omega), .none, .int _ _, fun b hb => ?_⟩
  have hpick : kms_pick l none (some 30) = l.take 30 := by
    unfold kms_pick kms_lo kms_hi
    simp only [show ¬ ((30 : Int) < 0) by decide, if_false, List.drop_zero, Nat.sub_zero]
    show l.take (min 30 l.length) = _
    rcases Nat.le_total 30 l.length with h | h
    · rw [Nat.min_eq_left h]
    · rw [Nat.min_eq_right h, List.take_length, List.take_of_length_le h]
  rw [hpick]
  have hbP : b ≠ P := by rintro rfl; rw [upd_same] at hb; cases hb
  refine ⟨(l.take 30).length, fun i v => (l.take 30)[i]? = some v, fun σ => ∃ n, σ b = some (lst (l.take 30) n), fun i vs σ' => ∃ lp kp cv hv lv, Le σ σ' ∧ σ' b = some (lst (l.take 30) 0) ∧ σ' P = some (lst lp kp) ∧ AllInt lp ∧ lp.length ≤ 7 * i ∧ vs = [some (.ref sc), some (.ref P), cv, hv, lv, none],
    itb_list hA.2.2 upd_same, ⟨[], _, _, _, _, (Le.upd hP).trans (Le.upd hb), upd_same, upd_get hb upd_same, (fun v hv => nomatch hv), Nat.zero_le _, rfl⟩, fun i vs σ' h => ⟨0, by obtain ⟨_, _, _, _, _, _, h, _⟩ := h; exact h⟩, ?_, ?_⟩
  · rintro i v vs σ' g hi hv' ⟨lp, kp, cv, hv, lv, hle, hbl, hPl, hint, hlen, rfl⟩
    obtain ⟨x, t, rfl⟩ := hl v (List.mem_of_mem_take (List.mem_of_getElem? hv'))
    have hi30 : i < 30 := by have := List.length_take (i := 30) (l := l); omega
    walk_at "s"
    walk_at "s"
    refine W_mono (Q := fun v vs' σ'' => vs' = [some (.ref sc), some (.ref P), some (.int x t), hv, lv, none] ∧ σ'' = σ' ∧ ∃ h t, v = .int h t) ?_ ?_
    · walk_at "ss"
      refine br_d (fun _ => ?_) fun _ => ?_
      · walk_at "ss"; exact ⟨rfl, rfl, _, _, rfl⟩
      · walk_at "ss"; exact ⟨rfl, rfl, _, _, rfl⟩
    · rintro v vs' σ'' ⟨rfl, rfl, h0, ht, rfl⟩
      walk_at "ss"
      refine ⟨_, _, _, rfl, hPl, ?_⟩
      walk_at "ss"
      refine W_mod (by decide) fun _ => ?_
      refine ⟨_, _, hPl, szl (by omega), ?_⟩
      walk_at "ss"
      refine W_cons (W_for (n := 6) (P := fun i v => ∃ t, v = .int i t) (S := fun _ => True) (fun j vs σ' => ∃ lp kp h ht lv, Le σ σ' ∧ σ' b = some (lst (l.take 30) 0) ∧ σ' P = some (lst lp kp) ∧ AllInt lp ∧ lp.length ≤ 7 * i + 1 + j ∧ vs = [some (.ref sc), some (.ref P), some (.int x t), some (.int h ht), lv, none]) ?_ (fun _ _ _ _ => trivial) ?_ ?_)
      · walk_at "ss"
        refine W_range1 fun r t u v hr => ?_
        exact ⟨itb_rangeN (b := 6) hA.2.2 upd_same (by decide), _, _, _, _, _, (hle.upd_r hP).trans (Le.upd hr), upd_get hr (by rw [upd_ne hbP]; exact hbl), upd_get hr upd_same, hint.snoc, by rw [List.length_append]; simp; omega, rfl⟩
      · rintro j v vs σ₄ g hj ⟨jt, rfl⟩ ⟨lp, kp, h, ht, lv, hle, hbl, hPl, hint, hlen, rfl⟩
        walk_at "ss"
        refine W_fdiv (by decide) (PyProof.noPylong_of_log2 (by decide)) fun _ => ?_
        walk_at "ss"
        refine br_d (fun _ => ?_) fun _ => ?_
        · walk_at "ss"
          refine ⟨_, _, _, rfl, hPl, ?_⟩
          walk_at "ss"
          refine W_mod (by decide) fun _ => ?_
          refine ⟨_, _, hPl, szl (by omega), ?_⟩
          walk_at "ss"
          exact ⟨_, _, _, _, _, hle.upd_r hP, by rw [upd_ne hbP]; exact hbl, upd_same, hint.snoc, by rw [List.length_append]; simp; omega, rfl⟩
        · walk_at "ss"
          exact ⟨_, _, _, _, _, hle, hbl, hPl, hint, by omega, rfl⟩
      · rintro vs σ₄ ⟨lp, kp, h, ht, lv, hle, hbl, hPl, hint, hlen, rfl⟩
        walk_at "ss"
        exact ⟨_, _, _, _, _, hle, hbl, hPl, hint, by omega, rfl⟩
  · rintro vs σ' ⟨lp, kp, cv, hv, lv, hle, hbl, hPl, hint, hlen, rfl⟩
    have := List.length_take (i := 30) (l := l)
    walk_at "ss"
    refine W_reverse ?_
    walk_at "ss"
    refine ⟨_, _, _, rfl, hPl, szl (by omega), fun k' => ?_⟩
    walk_at "ss"
    exact ⟨P, rfl, hP, hle.upd_r hP, _, _, upd_same, fun v hv => hint v (List.mem_reverse.mp hv), by rw [List.length_reverse]; omega⟩
/-! what does not hang on the pile -/
theorem LeX.refl {P : Addr} : LeX P σ σ := fun _ _ _ h => h
theorem LeX.trans {P : Addr} {σ₁ σ₂ σ₃ : Led} (x : LeX P σ₁ σ₂) (y : LeX P σ₂ σ₃) : LeX P σ₁ σ₃ := fun a o n h => y a o n (x a o n h)
theorem LeX.of_le {P : Addr} {σ' : Led} (h : Le σ σ') : LeX P σ σ' := fun a o _ e => h a o e
theorem LeX.upd {P : Addr} {o : Obj} : LeX P σ (Mine.upd σ P o) := fun a o n h => by rw [upd_ne n]; exact h
theorem tup_ne_lst {l l' : List Value} {k k' : Nat} (h : some (tup l k) = some (lst l' k')) : False := by
  have := congrArg Obj.cls (Option.some.inj h)
  simp at this
theorem ItV.leX {σ' : Led} {P : Addr} {lp : List Value} {kp : Nat} {it : It} {v : Value} (h : ItV σ it v) (hP : σ P = some (lst lp kp)) (l : LeX P σ σ') : ItV σ' it v := by
  cases it with
  | na | int | str => exact h
  | dbl n d =>
    obtain ⟨a, t, u, k, e, x⟩ := h
    exact ⟨a, t, u, k, e, l _ _ (by rintro rfl; exact tup_ne_lst (x.symm.trans hP)) x⟩
theorem c_top {n : Nat} (hA : Ok (n + 1) A) {P : Addr} (hP : PileAt σ P) : CW w os A (.ref 355) [.ref P] σ fun r σ' => (∃ i t, r = .int i t) ∧ LeX P σ σ' ∧ PileAt σ' P := by
  obtain ⟨l, k, hl, hi, hz⟩ := hP
  refine callK (binds := [(Str.ofString "pile", .ref P)]) (vs := [some (.ref P)]) (ns := [(Str.ofString "pile", NameKind.local)]) hA rfl (by kernel_rfl) (fun _ => by kernel_rfl) (by kernel_rfl) (by kernel_rfl) (by kernel_rfl) (by kernel_rfl) rfl fun g A env hA he => ?_
  walk_at "ss"
  refine W_truthL hl (by omega) ?_
  rcases List.eq_nil_or_concat l with rfl | ⟨l0, v, rfl⟩
  · rw [List.isEmpty_nil, Bool.not_true]
    walk_at "ss"
    exact ⟨⟨_, _, rfl⟩, LeX.refl, _, _, hl, hi, hz⟩
  · rw [List.concat_eq_append] at *
    rw [show (!(l0 ++ [v]).isEmpty) = true by cases l0 <;> rfl]
    obtain ⟨i, t, rfl⟩ := hi v (List.mem_append.mpr (.inr List.mem_cons_self))
    walk_at "ss"
    refine W_pop ?_
    walk_at "ss"
    refine ⟨_, _, _, _, rfl, hl, szl (by omega), ?_⟩
    walk_at "ss"
    exact ⟨⟨_, _, rfl⟩, LeX.upd, _, _, upd_same, fun v hv => hi v (List.mem_append.mpr (.inl hv)), by simp at hz; omega⟩
end TextMKC
noncomputable section TextMKD
variable {w : World} {os : OsState} {A : Around} {σ : Led}
def kdW : Nat → Kd
  | 0 => .int
  | 1 => .log
  | 2 => .dbl
  | _ => .chr
theorem fmod_nat (x : Int) (m : Nat) (k : Int) (hk : k = m) (hm : 0 < m) : ∃ f : Nat, f < m ∧ x.fmod k = f := by
  subst hk
  rw [Int.fmod_eq_emod_of_nonneg _ (by omega)]
  have h1 := Int.emod_nonneg x (b := (m : Int)) (by omega)
  have h2 := Int.emod_lt_of_pos x (b := (m : Int)) (by omega)
  exact ⟨(x % (m : Int)).toNat, by omega, by omega⟩
theorem lt6 {f : Nat} (h : f < 6) : f = 0 ∨ f = 1 ∨ f = 2 ∨ f = 3 ∨ f = 4 ∨ f = 5 := by omega
theorem c_item {n : Nat} (hA : Ok (n + 2) A) {P : Addr} {wy : Nat} {t : Tok} (hP : PileAt σ P) (hw : wy < 4) :
    CW w os A (.ref 362) [.ref P, .int wy t] σ fun r σ' => ∃ it, LeX P σ σ' ∧ PileAt σ' P ∧ ItOk (kdW wy) it ∧ ItV σ' it r := by
  refine callK (binds := [(Str.ofString "pile", .ref P), (Str.ofString "way", .int wy t)]) (vs := [some (.ref P), some (.int wy t), none, none]) (ns := [(Str.ofString "pile", NameKind.local), (Str.ofString "way", NameKind.local), (Str.ofString "figure", NameKind.local), (Str.ofString "_law_top", NameKind.globalImplicit)]) hA rfl (by kernel_rfl) (fun _ => by kernel_rfl) (by kernel_rfl) (by kernel_rfl) (by kernel_rfl) (by kernel_rfl) rfl fun g A env hA he => ?_
  walk_at "ss"
  refine W_call ((c_top hA hP).mono fun r σ₁ e => ?_)
  obtain ⟨⟨i, _, rfl⟩, l1, hP1⟩ := e
  walk_at "ss"
  refine W_mod (by decide) fun _ => ?_
  walk_at "ss"
  refine br_e (fun _ => ?_) fun _ => ?_
  · walk_at "ss"
    exact ⟨.na, l1, hP1, by cases h : kdW wy <;> trivial, rfl⟩
  walk_at "ss"
  refine W_call ((c_top hA hP1).mono fun r σ₂ e => ?_)
  obtain ⟨⟨j, _, rfl⟩, l2, hP2⟩ := e
  have l12 := l1.trans l2
  walk_at "ss"
  refine W_mod (by decide) fun _ => ?_
  obtain ⟨f, hf, ef⟩ := fmod_nat j 6 6 rfl (by decide)
  rw [ef]
  walk_at "ss"
  match wy, hw with
  | 0, _ =>
    refine br_e (fun _ => ?_) fun e => absurd rfl e
    walk_at "ss"
    exact ⟨.int _, l12, hP2, trivial, _, rfl⟩
  | 1, _ =>
    refine br_e (fun e => absurd e (by decide)) fun _ => ?_
    walk_at "ss"
    refine br_e (fun _ => ?_) fun e => absurd rfl e
    walk_at "ss"
    refine W_mod (by decide) fun _ => ?_
    walk_at "ss"
    exact ⟨.int _, l12, hP2, trivial, _, rfl⟩
  | 2, _ =>
    refine br_e (fun e => absurd e (by decide)) fun _ => ?_
    walk_at "ss"
    refine br_e (fun e => absurd e (by decide)) fun _ => ?_
    walk_at "ss"
    refine br_e (fun _ => ?_) fun e => absurd rfl e
    walk_at "ss"
    refine ⟨Nat.le_of_ble_eq_true rfl, fun a1 h1 => ?_⟩
    walk_at "ss"
    refine ⟨Nat.le_of_ble_eq_true rfl, fun a2 h2 => ?_⟩
    walk_at "ss"
    refine ⟨Nat.le_of_ble_eq_true rfl, fun a3 h3 => ?_⟩
    walk_at "ss"
    refine ⟨Nat.le_of_ble_eq_true rfl, fun a4 h4 => ?_⟩
    walk_at "ss"
    refine ⟨Nat.le_of_ble_eq_true rfl, fun a5 h5 => ?_⟩
    walk_at "ss"
    refine ⟨Nat.le_of_ble_eq_true rfl, fun a6 h6 => ?_⟩
    walk_at "ss"
    refine ⟨Nat.le_of_ble_eq_true rfl, fun a7 h7 => ?_⟩
    walk_at "ss"
    obtain ⟨lp, kp, e1, e2, e3⟩ := hP2
    rcases lt6 hf with rfl | rfl | rfl | rfl | rfl | rfl
    · refine W_itemN upd_same (by decide) rfl ?_
      walk_at "ss"
      exact ⟨.dbl (0) 1, l12.trans (LeX.of_le ((Le.upd h1).trans ((Le.upd h2).trans ((Le.upd h3).trans ((Le.upd h4).trans ((Le.upd h5).trans ((Le.upd h6).trans (Le.upd h7)))))))), ⟨lp, kp, upd_get h7 (upd_get h6 (upd_get h5 (upd_get h4 (upd_get h3 (upd_get h2 (upd_get h1 e1)))))), e2, e3⟩, (by show (_, _) ∈ dbls; decide), a1, _, _, _, rfl, upd_get h7 (upd_get h6 (upd_get h5 (upd_get h4 (upd_get h3 (upd_get h2 upd_same)))))⟩
    · refine W_itemN upd_same (by decide) rfl ?_
      walk_at "ss"
      exact ⟨.dbl (1) 2, l12.trans (LeX.of_le ((Le.upd h1).trans ((Le.upd h2).trans ((Le.upd h3).trans ((Le.upd h4).trans ((Le.upd h5).trans ((Le.upd h6).trans (Le.upd h7)))))))), ⟨lp, kp, upd_get h7 (upd_get h6 (upd_get h5 (upd_get h4 (upd_get h3 (upd_get h2 (upd_get h1 e1)))))), e2, e3⟩, (by show (_, _) ∈ dbls; decide), a2, _, _, _, rfl, upd_get h7 (upd_get h6 (upd_get h5 (upd_get h4 (upd_get h3 upd_same))))⟩
    · refine W_itemN upd_same (by decide) rfl ?_
      walk_at "ss"
      exact ⟨.dbl (-5) 3, l12.trans (LeX.of_le ((Le.upd h1).trans ((Le.upd h2).trans ((Le.upd h3).trans ((Le.upd h4).trans ((Le.upd h5).trans ((Le.upd h6).trans (Le.upd h7)))))))), ⟨lp, kp, upd_get h7 (upd_get h6 (upd_get h5 (upd_get h4 (upd_get h3 (upd_get h2 (upd_get h1 e1)))))), e2, e3⟩, (by show (_, _) ∈ dbls; decide), a3, _, _, _, rfl, upd_get h7 (upd_get h6 (upd_get h5 (upd_get h4 upd_same)))⟩
    · refine W_itemN upd_same (by decide) rfl ?_
      walk_at "ss"
      exact ⟨.dbl (1) 0, l12.trans (LeX.of_le ((Le.upd h1).trans ((Le.upd h2).trans ((Le.upd h3).trans ((Le.upd h4).trans ((Le.upd h5).trans ((Le.upd h6).trans (Le.upd h7)))))))), ⟨lp, kp, upd_get h7 (upd_get h6 (upd_get h5 (upd_get h4 (upd_get h3 (upd_get h2 (upd_get h1 e1)))))), e2, e3⟩, (by show (_, _) ∈ dbls; decide), a4, _, _, _, rfl, upd_get h7 (upd_get h6 (upd_get h5 upd_same))⟩
    · refine W_itemN upd_same (by decide) rfl ?_
      walk_at "ss"
      exact ⟨.dbl (0) 0, l12.trans (LeX.of_le ((Le.upd h1).trans ((Le.upd h2).trans ((Le.upd h3).trans ((Le.upd h4).trans ((Le.upd h5).trans ((Le.upd h6).trans (Le.upd h7)))))))), ⟨lp, kp, upd_get h7 (upd_get h6 (upd_get h5 (upd_get h4 (upd_get h3 (upd_get h2 (upd_get h1 e1)))))), e2, e3⟩, (by show (_, _) ∈ dbls; decide), a5, _, _, _, rfl, upd_get h7 (upd_get h6 upd_same)⟩
    · refine W_itemN upd_same (by decide) rfl ?_
      walk_at "ss"
      exact ⟨.dbl (-1) 0, l12.trans (LeX.of_le ((Le.upd h1).trans ((Le.upd h2).trans ((Le.upd h3).trans ((Le.upd h4).trans ((Le.upd h5).trans ((Le.upd h6).trans (Le.upd h7)))))))), ⟨lp, kp, upd_get h7 (upd_get h6 (upd_get h5 (upd_get h4 (upd_get h3 (upd_get h2 (upd_get h1 e1)))))), e2, e3⟩, (by show (_, _) ∈ dbls; decide), a6, _, _, _, rfl, upd_get h7 upd_same⟩
  | 3, _ =>
    refine br_e (fun e => absurd e (by decide)) fun _ => ?_
    walk_at "ss"
    refine br_e (fun e => absurd e (by decide)) fun _ => ?_
    walk_at "ss"
    refine br_e (fun e => absurd e (by decide)) fun _ => ?_
    walk_at "ss"
    refine ⟨Nat.le_of_ble_eq_true rfl, fun a1 h1 => ?_⟩
    walk_at "ss"
    obtain ⟨lp, kp, e1, e2, e3⟩ := hP2
    rcases lt6 hf with rfl | rfl | rfl | rfl | rfl | rfl
    all_goals
      refine W_itemN upd_same (by decide) rfl ?_
      walk_at "ss"
      exact ⟨.str _, l12.trans (LeX.of_le (Le.upd h1)), ⟨lp, kp, upd_get h1 e1, e2, e3⟩, trivial, by decide +kernel, _, rfl⟩
theorem PileAt.le {σ' : Led} {P : Addr} (h : PileAt σ P) (l : Le σ σ') : PileAt σ' P := by
  obtain ⟨lp, kp, e, r⟩ := h; exact ⟨lp, kp, l _ _ e, r⟩
theorem PileAt.set {P D : Addr} {o : Obj} (h : PileAt σ P) (n : P ≠ D) : PileAt (upd σ D o) P := by
  obtain ⟨lp, kp, e, r⟩ := h; exact ⟨lp, kp, by rw [upd_ne n]; exact e, r⟩
theorem c_key {n : Nat} (hA : Ok (n + 3) A) {P : Addr} {m : Nat} {t : Tok} (hP : PileAt σ P) (hm : m ≤ 100) :
    CW w os A (.ref 369) [.ref P, .int m t] σ fun r σ' => ∃ x dx li V, r = .ref x ∧ LeX P σ σ' ∧ PileAt σ' P ∧ VO σ' x dx li V .none ∧ σ li = none ∧ li ≠ P ∧ VecOk V ∧ V.items.length = m := by
  refine callK (binds := [(Str.ofString "pile", .ref P), (Str.ofString "many", .int m t)]) (vs := [some (.ref P), some (.int m t), none, none, none, none, none, none]) (ns := [(Str.ofString "pile", NameKind.local), (Str.ofString "many", NameKind.local), (Str.ofString "way", NameKind.local), (Str.ofString "items", NameKind.local), (Str.ofString "_law_top", NameKind.globalImplicit), (Str.ofString "len", NameKind.globalImplicit), (Str.ofString "_law_item", NameKind.globalImplicit), (Str.ofString "Vector", NameKind.globalImplicit)]) hA rfl (by kernel_rfl) (fun _ => by kernel_rfl) (by kernel_rfl) (by kernel_rfl) (by kernel_rfl) (by kernel_rfl) rfl fun g A env hA he => ?_
  walk_at "ss"
  refine W_call ((c_top hA hP).mono fun r σ₁ e => ?_)
  obtain ⟨⟨i, _, rfl⟩, l1, hP1⟩ := e
  walk_at "ss"
  refine W_mod (by decide) fun _ => ?_
  obtain ⟨wy, hw, ew⟩ := fmod_nat i 4 4 rfl (by decide)
  rw [ew]
  walk_at "ss"
  refine ⟨Nat.zero_le _, fun D hD => ?_⟩
  have hDP : D ≠ P := by
    obtain ⟨_, _, e, _⟩ := hP1
    rintro rfl; rw [hD] at e; cases e
  have hD0 : σ D = none := by
    cases q : σ D with
    | none => rfl
    | some o => rw [l1 _ _ hDP q] at hD; cases hD
  walk_at "ss"
  refine W_cons (W_while (fun z vs σ' => ∃ its l k wt, LeX P σ σ' ∧ PileAt σ' P ∧ σ' D = some (lst l k) ∧ All2 (ItV σ') its l ∧ (∀ it ∈ its, ItOk (kdW wy) it) ∧ z = m - its.length ∧ its.length ≤ m ∧
    vs = [some (.ref P), some (.int m t), some (.int wy wt), some (.ref D), none, none, none, none]) ?_ m ⟨[], [], _, _, l1.trans (LeX.of_le (Le.upd hD)), hP1.le (Le.upd hD), upd_same, .nil, (fun _ h => nomatch h), rfl, Nat.zero_le _, rfl⟩)
  rintro z vs σ' ⟨its, l, k, wt, hX, hP', hl, hal, hok, rfl, hlen, rfl⟩
  have lz := hal.length
  walk_at "ss"
  refine W_len hl (by omega) fun _ => ?_
  walk_at "ss"
  refine br_d (fun e => ?_) fun e => ?_
  · walk_at "ss"
    refine ⟨_, _, _, rfl, hl, ?_⟩
    walk_at "ss"
    refine W_call ((c_item hA hP' hw).mono fun r σ₂ e => ?_)
    obtain ⟨it, l2, hP2, ho, hv⟩ := e
    have hl2 := l2 _ _ hDP hl
    obtain ⟨lp, kp, hPl, _⟩ := hP'
    refine ⟨_, _, hl2, szl (by omega), ?_⟩
    walk_at "ss"
    refine ⟨_, ?_, its ++ [it], _, _, _, (fun a o hn h => ?_), hP2.set (Ne.symm hDP), upd_same, All2.snoc ((hal.imp fun _ _ h => h.leX hPl l2).imp fun _ _ h => h.leX hl2 LeX.upd) (hv.leX hl2 LeX.upd), ?_, rfl, ?_, rfl⟩
    · simp only [List.length_append, List.length_cons, List.length_nil]; omega
    · rw [upd_ne (by rintro rfl; rw [hD0] at h; cases h)]; exact (hX.trans l2) a o hn h
    · intro x hx
      rcases List.mem_append.mp hx with hx | hx
      · exact hok x hx
      · rw [List.mem_singleton] at hx; rw [hx]; exact ho
    · simp only [List.length_append, List.length_cons, List.length_nil]; omega
  · have hm' : its.length = m := by omega
    walk_at "ss"
    refine ⟨Nat.le_of_ble_eq_true rfl, fun b hb => ?_⟩
    walk_at "ss"
    have fin : ∀ {A : Around} {n : Nat} {kd : Kd} {t : Tok} {σ₂ : Led}, Ok (n + 2) A → Le σ' σ₂ → kd = kdW wy → CW w os A (.ref 135) [.str (kname kd) t, .ref D] σ₂ fun r σ' => ∃ x dx li V, r = .ref x ∧ LeX P σ σ' ∧ PileAt σ' P ∧ VO σ' x dx li V .none ∧ σ li = none ∧ li ≠ P ∧ VecOk V ∧ V.items.length = m := by
      intro A n kd t σ₂ hA l2 hk
      subst hk
      refine (c_vmakeV hA (l2 _ _ hl) (hal.imp fun _ _ q => q.le l2)).mono fun r σ₃ e => ?_
      obtain ⟨x, dx, rfl, h1, h2, l3, hv⟩ := e
      have hP3 := (hP'.le l2).le l3
      exact ⟨x, dx, D, ⟨kdW wy, its⟩, rfl, hX.trans (LeX.of_le (l2.trans l3)), hP3, hv, hD0, hDP, hok, hm'⟩
    have w4 : wy = 0 ∨ wy = 1 ∨ wy = 2 ∨ wy = 3 := by omega
    rcases w4 with rfl | rfl | rfl | rfl
    · refine W_itemN upd_same (by decide) rfl ?_
      walk_at "ss"
      refine W_call ((fin (kd := .int) hA (Le.upd hb) rfl).mono fun r σ' e => ?_)
      walk_at "ss"
      exact e
    · refine W_itemN upd_same (by decide) rfl ?_
      walk_at "ss"
      refine W_call ((fin (kd := .log) hA (Le.upd hb) rfl).mono fun r σ' e => ?_)
      walk_at "ss"
      exact e
    · refine W_itemN upd_same (by decide) rfl ?_
      walk_at "ss"
      refine W_call ((fin (kd := .dbl) hA (Le.upd hb) rfl).mono fun r σ' e => ?_)
      walk_at "ss"
      exact e
    · refine W_itemN upd_same (by decide) rfl ?_
      walk_at "ss"
      refine W_call ((fin (kd := .chr) hA (Le.upd hb) rfl).mono fun r σ' e => ?_)
      walk_at "ss"
      exact e
theorem c_part {n : Nat} (hA : Ok (n + 3) A) {x pl : Addr} {V : Vec} {at' : Value} {ps : List Nat} (hv : VecAt σ x V at') (hz : V.items.length ≤ 1000) (hp : LN σ pl ps) (hb : ∀ p ∈ ps, p < V.items.length) (hpz : ps.length ≤ 1000) :
    CW w os A (.ref 374) [.ref x, .ref pl] σ fun r σ' => ∃ y, r = .ref y ∧ Le σ σ' ∧ VecAt σ' y ⟨V.kd, ps.map V.at⟩ .none := by
  obtain ⟨ll, lk, el, nl⟩ := hp
  have lz := nl.length
  refine callK (binds := [(Str.ofString "v", .ref x), (Str.ofString "spots", .ref pl)]) (vs := [some (.ref x), some (.ref pl), none]) (ns := [(Str.ofString "v", NameKind.cell), (Str.ofString "spots", NameKind.local), (Str.ofString "Vector", NameKind.globalImplicit)]) hA rfl (by kernel_rfl) (fun _ => by kernel_rfl) (by kernel_rfl) (by kernel_rfl) (by kernel_rfl) (by kernel_rfl) rfl fun g A env hA he => ?_
  walk_at "ss"
  refine W_vkind hv fun tk => ?_
  walk_at "ss"
  refine W_comp (.free (by walk_at "ld")) rfl rfl (by kernel_rfl) (by kernel_rfl) ?_
  walk_at "ss"
  refine ⟨rfl, ll.length, _, _, fun i out σ' => σ' = σ ∧ All2 (ItV σ) ((ps.take i).map V.at) out, itb_list hA.2.2 el, ⟨rfl, by simp; exact .nil⟩, szl (by omega), fun i out σ' h => ⟨lk, by rw [h.1]; exact el⟩, ?_, ?_⟩
  · rintro i v out σ' g cenv hi hv' ⟨rfl, hr⟩ hlen
    refine W_tst0 ⟨rfl, fun _ => ?_, fun e => nomatch e⟩
    obtain ⟨p, ep, t, rfl⟩ := nl.get' hv'
    have hp := hb p (List.mem_of_getElem? ep)
    walk_at "ss"
    refine W_vitems hv fun li l k hl hal => ?_
    obtain ⟨vi, ei, hvi⟩ := at_get hal hp
    walk_at "ss"
    refine W_itemN hl (by omega) ei ?_
    refine ⟨rfl, rfl, ?_⟩
    rw [map_take _ ep]
    exact hr.snoc hvi
  rintro D out σ₂ k _ hD ⟨rfl, hr⟩
  rw [lz, List.take_length] at hr
  have l1 : Le σ₂ (upd σ₂ D (lst out k)) := Le.upd hD
  walk_at "ss"
  refine W_call ((c_vmakeV hA upd_same (hr.imp fun _ _ q => q.le l1)).mono fun r σ' e => ?_)
  obtain ⟨y, dy, rfl, hy0, hdy0, l2, hvo⟩ := e
  walk_at "ss"
  exact ⟨y, rfl, l1.trans l2, _, _, hvo⟩
theorem sgn_lt (a b : Int) : sgn a b < 0 ↔ a < b := by unfold sgn; split <;> (try split) <;> omega
theorem c_less {n : Nat} (hA : Ok (n + 1) A) {kd : Kd} {x y : It} {t : Tok} {u v : Value} (hx : Full kd x) (hy : Full kd y) (hu : ItV σ x u) (hv : ItV σ y v) :
    CW w os A (.ref 381) [.str (kname kd) t, u, v] σ fun r σ' => r = .bool (decide (cmpI x y < 0)) ∧ σ' = σ := by
  cases hx with
  | int i =>
    cases hy with
    | int j =>
    obtain ⟨t1, rfl⟩ := hu
    obtain ⟨t2, rfl⟩ := hv
    refine callK (binds := [(Str.ofString "kind", .str (kname .int) t), (Str.ofString "one", .int i t1), (Str.ofString "two", .int j t2)]) (vs := [some (.str (kname .int) t), some (.int i t1), some (.int j t2)]) (ns := [(Str.ofString "kind", NameKind.local), (Str.ofString "one", NameKind.local), (Str.ofString "two", NameKind.local)]) hA rfl (by kernel_rfl) (fun _ => by kernel_rfl) (by kernel_rfl) (by kernel_rfl) (by kernel_rfl) (by kernel_rfl) rfl fun g A env hA he => ?_
    walk_at "ss"
    rw [kn_ndbl]
    refine br_t ?_
    walk_at "ss"
    refine ⟨?_, rfl⟩
    show _ = Value.bool (decide (sgn i j < 0))
    rw [decide_eq_decide.mpr (sgn_lt i j)]
  | log i =>
    cases hy with
    | log j =>
    obtain ⟨t1, rfl⟩ := hu
    obtain ⟨t2, rfl⟩ := hv
    refine callK (binds := [(Str.ofString "kind", .str (kname .log) t), (Str.ofString "one", .int i t1), (Str.ofString "two", .int j t2)]) (vs := [some (.str (kname .log) t), some (.int i t1), some (.int j t2)]) (ns := [(Str.ofString "kind", NameKind.local), (Str.ofString "one", NameKind.local), (Str.ofString "two", NameKind.local)]) hA rfl (by kernel_rfl) (fun _ => by kernel_rfl) (by kernel_rfl) (by kernel_rfl) (by kernel_rfl) (by kernel_rfl) rfl fun g A env hA he => ?_
    walk_at "ss"
    rw [kn_ndbl]
    refine br_t ?_
    walk_at "ss"
    refine ⟨?_, rfl⟩
    show _ = Value.bool (decide (sgn i j < 0))
    rw [decide_eq_decide.mpr (sgn_lt i j)]
  | chr i =>
    cases hy with
    | chr j =>
    obtain ⟨_, t1, rfl⟩ := hu
    obtain ⟨_, t2, rfl⟩ := hv
    refine callK (binds := [(Str.ofString "kind", .str (kname .chr) t), (Str.ofString "one", .str i t1), (Str.ofString "two", .str j t2)]) (vs := [some (.str (kname .chr) t), some (.str i t1), some (.str j t2)]) (ns := [(Str.ofString "kind", NameKind.local), (Str.ofString "one", NameKind.local), (Str.ofString "two", NameKind.local)]) hA rfl (by kernel_rfl) (fun _ => by kernel_rfl) (by kernel_rfl) (by kernel_rfl) (by kernel_rfl) (by kernel_rfl) rfl fun g A env hA he => ?_
    walk_at "ss"
    rw [kn_ndbl]
    refine br_t ?_
    walk_at "ss"
    refine ⟨?_, rfl⟩
    rw [cmpS]
    by_cases h : i.cps.toList < j.cps.toList
    · simp [h]
    · rw [if_neg h]
      split <;> simp [h]
  | dbl a b h1 h2 =>
    cases hy with
    | dbl c d h3 h4 =>
    have s1 := dbl_small h1
    have s2 := dbl_small h3
    obtain ⟨x, t₁, t₂, k, rfl, hx⟩ := hu
    obtain ⟨y, u₁, u₂, k', rfl, hy⟩ := hv
    have key : ∀ {l r : Int}, dblL a b c d = l → dblR a b c d = r → Value.bool (decide (l < r)) = .bool (decide (cmpI (.dbl a b) (.dbl c d) < 0)) := fun {l r} e1 e2 => by
      subst e1 e2
      show _ = Value.bool (decide (sgn (dblL a b c d) (dblR a b c d) < 0))
      rw [decide_eq_decide.mpr (sgn_lt _ _)]
    refine callK (binds := [(Str.ofString "kind", .str (kname .dbl) t), (Str.ofString "one", .ref x), (Str.ofString "two", .ref y)]) (vs := [some (.str (kname .dbl) t), some (.ref x), some (.ref y)]) (ns := [(Str.ofString "kind", NameKind.local), (Str.ofString "one", NameKind.local), (Str.ofString "two", NameKind.local)]) hA rfl (by kernel_rfl) (fun _ => by kernel_rfl) (by kernel_rfl) (by kernel_rfl) (by kernel_rfl) (by kernel_rfl) rfl fun g A env hA he => ?_
    walk_at "ss"
    rw [kn_ndbl]
    refine br_f ?_
    walk_at "ss"
    walk_at "ti"
    walk_at "ss"
    refine br_e (fun e => ?_) fun e => ?_
    · walk_at "ss"
      walk_at "ti"
      walk_at "ss"
      refine br_e (fun _ => ?_) fun z => absurd e z
      walk_at "ss"
      walk_at "ti"
      walk_at "ss"
      walk_at "ti"
      walk_at "ss"
      refine br_e (fun e' => ?_) fun e' => ?_
      · walk_at "ss"
        walk_at "ti"
        walk_at "ss"
        exact ⟨key (by unfold dblL; rw [if_pos ⟨e, e'⟩]) (by unfold dblR; rw [if_pos ⟨e, e'⟩]), rfl⟩
      · walk_at "ss"
        exact ⟨key (by unfold dblL; rw [if_neg (fun h => e' h.2), if_pos e]) (by unfold dblR; rw [if_neg (fun h => e' h.2), if_pos e]), rfl⟩
    · walk_at "ss"
      walk_at "ti"
      walk_at "ss"
      refine br_e (fun e' => ?_) fun e' => ?_
      · walk_at "ss"
        walk_at "ti"
        walk_at "ss"
        refine br_e (fun z => absurd z e) fun _ => ?_
        walk_at "ss"
        walk_at "ti"
        walk_at "ss"
        refine br_e (fun _ => ?_) fun z => absurd e' z
        walk_at "ss"
        walk_at "ti"
        walk_at "ss"
        exact ⟨key (by unfold dblL; rw [if_neg (fun h => e h.1), if_neg e, if_pos e']) (by unfold dblR; rw [if_neg (fun h => e h.1), if_neg e, if_pos e']), rfl⟩
      · walk_at "ss"
        walk_at "ti"
        walk_at "ss"
        walk_at "ti"
        refine W_mul (mulOk s1.1.1 s1.1.2) fun _ => ?_
        walk_at "ss"
        walk_at "ti"
        walk_at "ss"
        walk_at "ti"
        refine W_mul (mulOk s2.1.1 s2.1.2) fun _ => ?_
        walk_at "ss"
        exact ⟨key (by unfold dblL; rw [if_neg (fun h => e h.1), if_neg e, if_neg e']) (by unfold dblR; rw [if_neg (fun h => e h.1), if_neg e, if_neg e']), rfl⟩
end TextMKD
noncomputable section TextPL3
variable {w : World} {os : OsState} {A : Around} {σ : Led}
/-! the plain law -/
theorem perm_sorted_eq : ∀ {a b : List Int}, a.Perm b → a.Pairwise (· ≤ ·) → b.Pairwise (· ≤ ·) → a = b
  | [], b, h, _, _ => List.Perm.nil_eq h
  | x :: a, [], h, _, _ => by have := h.length_eq; simp at this
  | x :: a, y :: b, h, h1, h2 => by
    have hy : y ∈ x :: a := h.symm.subset List.mem_cons_self
    have hx : x ∈ y :: b := h.subset List.mem_cons_self
    have e : x = y := by
      rcases List.mem_cons.mp hy with e | hy
      · exact e.symm
      · rcases List.mem_cons.mp hx with e | hx
        · exact e
        · have := List.rel_of_pairwise_cons h1 hy
          have := List.rel_of_pairwise_cons h2 hx
          omega
    subst e
    rw [perm_sorted_eq (List.Perm.cons_inv h) h1.of_cons h2.of_cons]
theorem sorted_nats {ns' : List Int} {r ps : List Nat} (h : ns'.Perm (r.map Int.ofNat)) (hs : ns'.Pairwise (· ≤ ·)) (hr : r.Perm ps) (hp : ps.Pairwise (· < ·)) : ns' = ps.map Int.ofNat := by
  refine perm_sorted_eq (h.trans (hr.map _)) hs ?_
  rw [List.pairwise_map]
  exact hp.imp fun {a b} h => by show (a : Int) ≤ b; omega
theorem kept_some (keys : List (Vec × Bool)) (m : Nat) (b : Bool) : kept keys m (some b) = List.range m := by
  unfold kept
  rw [List.filter_eq_self]
  intro a _
  rfl
theorem cmpL_neg (kd : Kd) (a b : It) (last : Bool) : cmpL kd a b false (!last) = - cmpL kd a b true last := by
  unfold cmpL
  cases lack kd a <;> cases lack kd b <;> cases last <;> simp
theorem part_at (V : Vec) (ps : List Nat) {i : Nat} (h : i < ps.length) : (⟨V.kd, ps.map V.at⟩ : Vec).at i = V.at (ps.getD i 0) := by
  show (ps.map V.at).getD i .na = _
  simp [List.getD, List.getElem?_eq_getElem h]
theorem part_ok {V : Vec} (h : VOk V) {ps : List Nat} (hz : ps.length ≤ 1000) : VOk ⟨V.kd, ps.map V.at⟩ :=
  ⟨fun it hit => by obtain ⟨p, _, rfl⟩ := List.mem_map.mp hit; exact h.1.at p, by simpa using hz⟩
theorem rev_at {m i : Nat} (h : i < m) : (List.range m).reverse.getD i 0 = m - 1 - i := by
  simp [List.getD, List.getElem?_eq_getElem, h]
theorem rev_srt {V : Vec} (ho : VecOk V) {m : Nat} {last : Bool} {up : List Nat} (h : Srt (fun i j => cmpP ⟨V.kd, (List.range m).reverse.map V.at⟩ i j false (!last)) (List.range m) up) :
    Srt (fun i j => cmpP V i j true last) (List.range m) (up.map fun a => m - 1 - a).reverse := by
  have lt : ∀ i ∈ up, i < m := fun i hi => List.mem_range.mp (h.1.subset hi)
  have hc : ∀ i j, i < m → j < m → cmpP ⟨V.kd, (List.range m).reverse.map V.at⟩ i j false (!last) = - cmpP V (m - 1 - i) (m - 1 - j) true last := fun i j hi hj => by
    unfold cmpP
    rw [part_at V _ (by simpa using hi), part_at V _ (by simpa using hj), rev_at hi, rev_at hj, cmpL_neg]
  refine ⟨(List.reverse_perm _).trans ?_, ?_⟩
  · have e : (List.range m).map (fun a => m - 1 - a) = (List.range m).reverse := by
      apply List.ext_getElem
      · simp
      · intro k h1 h2; simp
    exact (h.1.map _).trans (by rw [e]; exact List.reverse_perm _)
  · rw [List.pairwise_reverse, List.pairwise_map]
    refine h.2.imp_of_mem fun {a b} ha hb hab => ?_
    have la := lt a ha
    have lb := lt b hb
    dsimp only at hab ⊢
    rw [hc a b la lb] at hab
    have an := (cmpP_po ho true last).anti (m - 1 - a) (m - 1 - b)
    rcases hab with hab | ⟨hab, l⟩
    · left; omega
    · right; exact ⟨by omega, by omega⟩
/-! ranks -/
theorem setR_off : ∀ (a : List Nat) (rk : List It) (d i : Nat), i ∉ a → (setR rk d a)[i]? = rk[i]?
  | [], _, _, _, _ => rfl
  | p :: a, rk, d, i, h => by
    rw [List.mem_cons, not_or] at h
    show (setR (rk.set p _) (d + 1) a)[i]? = _
    rw [setR_off a _ _ i h.2, List.getElem?_set_ne (Ne.symm h.1)]
theorem setR_on : ∀ (a : List Nat) (rk : List It) (d k : Nat), a.Nodup → (∀ p ∈ a, p < rk.length) → (hk : k < a.length) → (setR rk d a)[a[k]]? = some (.int ((d + k + 1 : Nat) : Int))
  | p :: a, rk, d, 0, hn, hl, hk => by
    rw [List.nodup_cons] at hn
    show (setR (rk.set p _) (d + 1) a)[p]? = _
    rw [setR_off a _ _ p hn.1, List.getElem?_set_self (hl p List.mem_cons_self)]
  | p :: a, rk, d, k + 1, hn, hl, hk => by
    rw [List.nodup_cons] at hn
    show (setR (rk.set p _) (d + 1) a)[a[k]'(by simpa using hk)]? = _
    rw [setR_on a _ (d + 1) k hn.2 (fun q hq => by rw [List.length_set]; exact hl q (List.mem_cons_of_mem _ hq)) (by simpa using hk)]
    congr 2
    push_cast; omega
theorem kept_nodup (keys : List (Vec × Bool)) (m : Nat) (nl : Option Bool) : (kept keys m nl).Nodup := (kept_sorted keys m nl).imp fun {a b} h => Nat.ne_of_lt h
theorem Srt.nodup {c : Nat → Nat → Int} {keys : List (Vec × Bool)} {m : Nat} {nl : Option Bool} {r : List Nat} (h : Srt c (kept keys m nl) r) : r.Nodup := h.1.nodup_iff.mpr (kept_nodup _ _ _)
/-! a sorted row -/
theorem row_full {V : Vec} {b : Bool} {m : Nat} {c : Nat → Nat → Int} {rr : List Nat} (hs : Srt c (kept [(V, b)] m none) rr) {i : Nat} (hi : i < rr.length) : lack V.kd ((⟨V.kd, rr.map V.at⟩ : Vec).at i) = false := by
  rw [part_at V rr hi, List.getD, List.getElem?_eq_getElem hi]
  exact (kept_full (hs.1.subset (List.getElem_mem hi))).2
theorem row_le {V : Vec} {b last : Bool} {m : Nat} {rr : List Nat} (hs : Srt (fun i j => cmpP V i j b last) (kept [(V, b)] m none) rr) {i j : Nat} (hij : i < j) (hj : j < rr.length) :
    cmpP ⟨V.kd, rr.map V.at⟩ i j b last ≤ 0 := by
  have hi : i < rr.length := by omega
  have := List.pairwise_iff_getElem.mp hs.2 i j hi hj hij
  unfold cmpP
  rw [part_at V rr hi, part_at V rr hj, List.getD, List.getD, List.getElem?_eq_getElem hi, List.getElem?_eq_getElem hj]
  show cmpP V rr[i] rr[j] b last ≤ 0
  dsimp only at this
  rcases this with h | h <;> omega
theorem cmpP_full {V : Vec} {i j : Nat} {b last : Bool} (hi : lack V.kd (V.at i) = false) (hj : lack V.kd (V.at j) = false) : cmpP V i j b last = if b then - cmpI (V.at i) (V.at j) else cmpI (V.at i) (V.at j) := by
  unfold cmpP cmpL
  rw [hi, hj]
  simp
theorem row_again {V : Vec} {b : Bool} {m : Nat} {rr r2 : List Nat} (ho : VecOk V) (hs : Srt (fun i j => cmpP V i j b true) (kept [(V, b)] m none) rr)
    (h2 : Srt (fun i j => cmpP ⟨V.kd, rr.map V.at⟩ i j b true) (kept [(⟨V.kd, rr.map V.at⟩, b)] rr.length none) r2) : r2.map (⟨V.kd, rr.map V.at⟩ : Vec).at = rr.map V.at := by
  have hk : kept [((⟨V.kd, rr.map V.at⟩ : Vec), b)] rr.length none = List.range rr.length := by
    unfold kept
    rw [List.filter_eq_self]
    intro a ha
    show ([((⟨V.kd, rr.map V.at⟩ : Vec), b)].all fun V => !lack V.1.kd (V.1.at a)) = true
    have := row_full hs (List.mem_range.mp ha)
    simp [this]
  have hr : Srt (fun i j => cmpP ⟨V.kd, rr.map V.at⟩ i j b true) (kept [(⟨V.kd, rr.map V.at⟩, b)] rr.length none) (List.range rr.length) := by
    rw [hk]
    refine ⟨.refl _, ?_⟩
    rw [List.pairwise_iff_getElem]
    intro i j hi hj hij
    simp only [List.getElem_range]
    have := row_le hs hij (by simpa using hj)
    rcases Int.lt_or_eq_of_le this with h | h
    · exact .inl h
    · exact .inr ⟨h, hij⟩
  have hok : VecOk ⟨V.kd, rr.map V.at⟩ := fun it hit => by obtain ⟨p, _, rfl⟩ := List.mem_map.mp hit; exact ho.at p
  rw [Srt.unique (cmpP_po hok b true) h2 hr]
  apply List.ext_getElem
  · simp
  · intro k h1 h2
    simp only [List.getElem_map, List.getElem_range]
    rw [part_at V rr (by simpa using h1), List.getD, List.getElem?_eq_getElem (by simpa using h1)]
    rfl
/-! equal data -/
theorem dat_eqv : ∀ it : It, PyData.eqv it.dat it.dat = true
  | .na => rfl
  | .int i => by show (i == i) = true; simp
  | .str s => by show (s == s) = true; simp
  | .dbl n d => by show ((n == n) && ((d == d) && true)) = true; simp
theorem dats_eqv : ∀ its : List It, PyData.eqvAll (its.map It.dat) (its.map It.dat) = true
  | [] => rfl
  | a :: r => by
    show (PyData.eqv a.dat a.dat && PyData.eqvAll (r.map It.dat) (r.map It.dat)) = true
    rw [dat_eqv, dats_eqv r]; rfl
theorem items_eqv (its : List It) : PyData.eqv (.list (its.map It.dat)) (.list (its.map It.dat)) = true := dats_eqv its
theorem items_rds {its : List It} {l : List Value} (h : All2 (ItV σ) its l) : RDs σ l (its.map It.dat) := by
  induction h with
  | nil => exact .nil
  | cons r _ ih => exact .cons r.rd ih
theorem items_lay {its : List It} {l : List Value} (h : All2 (ItV σ) its l) : PyData.canLayAll0 (its.map It.dat) = true ∧ PyData.depthAll (its.map It.dat) ≤ 1 := by
  induction h with
  | nil => exact ⟨rfl, Nat.zero_le _⟩
  | cons r _ ih =>
    have := r.lay
    rw [List.map_cons]
    refine ⟨?_, ?_⟩
    · show (PyData.canLay0 _ && PyData.canLayAll0 _) = true
      rw [this.1, ih.1]; rfl
    · show max (PyData.depth _) (PyData.depthAll _) ≤ 1
      omega
theorem items_shaped {its : List It} {l : List Value} (h : All2 (ItV σ) its l) : SeqAt.shaped (.list (its.map It.dat)) = true := by
  have := items_lay h
  unfold SeqAt.shaped
  rw [Bool.and_eq_true]
  refine ⟨this.1, decide_eq_true ?_⟩
  show PyData.depthAll _ + 1 ≤ 64
  omega
end TextPL3
noncomputable section TextMKE
variable {w : World} {os : OsState} {A : Around} {σ : Led}
theorem VO.leX {σ' : Led} {x dx li D : Addr} {V : Vec} {at' : Value} {lp : List Value} {kp : Nat} (h : VO σ x dx li V at') (hD : σ D = some (lst lp kp)) (hn : li ≠ D) (lx : LeX D σ σ') : VO σ' x dx li V at' := by
  obtain ⟨od, t, l, k, sh, lo, h1, h2, h3, h4, h5⟩ := h
  refine ⟨od, t, l, k, sh, lo, lx _ _ (by rintro rfl; rw [hD] at h1; cases h1) h1, lx _ _ (by rintro rfl; rw [hD] at h2; cases h2; exact lst_ne_dict h3 rfl) h2, h3, lx _ _ hn h4, h5.imp fun it v hv => hv.leX hD lx⟩
def KR (bad : List Addr) (m : Nat) (σ : Led) (V : Vec × Bool) (v : Value) : Prop := ∃ x dx li, v = .ref x ∧ VO σ x dx li V.1 .none ∧ li ∉ bad ∧ VecOk V.1 ∧ V.1.items.length = m
theorem KR.leX {σ' : Led} {bad : List Addr} {m : Nat} {V : Vec × Bool} {v : Value} {D : Addr} {lp : List Value} {kp : Nat} (h : KR bad m σ V v) (hb : D ∈ bad) (hD : σ D = some (lst lp kp)) (lx : LeX D σ σ') : KR bad m σ' V v := by
  obtain ⟨x, dx, li, e, h1, h2, h3⟩ := h
  exact ⟨x, dx, li, e, h1.leX hD (by rintro rfl; exact h2 hb) lx, h2, h3⟩
section
variable {g : Led} {env : Env} {own : Bool} {ns : List (Str × NameKind)} {vs : List (Option Value)} {K : Frag} {prog : Program}
/-- a part taken backwards, of any base -/
theorem W_sliceRevC {value st : Expr} {p pos : Pos} {Q : ValQ}
    (h : W prog w K g os A env own ns (eval value env) vs σ fun o vs σ => W prog w K g os A env own ns (eval st env) vs σ fun vk vs σ =>
      ∃ a l k t, o = .ref a ∧ σ a = some (lst l k) ∧ l.length ≤ sizeLine ∧ vk = .int (-1) t ∧ ∀ b, σ b = none → Q (.ref b) vs (upd σ b (lst l.reverse 0))) :
    W prog w K g os A env own ns (eval (.Subscript value (.Slice none none (some st) p) pos) env) vs σ Q := W_in fun s H F => by
  rw [eval_Subscript]
  refine wpAny_bind (h.go H F (fun o s₁ _ _ H₁ F₁ h₁ => wpAny_bind (wpAny_holding (wpAny_Slice ?_))))
  rw [evalPart_none]
  refine wpAny_pure (wpAny_pure ?_)
  rw [evalPart_some]
  refine h₁.go H₁ F₁ (fun vk s₃ vs₃ σ₃ H₃ F₃ h₃ => ?_)
  obtain ⟨a, l, k, t, rfl, e, hz, rfl, q⟩ := h₃
  have hl := (isList_of H₃.led e).push { cls := .type "slice", data := .fields #[.none, .none, .int (-1) t] }
  have main : wpAny (model prog w) A (getItem (.ref a) (.ref s₃.heap.objs.size)) (fun r s' => ∃ vs' σ', Hp K g σ' os s' ∧ FrOk env own ns vs' g σ' s'.heap ∧ Q r vs' σ') (fun _ _ => False) { s₃ with heap := s₃.heap.push { cls := .type "slice", data := .fields #[.none, .none, .int (-1) t] } } := by
    refine wpAny_getItem_list_slice hl (Heap.IsSliceOf.new ..) .none .none (.int (-1) t) (by simp) ?_ (by rw [List.size_toArray]; exact hz)
    rw [krv_pick]
    have ho : ((s₃.heap.push { cls := .type "slice", data := .fields #[.none, .none, .int (-1) t] }).push (lst l.reverse 0)).get? (s₃.heap.objs.size + 1) = some (lst l.reverse 0) := by
      have := Heap.get?_push_size (s₃.heap.push { cls := .type "slice", data := .fields #[.none, .none, .int (-1) t] }) (o := lst l.reverse 0) rfl
      rwa [Heap.size_push] at this
    obtain ⟨hn, C⟩ := Chg.atEnd H₃.led (get?_ge _ (Nat.le_succ _)) (fun b o e => Heap.get?_push_of_some _ (Heap.get?_push_of_some _ e)) ho
    rw [Heap.size_push]
    exact ⟨_, _, H₃.chg C s₃.toks, F₃.chg H₃ C, q _ hn⟩
  have hT : ({ s₃ with heap := s₃.heap.push { cls := .type "slice", data := .fields #[.none, .none, .int (-1) t] } } : Shared).TypeIs (.ref a) "list" := hl.typeIs
  refine wpAny_bind (wpAny_standAt ?_)
  refine wpAny_bind ?_
  rw [getitemInPython_of_ne hT.not_modules]
  refine wpAny_bind (wpAny_specialOf hT list_getitem_lookup ?_)
  refine wpAny_pure (wpAny_bind (wpAny_operating (wpAny_mono main (fun r s₄ h₄ => wpAny_bind (wpAny_letTemporaryGo (wpAny_pure h₄))) fun _ _ x => x)))
end
def nmF (p : Nat) : Str := Str.ofString "n" ++ Str.ofString (toString (p : Int))
theorem nm_ok : ∀ p, p < 10 → PyData.strOk (nmF p) = true ∧ ((p : Int)).natAbs.log2 < 1920 ∧ (Str.ofString "n").length + (Str.ofString (toString (p : Int))).length ≤ 100 := by decide +kernel
theorem tst_eq {kd : Kd} {it : It} (ho : ItOk kd it) (hn : it ≠ .na) : (!PyData.eqv it.dat (.tuple [.int 0, .int 0])) = !lack kd it := by
  cases it with
  | na => exact absurd rfl hn
  | int i => cases kd <;> rfl
  | str s => cases kd <;> rfl
  | dbl n d =>
    have : kd = .dbl := by cases kd <;> first | rfl | exact ho.elim
    subst this
    show (!((n == 0) && ((d == 0) && true))) = !(n == 0 && d == 0)
    rw [Bool.and_true]
theorem keptP_one (V : Vec) (b : Bool) (i : Nat) : keptP [(V, b)] none i = !lack V.kd (V.at i) := by
  show ((false : Bool) || ((!lack V.kd (V.at i)) && true)) = _
  rw [Bool.and_true, Bool.false_or]
theorem W_isNN_it {g : Led} {env : Env} {own : Bool} {ns : List (Str × NameKind)} {vs : List (Option Value)} {it : It} {v : Value} {Q : ValQ} (h : ItV σ it v) (hn : it ≠ .na) (q : Q (.bool true) vs σ) : W prg w (Kx w) g os A env own ns (compareOp .IsNot v .none) vs σ Q := by
  cases it with
  | na => exact absurd rfl hn
  | int i => obtain ⟨t, rfl⟩ := h; exact W_isNN_i q
  | str s => obtain ⟨_, t, rfl⟩ := h; exact W_isNN_s q
  | dbl n d => obtain ⟨a, t, u, k, rfl, _⟩ := h; exact W_isNN_r q
theorem names_eq {m : Nat} {ps : List Nat} (h : ∀ p ∈ ps, p < m) : (ps.map fun p => ((List.range m).map nmF).getD p Str.empty) = ps.map nmF := by
  apply List.map_congr_left
  intro p hp
  have := h p hp
  simp [List.getD, List.getElem?_range this]
theorem natl_range {m : Nat} {rl : List Value} (hl : rl.length = m) (h : ∀ i, i < m → ∃ t, rl[i]? = some (.int ((0 : Int) + i * 1) t)) : NatL (List.range m) rl := by
  refine All2.of_get (by simpa using hl) fun i a b e1 e2 => ?_
  have hi : i < m := by
    have := (List.getElem?_eq_some_iff.mp e1).1; simpa using this
  obtain ⟨t, e⟩ := h i hi
  rw [e] at e2
  rw [List.getElem?_range hi] at e1
  cases e1; cases e2
  exact ⟨t, by congr 1; omega⟩
noncomputable def lawRest (w : World) (k : Nat) : List Stmt := (match (Kx w).lookup 386 with
  | some ⟨_, _, .func fd, _⟩ => (match fd.body with | .stmts b => b | _ => [])
  | _ => []).drop k
noncomputable def lawScope (w : World) : Scope := match (Kx w).lookup 386 with
  | some ⟨_, _, .func fd, _⟩ => fd.scope
  | _ => { kind := .function, names := [], isGenerator := false, isCoroutine := false }
end TextMKE
noncomputable section TextMKG
variable {w : World} {os : OsState} {A : Around} {σ : Led}
theorem kept_b (V : Vec) (b c : Bool) (m : Nat) : kept [(V, b)] m none = kept [(V, c)] m none := by
  unfold kept
  apply List.filter_congr
  intro i _
  rw [keptP_one, keptP_one]
theorem any_ofNat (l : List Nat) (i : Nat) : ((l.map Int.ofNat).any fun z => z == (i : Int)) = decide (i ∈ l) := by
  induction l with
  | nil => rfl
  | cons a r ih =>
    rw [List.map_cons, List.any_cons, ih]
    by_cases h : a = i
    · subst h; simp
    · have : (Int.ofNat a == (i : Int)) = false := by
        rw [beq_eq_false_iff_ne]; intro e; exact h (Int.ofNat.inj e)
      rw [this]
      simp [Ne.symm h, List.mem_cons]
theorem filt_step (f : Nat → Bool) (i : Nat) : (List.range (i + 1)).filter f = (List.range i).filter f ++ if f i then [i] else [] := by
  rw [List.range_succ, List.filter_append]
  congr 1
  cases h : f i <;> simp [h]
theorem c_lawD {n : Nat} {g : Led} {env : Env} (hA : Ok (n + 9) A) (he : env.scope = lawScope w) {m : Nat} {tm : Tok} (hm : m < 10) {x : Addr} {V : Vec} {b : Bool} (hoV : VOk V) (hVm : V.items.length = m) {q0 q1 q2 q4 q5 q6 q7 q8 q9 q10 q11 q13 q14 q15 q16 q17 q19 q20 q21 q22 q23 : Option Value} {tl3 : List Value} {tk3 : Nat} {Th : Addr} {at4 : Value} (nth : NatL (kept [(V, b)] m none) tl3) {σj : Led} (hxj : VecAt σj x V at4) (hTj : σj Th = some (lst tl3 tk3)) :
    W prg w (Kx w) g os A env true ((Str.ofString "script", NameKind.local) :: (Str.ofString "pile", NameKind.local) :: (Str.ofString "many_keys", NameKind.local) :: (Str.ofString "many", NameKind.cell) :: (Str.ofString "keys", NameKind.local) :: (Str.ofString "falls", NameKind.local) :: (Str.ofString "lap", NameKind.local) :: (Str.ofString "told", NameKind.local) :: (Str.ofString "spots", NameKind.cell) :: (Str.ofString "which", NameKind.local) :: (Str.ofString "inner", NameKind.local) :: (Str.ofString "at", NameKind.local) :: (Str.ofString "v", NameKind.cell) :: (Str.ofString "back", NameKind.local) :: (Str.ofString "last", NameKind.local) :: (Str.ofString "up", NameKind.local) :: (Str.ofString "due", NameKind.local) :: (Str.ofString "kept", NameKind.local) :: (Str.ofString "there", NameKind.cell) :: (Str.ofString "row", NameKind.local) :: (Str.ofString "one", NameKind.local) :: (Str.ofString "two", NameKind.local) :: (Str.ofString "ranks", NameKind.cell) :: (Str.ofString "rising", NameKind.local) :: (Str.ofString "_law_pile", NameKind.globalImplicit) :: (Str.ofString "_law_top", NameKind.globalImplicit) :: (Str.ofString "range", NameKind.globalImplicit) :: (Str.ofString "_law_key", NameKind.globalImplicit) :: (Str.ofString "order_by", NameKind.globalImplicit) :: (Str.ofString "sorted", NameKind.globalImplicit) :: (Str.ofString "list", NameKind.globalImplicit) :: (Str.ofString "_law_part", NameKind.globalImplicit) :: (Str.ofString "Vector", NameKind.globalImplicit) :: (Str.ofString "sort_vector", NameKind.globalImplicit) :: (Str.ofString "len", NameKind.globalImplicit) :: (Str.ofString "_law_less", NameKind.globalImplicit) :: (Str.ofString "is_unsorted", NameKind.globalImplicit) :: (Str.ofString "rank_of", NameKind.globalImplicit) :: []) (execs (lawRest w 24) env) (q0 :: q1 :: q2 :: (some (.int m tm)) :: q4 :: q5 :: q6 :: q7 :: q8 :: q9 :: q10 :: q11 :: (some (.ref x)) :: q13 :: q14 :: q15 :: q16 :: q17 :: (some (.ref Th)) :: q19 :: q20 :: q21 :: q22 :: q23 :: none :: none :: none :: none :: none :: none :: none :: none :: none :: none :: none :: none :: none :: none :: []) σj (retQ fun r σ' => r = .bool true) := by
  have e := (rfl : lawRest w 24 = lawRest w 24)
  conv at e => rhs; whnf
  rw [e]
  clear e
  have vz := hoV.2
  walk_at "ss"
  refine W_call ((c_rank hA hxj hoV (by omega)).mono fun r σk e => ?_)
  obtain ⟨y, rr, rfl, l1, hsr, hy⟩ := e
  rw [hVm] at hsr hy
  refine W_vitems hy fun li l k hl hal => ?_
  walk_at "ss"
  refine ⟨Nat.le_of_ble_eq_true rfl, fun a1 ha1 => ?_⟩
  walk_at "ss"
  refine W_call ((c_order1 (nl := none) hA upd_same ((hxj.le l1).le (Le.upd ha1)) hoV hVm).mono fun r σ' e => ?_)
  obtain ⟨Rg, rl, rk, rfl, hRg, rfl, r2, nr, hs2⟩ := e
  obtain rfl : r2 = rr := Srt.unique (cmpP_po hoV.1 false true) hs2 hsr
  have l2 := (Le.upd (σ := σk) (o := lst [.ref x] 0) ha1).trans (Le.upd (o := lst rl rk) hRg)
  have hnd := hsr.nodup
  have hlt := hsr.lt
  have hln := hsr.len
  have rz := nr.length
  have lz := hal.length
  rw [setR_len, List.length_replicate] at lz
  have hlt' : ∀ p ∈ r2, p < (List.replicate m It.na).length := fun p hp => by rw [List.length_replicate]; exact hlt p hp
  have on : ∀ k, (hk : k < r2.length) → ∃ t, l[r2[k]]? = some (.int ((k + 1 : Nat) : Int) t) := fun k hk => by
    obtain ⟨v, e1, t, rfl⟩ := hal.get (setR_on r2 _ 0 k hnd hlt' hk)
    exact ⟨t, by rw [e1]; congr 3; omega⟩
  have off : ∀ i, i < m → i ∉ r2 → l[i]? = some .none := fun i hi h => by
    have e := setR_off r2 (List.replicate m It.na) 0 i h
    rw [List.getElem?_replicate, if_pos hi] at e
    obtain ⟨v, e1, rfl⟩ := hal.get e
    exact e1
  walk_at "s"
  refine W_gen (fun σ => σ li = some (lst l k) ∧ σ Rg = some (lst rl rk) ∧ σ Th = some (lst tl3 tk3)) ⟨l2 _ _ hl, upd_same, (l1.trans l2) _ _ hTj⟩ fun σm ⟨hlm, hRm, hTm⟩ => ?_
  clear l2 hRg ha1 hy hal hl
  refine W_cons (W_for (n := r2.length) (P := fun i v => ∃ t, v = .int i t) (S := fun _ => True) (fun i vs σ' => Le σm σ' ∧ ∃ av, vs = (q0 :: q1 :: q2 :: (some (.int m tm)) :: q4 :: q5 :: q6 :: q7 :: q8 :: q9 :: q10 :: av :: (some (.ref x)) :: q13 :: q14 :: q15 :: q16 :: q17 :: (some (.ref Th)) :: q19 :: q20 :: q21 :: (some (.ref li)) :: (some (.ref Rg)) :: none :: none :: none :: none :: none :: none :: none :: none :: none :: none :: none :: none :: none :: none :: [])) ?_ (fun _ _ _ _ => trivial) ?_ ?_)
  · walk_at "ss"
    refine W_len hRm (by omega) fun _ => ?_
    walk_at "ss"
    refine W_range1 fun r t u v hr => ?_
    rw [rz]
    exact ⟨itb_rangeN hA.2.2 upd_same (by omega), Le.upd hr, _, rfl⟩
  · rintro i v vs σ' g hi ⟨t, rfl⟩ ⟨hle, av, rfl⟩
    obtain ⟨_, e1, t1, rfl⟩ := nr.get (List.getElem?_eq_getElem hi)
    obtain ⟨t2, e2⟩ := on i hi
    have := hlt _ (List.getElem_mem hi)
    walk_at "ss"
    refine W_itemN (hle _ _ hRm) (by omega) e1 ?_
    refine W_itemN (hle _ _ hlm) (by omega) e2 ?_
    walk_at "ss"
    refine br_n (fun e => absurd (by push_cast; rfl) e) fun _ => ?_
    walk_at "ss"
    exact ⟨hle, _, rfl⟩
  · rintro vs σ' ⟨hle, av, rfl⟩
    have hl' := hle _ _ hlm
    have hT' := hle _ _ hTm
    walk_at "ss"
    refine W_comp (.free (by walk_at "ld")) rfl rfl (by kernel_rfl) (by kernel_rfl) ?_
    walk_at "ss"
    refine W_range1 fun rr t u v hrr => ?_
    refine ⟨rfl, m, _, _, fun i out σ' => σ' = upd _ rr (rng 0 m 1 t u v) ∧ NatL ((List.range i).filter fun p => decide (p ∉ r2)) out, itb_rangeN hA.2.2 upd_same (by omega), ⟨rfl, .nil⟩, szl (by omega), fun _ _ _ _ => trivial, ?_, ?_⟩
    · rintro i v out σ'' g cenv hi ⟨t, rfl⟩ ⟨rfl, hr⟩ hlen
      have hst := filt_step (fun p => decide (p ∉ r2)) i
      refine W_tst1 ?_
      walk_at "ss"
      by_cases hm' : i ∈ r2
      · obtain ⟨k, hk, rfl⟩ := List.getElem_of_mem hm'
        obtain ⟨t2, e2⟩ := on k hk
        rw [decide_eq_false (fun h => h hm'), if_neg (by decide), List.append_nil] at hst
        refine W_itemN (upd_get hrr hl') (by omega) e2 ?_
        walk_at "ss"
        refine ⟨rfl, fun e => (nomatch e), fun _ => ⟨rfl, ?_⟩⟩
        rw [hst]; exact hr
      · rw [decide_eq_true hm', if_pos rfl] at hst
        refine W_itemN (upd_get hrr hl') (by omega) (off i hi hm') ?_
        walk_at "ss"
        refine ⟨rfl, fun _ => ?_, fun e => nomatch e⟩
        walk_at "ss"
        refine ⟨rfl, rfl, ?_⟩
        rw [hst]; exact hr.snoc ⟨_, rfl⟩
    rintro D1 o1 σ₁ k1 _ hD1 ⟨rfl, hr1⟩
    have hT1 := fun (o : Obj) => upd_get (o := o) hD1 (upd_get (o := rng 0 m 1 t u v) hrr hT')
    walk_at "ss"
    refine W_comp (.free (by walk_at "ld")) rfl rfl (by kernel_rfl) (by kernel_rfl) ?_
    walk_at "ss"
    refine W_range1 fun rr' t' u' v' hrr' => ?_
    refine ⟨rfl, m, _, _, fun i out σ' => σ' = upd _ rr' (rng 0 m 1 t' u' v') ∧ NatL ((List.range i).filter fun p => decide (p ∉ r2)) out, itb_rangeN hA.2.2 upd_same (by omega), ⟨rfl, .nil⟩, szl (by omega), fun _ _ _ _ => trivial, ?_, ?_⟩
    · rintro i v out σ'' g cenv hi ⟨t, rfl⟩ ⟨rfl, hr⟩ hlen
      have hst := filt_step (fun p => decide (p ∉ r2)) i
      refine W_tst1 ?_
      walk_at "ss"
      refine W_notin_ints (upd_get hrr' (hT1 _)) nth.ints ?_
      have hiff : i ∈ kept [(V, b)] m none ↔ i ∈ r2 := by rw [kept_b V b false]; exact hsr.1.symm.mem_iff
      rw [any_ofNat]
      by_cases hm' : i ∈ r2
      · rw [decide_eq_false (fun h => h hm'), if_neg (by decide), List.append_nil] at hst
        rw [decide_eq_true (hiff.mpr hm')]
        walk_at "ss"
        refine ⟨rfl, fun e => (nomatch e), fun _ => ⟨rfl, ?_⟩⟩
        rw [hst]; exact hr
      · rw [decide_eq_true hm', if_pos rfl] at hst
        rw [decide_eq_false (fun h => hm' (hiff.mp h))]
        walk_at "ss"
        refine ⟨rfl, fun _ => ?_, fun e => nomatch e⟩
        walk_at "ss"
        refine ⟨rfl, rfl, ?_⟩
        rw [hst]; exact hr.snoc ⟨_, rfl⟩
    rintro D2 o2 σ₂ k2 _ hD2 ⟨rfl, hr2⟩
    refine W_eq_ints (upd_get hD2 (upd_get hrr' upd_same)) upd_same hr1.ints hr2.ints hA.units ?_
    rw [decide_eq_true rfl]
    walk_at "ss"
    rfl
end TextMKG
noncomputable section TextMKH
variable {w : World} {os : OsState} {A : Around} {σ : Led}
theorem c_lawC {n : Nat} {g : Led} {env : Env} (hA : Ok (n + 9) A) (he : env.scope = lawScope w) {m : Nat} {tm : Tok} (hm : m < 10) {x Fa : Addr} {V : Vec} {b : Bool} (hoV : VOk V) (hVm : V.items.length = m) {lf : List Value} {kf : Nat} (hlf0 : lf[0]? = some (.bool b)) {q0 q1 q2 q4 q6 q7 q8 q9 q10 q11 q13 q14 q15 q16 q20 q21 q22 q23 : Option Value} {kp : List Nat} {kl tl3 : List Value} {kk' tk3 : Nat} {Kp Th y2 : Addr} {at4 at5 : Value} (hsk : Srt (fun i j => cmpP V i j b true) (kept [(V, b)] m none) kp) (nkp : NatL kp kl) (nth : NatL (kept [(V, b)] m none) tl3) {σi : Led}
    (hFi : σi Fa = some (lst lf kf)) (hxi : VecAt σi x V at4) (hni : NM w σi at4 (some ((List.range m).map nmF))) (hKi : σi Kp = some (lst kl kk')) (hTi : σi Th = some (lst tl3 tk3)) (hyi : VecAt σi y2 ⟨V.kd, kp.map V.at⟩ at5) (hnyi : NM w σi at5 (some (kp.map nmF))) :
    W prg w (Kx w) g os A env true ((Str.ofString "script", NameKind.local) :: (Str.ofString "pile", NameKind.local) :: (Str.ofString "many_keys", NameKind.local) :: (Str.ofString "many", NameKind.cell) :: (Str.ofString "keys", NameKind.local) :: (Str.ofString "falls", NameKind.local) :: (Str.ofString "lap", NameKind.local) :: (Str.ofString "told", NameKind.local) :: (Str.ofString "spots", NameKind.cell) :: (Str.ofString "which", NameKind.local) :: (Str.ofString "inner", NameKind.local) :: (Str.ofString "at", NameKind.local) :: (Str.ofString "v", NameKind.cell) :: (Str.ofString "back", NameKind.local) :: (Str.ofString "last", NameKind.local) :: (Str.ofString "up", NameKind.local) :: (Str.ofString "due", NameKind.local) :: (Str.ofString "kept", NameKind.local) :: (Str.ofString "there", NameKind.cell) :: (Str.ofString "row", NameKind.local) :: (Str.ofString "one", NameKind.local) :: (Str.ofString "two", NameKind.local) :: (Str.ofString "ranks", NameKind.cell) :: (Str.ofString "rising", NameKind.local) :: (Str.ofString "_law_pile", NameKind.globalImplicit) :: (Str.ofString "_law_top", NameKind.globalImplicit) :: (Str.ofString "range", NameKind.globalImplicit) :: (Str.ofString "_law_key", NameKind.globalImplicit) :: (Str.ofString "order_by", NameKind.globalImplicit) :: (Str.ofString "sorted", NameKind.globalImplicit) :: (Str.ofString "list", NameKind.globalImplicit) :: (Str.ofString "_law_part", NameKind.globalImplicit) :: (Str.ofString "Vector", NameKind.globalImplicit) :: (Str.ofString "sort_vector", NameKind.globalImplicit) :: (Str.ofString "len", NameKind.globalImplicit) :: (Str.ofString "_law_less", NameKind.globalImplicit) :: (Str.ofString "is_unsorted", NameKind.globalImplicit) :: (Str.ofString "rank_of", NameKind.globalImplicit) :: []) (execs (lawRest w 19) env) (q0 :: q1 :: q2 :: (some (.int m tm)) :: q4 :: (some (.ref Fa)) :: q6 :: q7 :: q8 :: q9 :: q10 :: q11 :: (some (.ref x)) :: q13 :: q14 :: q15 :: q16 :: (some (.ref Kp)) :: (some (.ref Th)) :: (some (.ref y2)) :: q20 :: q21 :: q22 :: q23 :: none :: none :: none :: none :: none :: none :: none :: none :: none :: none :: none :: none :: none :: none :: []) σi (retQ fun r σ' => r = .bool true) := by
  have e := (rfl : lawRest w 19 = lawRest w 19)
  conv at e => rhs; whnf
  rw [e]
  clear e
  have vz := hoV.2
  have klen := hsk.len
  have klt := hsk.lt
  have kz := nkp.length
  walk_at "ss"
  refine W_vkind hyi fun _ => ?_
  walk_at "ss"
  refine W_vkind hxi fun _ => ?_
  walk_at "ss"
  rw [kn_ne]
  walk_at "ss"
  refine W_vitems hyi fun li l k hl hal => ?_
  refine W_comp (.free (by walk_at "ld")) rfl rfl (by kernel_rfl) (by kernel_rfl) ?_
  walk_at "ss"
  refine ⟨rfl, kl.length, _, _, fun i out σ' => σ' = σi ∧ All2 (ItV σi) ((kp.take i).map V.at) out, itb_list hA.2.2 hKi, ⟨rfl, by simp; exact .nil⟩, szl (by omega), fun i out σ' h => ⟨kk', by rw [h.1]; exact hKi⟩, ?_, ?_⟩
  · rintro i v out σ' g cenv hi hv' ⟨rfl, hr⟩ hlen
    refine W_tst0 ⟨rfl, fun _ => ?_, fun e => nomatch e⟩
    obtain ⟨p, ep, t, rfl⟩ := nkp.get' hv'
    have hp := klt p (List.mem_of_getElem? ep)
    walk_at "ss"
    refine W_vitems hxi fun li l k hl hal => ?_
    obtain ⟨vi, ei, hvi⟩ := at_get hal (i := p) (by omega)
    walk_at "ss"
    refine W_itemN hl (by omega) ei ?_
    refine ⟨rfl, rfl, ?_⟩
    rw [map_take _ ep]
    exact hr.snoc hvi
  rintro D1 o1 σ₁ k1 _ hD1 ⟨rfl, hr1⟩
  rw [kz, List.take_length] at hr1
  have le1 := Le.upd (σ := σ₁) (o := lst o1 k1) hD1
  have hal1 := hal.imp fun _ _ h => h.le le1
  have hr1' := hr1.imp fun _ _ h => h.le le1
  refine W_neD (RD.list (le1 _ _ hl) (items_rds hal1)) (RD.list upd_same (items_rds hr1')) (items_shaped hal1) (items_shaped hr1') hA.units ?_
  rw [items_eqv, Bool.not_true]
  iterate 4 walk_at "s"
  refine W_gen (fun σ => σ Fa = some (lst lf kf) ∧ VecAt σ x V at4 ∧ NM w σ at4 (some ((List.range m).map nmF)) ∧ σ Kp = some (lst kl kk') ∧ σ Th = some (lst tl3 tk3) ∧ VecAt σ y2 ⟨V.kd, kp.map V.at⟩ at5 ∧ NM w σ at5 (some (kp.map nmF))) ⟨le1 _ _ hFi, hxi.le le1, hni.le le1, le1 _ _ hKi, le1 _ _ hTi, hyi.le le1, hnyi.le le1⟩ fun σj ⟨hFj, hxj, hnj, hKj, hTj, hyj, hnyj⟩ => ?_
  clear le1 hal1 hr1' hr1 hal hl hD1 hFi hxi hni hKi hTi hyi hnyi
  obtain ⟨f, haf, hf1, hf2, yv, hfn, hvn⟩ := id hnyj
  rcases haf with ⟨rfl, rfl⟩ | ⟨d, ob, rfl, hmd, hd, dm⟩
  · cases hfn
  walk_at "ss"
  refine W_vattrs hyj rfl ?_
  walk_at "ss"
  refine W_getItemD hd dm hfn ?_
  refine W_vitems hvn fun li l k hl hal => ?_
  refine W_comp .glob rfl rfl (by kernel_rfl) (by kernel_rfl) ?_
  walk_at "ss"
  refine ⟨rfl, kl.length, _, _, fun i out σ' => σ' = σj ∧ All2 (ItV σj) (((kp.take i).map nmF).map It.str) out, itb_list hA.2.2 hKj, ⟨rfl, by simp; exact .nil⟩, szl (by omega), fun i out σ' h => ⟨kk', by rw [h.1]; exact hKj⟩, ?_, ?_⟩
  · rintro i v out σ' g cenv hi hv' ⟨rfl, hr⟩ hlen
    refine W_tst0 ⟨rfl, fun _ => ?_, fun e => nomatch e⟩
    obtain ⟨p, ep, t, rfl⟩ := nkp.get' hv'
    have hp := klt p (List.mem_of_getElem? ep)
    obtain ⟨n1, n2, n3⟩ := nm_ok p (by omega)
    walk_at "ss"
    refine W_strInt n2 fun _ => ?_
    refine W_addStr (szl (by omega)) fun _ => ?_
    refine ⟨rfl, rfl, ?_⟩
    rw [map_take _ ep, List.map_append]
    exact hr.snoc ⟨n1, _, rfl⟩
  rintro D2 o2 σ₂ k2 _ hD2 ⟨rfl, hr2⟩
  rw [kz, List.take_length] at hr2
  have le2 := Le.upd (σ := σ₂) (o := lst o2 k2) hD2
  have hal2 := hal.imp fun _ _ h => h.le le2
  have hr2' := hr2.imp fun _ _ h => h.le le2
  refine W_neD (RD.list (le2 _ _ hl) (items_rds hal2)) (RD.list upd_same (items_rds hr2')) (items_shaped hal2) (items_shaped hr2') hA.units ?_
  rw [items_eqv, Bool.not_true]
  iterate 2 walk_at "s"
  refine W_gen (fun σ => σ Fa = some (lst lf kf) ∧ VecAt σ x V at4 ∧ NM w σ at4 (some ((List.range m).map nmF)) ∧ σ Kp = some (lst kl kk') ∧ σ Th = some (lst tl3 tk3) ∧ VecAt σ y2 ⟨V.kd, kp.map V.at⟩ (.ref d) ∧ NM w σ (.ref d) (some (kp.map nmF))) ⟨le2 _ _ hFj, hxj.le le2, hnj.le le2, le2 _ _ hKj, le2 _ _ hTj, hyj.le le2, hnyj.le le2⟩ fun σk ⟨hFk, hxk, hnk, hKk, hTk, hyk, hnyk⟩ => ?_
  clear le2 hal2 hr2' hr2 hal hl hD2 hFj hxj hnj hKj hTj hyj hnyj dm hd hvn
  refine W_nil ?_
  refine W_cons (W_for (n := kp.length - 1) (P := fun i v => ∃ t, v = .int ((1 + i : Nat) : Int) t) (S := fun _ => True) (fun i vs σ' => Le σk σ' ∧ ∃ av ov tv, vs = (q0 :: q1 :: q2 :: (some (.int m tm)) :: q4 :: (some (.ref Fa)) :: q6 :: q7 :: q8 :: q9 :: q10 :: av :: (some (.ref x)) :: q13 :: q14 :: q15 :: q16 :: (some (.ref Kp)) :: (some (.ref Th)) :: (some (.ref y2)) :: ov :: tv :: q22 :: q23 :: none :: none :: none :: none :: none :: none :: none :: none :: none :: none :: none :: none :: none :: none :: [])) ?_ (fun _ _ _ _ => trivial) ?_ ?_)
  · walk_at "ss"
    refine W_vitems hyk fun li l k hl hal => ?_
    have hz := hal.length
    rw [List.length_map] at hz
    walk_at "ss"
    refine W_len hl (by omega) fun _ => ?_
    walk_at "ss"
    refine W_range2 fun r t u v hr => ?_
    rw [hz]
    exact ⟨itb_rangeAB (a := 1) (b := kp.length) hA.2.2 upd_same (by omega) (by omega), Le.upd hr, _, _, _, rfl⟩
  · rintro i v vs σ' g hi ⟨t, rfl⟩ ⟨hle, av, ov, tv, rfl⟩
    have h1 : i < kp.length := by omega
    have h2 : 1 + i < kp.length := by omega
    have hy' := hyk.le hle
    have hx' := hxk.le hle
    have hokR := (part_ok (ps := kp) hoV (by omega)).1
    have f1 := full_of (hokR.at i) (row_full hsk h1)
    have f2 := full_of (hokR.at (1 + i)) (row_full hsk h2)
    have hrow := row_le hsk (show i < 1 + i by omega) h2
    rw [cmpP_full (row_full hsk h1) (row_full hsk h2)] at hrow
    have hanti := cmpI_anti f1 f2
    walk_at "s"
    refine W_sUnpack2 hA.2.2 ?_ (hw := by cases env with | mk s _ _ _ _ _ _ _ _ => cases (show s = _ from he); with_unfolding_all rfl)
    walk_at "ss"
    refine W_vitems hy' fun li l k hl hal => ?_
    obtain ⟨v1, e1, hv1⟩ := at_get hal (i := i) (by simpa using h1)
    walk_at "ss"
    refine W_item hl (by omega) (by omega) (by rw [show (((1 + i : Nat) : Int) - 1).toNat = i by omega]; exact e1) ?_
    walk_at "ss"
    refine W_vitems hy' fun li' l' k' hl' hal' => ?_
    obtain ⟨v2, e2, hv2⟩ := at_get hal' (i := 1 + i) (by simpa using h2)
    walk_at "ss"
    refine W_itemN hl' (by omega) e2 ?_
    walk_at "ss"
    refine ⟨Nat.le_of_ble_eq_true rfl, fun a ha => ?_⟩
    refine ⟨_, _, _, _, rfl, upd_same, _, _, by walk_at "sto", by walk_at "sto", ?_⟩
    have la := Le.upd (σ := σ') (o := tup [v1, v2] 0) ha
    walk_at "ss"
    refine W_item (la _ _ (hle _ _ hFk)) (by decide) (by decide) hlf0 ?_
    walk_at "ss"
    refine ⟨fun eb => ?_, fun eb => ?_⟩
    · refine W_sUnpack2 hA.2.2 ?_ (hw := by cases env with | mk s _ _ _ _ _ _ _ _ => cases (show s = _ from he); with_unfolding_all rfl)
      walk_at "ss"
      refine ⟨Nat.le_of_ble_eq_true rfl, fun a' ha' => ?_⟩
      refine ⟨_, _, _, _, rfl, upd_same, _, _, by walk_at "sto", by walk_at "sto", ?_⟩
      have lb := la.trans (Le.upd (o := tup [v2, v1] 0) ha')
      walk_at "ss"
      refine W_vkind (hx'.le lb) fun _ => ?_
      walk_at "ss"
      refine W_callB (c_less hA f1 f2 (hv1.le lb) (hv2.le lb)) ?_
      rw [eb, if_pos rfl] at hrow
      rw [decide_eq_false (by omega)]
      walk_at "ss"
      exact ⟨hle.trans lb, _, _, _, rfl⟩
    · walk_at "ss"
      refine W_vkind (hx'.le la) fun _ => ?_
      walk_at "ss"
      refine W_callB (c_less hA f2 f1 (hv2.le la) (hv1.le la)) ?_
      rw [eb, if_neg (by decide)] at hrow
      rw [decide_eq_false (by omega)]
      walk_at "ss"
      exact ⟨hle.trans la, _, _, _, rfl⟩
  · rintro vs σ' ⟨hle, av, ov, tv, rfl⟩
    walk_at "s"
    refine W_gen (fun σ => σ Fa = some (lst lf kf) ∧ VecAt σ x V at4 ∧ NM w σ at4 (some ((List.range m).map nmF)) ∧ σ Kp = some (lst kl kk') ∧ σ Th = some (lst tl3 tk3) ∧ VecAt σ y2 ⟨V.kd, kp.map V.at⟩ (.ref d) ∧ NM w σ (.ref d) (some (kp.map nmF))) ⟨hle _ _ hFk, hxk.le hle, hnk.le hle, hle _ _ hKk, hle _ _ hTk, hyk.le hle, hnyk.le hle⟩ fun σl ⟨hFl, hxl, hnl, hKl, hTl, hyl, hnyl⟩ => ?_
    clear hle hFk hxk hnk hKk hTk hyk hnyk
    walk_at "ss"
    refine W_item hFl (by decide) (by decide) hlf0 ?_
    walk_at "ss"
    refine W_call ((c_sortv hA hyl hnyl (part_ok hoV (by omega)) (fun ss h => by cases h; simp)).mono fun r σm e => ?_)
    obtain ⟨y3, at6, r2, rfl, lm, hs2, hy3, hn3⟩ := e
    rw [show (⟨V.kd, kp.map V.at⟩ : Vec).items.length = kp.length from List.length_map ..] at hs2
    rw [row_again hoV.1 hsk hs2] at hy3
    refine W_vitems hy3 fun li l k hl hal => ?_
    walk_at "ss"
    refine W_vitems (hyl.le lm) fun li' l' k' hl' hal' => ?_
    refine W_neD (RD.list hl (items_rds hal)) (RD.list hl' (items_rds hal')) (items_shaped hal) (items_shaped hal') hA.units ?_
    rw [items_eqv, Bool.not_true]
    iterate 2 walk_at "s"
    refine W_gen (fun σ => σ Fa = some (lst lf kf) ∧ VecAt σ x V at4 ∧ NM w σ at4 (some ((List.range m).map nmF)) ∧ σ Kp = some (lst kl kk') ∧ σ Th = some (lst tl3 tk3) ∧ VecAt σ y2 ⟨V.kd, kp.map V.at⟩ (.ref d) ∧ NM w σ (.ref d) (some (kp.map nmF))) ⟨lm _ _ hFl, hxl.le lm, hnl.le lm, lm _ _ hKl, lm _ _ hTl, hyl.le lm, hnyl.le lm⟩ fun σm ⟨hFm, hxm, hnm, hKm, hTm, hym, hnym⟩ => ?_
    clear lm hal hal' hl hl' hy3 hn3 hFl hxl hnl hKl hTl hyl hnyl
    walk_at "ss"
    refine W_call ((c_sortv1 hA hxm hnm hoV (fun ss h => by cases h; simp [hVm])).mono fun r σn e => ?_)
    obtain ⟨y4, at7, r3, rfl, ln, hs3, hy4, hn4⟩ := e
    rw [hVm] at hs3
    have l3 := hs3.len
    walk_at "ss"
    refine W_call ((c_unsorted hA hy4 (part_ok hoV (by omega)) (fun i hi => row_full hs3 (by simpa using hi)) (fun i hi => ?_)).mono fun r σo e => ?_)
    · have hi' : i + 1 < r3.length := by simpa using hi
      have := row_le hs3 (show i < i + 1 by omega) hi'
      rw [cmpP_full (row_full hs3 (by omega)) (row_full hs3 hi')] at this
      exact this
    obtain ⟨⟨_, rfl⟩, rfl⟩ := e
    walk_at "ss"
    refine br_n (fun e => absurd rfl e) fun _ => ?_
    refine W_nil ?_
    walk_at "s"
    exact c_lawD hA he hm hoV hVm nth (hxm.le ln) (ln _ _ hTm)
end TextMKH
noncomputable section TextMKI
variable {w : World} {os : OsState} {A : Around} {σ : Led}
theorem c_lawB {n : Nat} {g : Led} {env : Env} (hA : Ok (n + 9) A) (he : env.scope = lawScope w) {m : Nat} {tm : Tok} (hm : m < 10) {x Fa : Addr} {V : Vec} {b : Bool} (hoV : VOk V) (hVm : V.items.length = m) {lf : List Value} {kf : Nat} (hlf0 : lf[0]? = some (.bool b)) {q0 q1 q2 q4 q6 q7 q8 q9 q10 q11 q13 q14 q15 q16 q17 q18 q19 q20 q21 q22 q23 : Option Value} {σc : Led} (hFc : σc Fa = some (lst lf kf)) (hxc : VecAt σc x V .none) :
    W prg w (Kx w) g os A env true ((Str.ofString "script", NameKind.local) :: (Str.ofString "pile", NameKind.local) :: (Str.ofString "many_keys", NameKind.local) :: (Str.ofString "many", NameKind.cell) :: (Str.ofString "keys", NameKind.local) :: (Str.ofString "falls", NameKind.local) :: (Str.ofString "lap", NameKind.local) :: (Str.ofString "told", NameKind.local) :: (Str.ofString "spots", NameKind.cell) :: (Str.ofString "which", NameKind.local) :: (Str.ofString "inner", NameKind.local) :: (Str.ofString "at", NameKind.local) :: (Str.ofString "v", NameKind.cell) :: (Str.ofString "back", NameKind.local) :: (Str.ofString "last", NameKind.local) :: (Str.ofString "up", NameKind.local) :: (Str.ofString "due", NameKind.local) :: (Str.ofString "kept", NameKind.local) :: (Str.ofString "there", NameKind.cell) :: (Str.ofString "row", NameKind.local) :: (Str.ofString "one", NameKind.local) :: (Str.ofString "two", NameKind.local) :: (Str.ofString "ranks", NameKind.cell) :: (Str.ofString "rising", NameKind.local) :: (Str.ofString "_law_pile", NameKind.globalImplicit) :: (Str.ofString "_law_top", NameKind.globalImplicit) :: (Str.ofString "range", NameKind.globalImplicit) :: (Str.ofString "_law_key", NameKind.globalImplicit) :: (Str.ofString "order_by", NameKind.globalImplicit) :: (Str.ofString "sorted", NameKind.globalImplicit) :: (Str.ofString "list", NameKind.globalImplicit) :: (Str.ofString "_law_part", NameKind.globalImplicit) :: (Str.ofString "Vector", NameKind.globalImplicit) :: (Str.ofString "sort_vector", NameKind.globalImplicit) :: (Str.ofString "len", NameKind.globalImplicit) :: (Str.ofString "_law_less", NameKind.globalImplicit) :: (Str.ofString "is_unsorted", NameKind.globalImplicit) :: (Str.ofString "rank_of", NameKind.globalImplicit) :: []) (execs (lawRest w 14) env) (q0 :: q1 :: q2 :: (some (.int m tm)) :: q4 :: (some (.ref Fa)) :: q6 :: q7 :: q8 :: q9 :: q10 :: q11 :: (some (.ref x)) :: q13 :: q14 :: q15 :: q16 :: q17 :: q18 :: q19 :: q20 :: q21 :: q22 :: q23 :: none :: none :: none :: none :: none :: none :: none :: none :: none :: none :: none :: none :: none :: none :: []) σc (retQ fun r σ' => r = .bool true) := by
  have e := (rfl : lawRest w 14 = lawRest w 14)
  conv at e => rhs; whnf
  rw [e]
  clear e
  obtain ⟨dx, li, hvo⟩ := hxc
  walk_at "ss"
  refine W_dict1 fun d hd hmd => ?_
  have ld := Le.upd (σ := σc) (o := emptyDict) hd
  walk_at "ss"
  refine W_comp .glob rfl rfl (by kernel_rfl) (by kernel_rfl) ?_
  walk_at "ss"
  refine W_range1 fun rr t u v hrr => ?_
  refine ⟨rfl, m, _, _, fun i out σ' => σ' = upd (upd σc d emptyDict) rr (rng 0 m 1 t u v) ∧ All2 (ItV σ') (((List.range i).map nmF).map It.str) out, itb_rangeN hA.2.2 upd_same (by omega), ⟨rfl, .nil⟩, szl (by omega), fun _ _ _ _ => trivial, ?_, ?_⟩
  · rintro i v out σ' g cenv hi ⟨t, rfl⟩ ⟨rfl, hr⟩ hlen
    refine W_tst0 ⟨rfl, fun _ => ?_, fun e => nomatch e⟩
    obtain ⟨n1, n2, n3⟩ := nm_ok i (by omega)
    walk_at "ss"
    refine W_strInt n2 fun _ => ?_
    refine W_addStr (szl (by omega)) fun _ => ?_
    refine ⟨rfl, rfl, ?_⟩
    rw [List.range_succ, List.map_append, List.map_append]
    exact hr.snoc ⟨n1, _, rfl⟩
  rintro D out σ₇ k _ hD ⟨rfl, hr⟩
  have l7 := (ld.trans (Le.upd (o := rng 0 m 1 t u v) hrr)).trans (Le.upd (o := lst out k) hD)
  have hdd := Le.upd (o := lst out k) hD _ _ (Le.upd (o := rng 0 m 1 t u v) hrr _ _ (upd_same (σ := σc) (a := d) (o := emptyDict)))
  walk_at "ss"
  refine W_call ((c_vmakeV (kd := .chr) hA upd_same (hr.imp fun _ _ h => h.le (Le.upd hD))).mono fun r σ₈ e => ?_)
  obtain ⟨y', dy, rfl, hy0, hdy0, l8, hvy⟩ := e
  have hd8 := l8 _ _ hdd
  have l18 := l7.trans l8
  refine ⟨_, _, rfl, hd8, fun o4 dm => ?_⟩
  have ld8 : Le σc (upd σ₈ d o4) := l18.upd_r hd
  walk_at "ss"
  have hvo8 := hvo.le ld8
  have hvy8 : VO (upd σ₈ d o4) y' dy D ⟨.chr, ((List.range m).map nmF).map It.str⟩ .none := hvy.off hd8 rfl (by rintro rfl; rw [hdd] at hdy0; cases hdy0)
  refine W_vsetAttrs (v := .ref d) hvo8 fun o5 ho5 hkeep => ?_
  obtain ⟨ox, hox, hcx⟩ := hvo8.dict
  have ndx : d ≠ dx := by
    obtain ⟨o, h, _⟩ := hvo.dict
    rintro rfl; rw [hd] at h; cases h
  have ndy : dx ≠ dy := by
    obtain ⟨o, h, _⟩ := hvo.dict
    rintro rfl; rw [l7 _ _ h] at hdy0; cases hdy0
  have hvy9 := hvy8.off (o' := o5) hox hcx ndy
  refine W_gen (fun σ => σ Fa = some (lst lf kf) ∧ ∃ at4, VecAt σ x V at4 ∧ NM w σ at4 (some ((List.range m).map nmF))) ⟨hkeep _ _ _ (ld8 _ _ hFc), .ref d, ⟨_, _, ho5⟩, _, .inr ⟨d, o4, rfl, hmd, by rw [upd_ne ndx]; exact upd_same, dm⟩, if_neg (by decide +kernel), if_neg (by decide +kernel), y', if_pos rfl, ⟨_, _, hvy9⟩⟩ fun σd ⟨hFd, at4, hxd, hnm⟩ => ?_
  clear hvy9 hvo8 hvy8 ho5 hkeep l18 l7 l8 ld ld8 hr hD hrr hdd hd8 hvy dm hox hvo hFc
  walk_at "ss"
  refine ⟨Nat.le_of_ble_eq_true rfl, fun a1 ha1 => ?_⟩
  walk_at "ss"
  refine W_item (Le.upd ha1 _ _ hFd) (by decide) (by decide) hlf0 ?_
  walk_at "ss"
  refine W_call ((c_order1 (nl := none) hA upd_same (hxd.le (Le.upd ha1)) hoV hVm).mono fun r σ₅ e => ?_)
  obtain ⟨Kp, kl, kk', rfl, hKp, rfl, kp, nkp, hsk⟩ := e
  have hsk : Srt (fun i j => cmpP V i j b true) (kept [(V, b)] m none) kp := hsk
  have klen := hsk.len
  have klt := hsk.lt
  have kz := nkp.length
  have lk5 := (Le.upd (σ := σd) (o := lst [.ref x] 0) ha1).trans (Le.upd (o := lst kl kk') hKp)
  walk_at "s"
  refine W_gen (fun σ => σ Fa = some (lst lf kf) ∧ VecAt σ x V at4 ∧ NM w σ at4 (some ((List.range m).map nmF)) ∧ σ Kp = some (lst kl kk')) ⟨lk5 _ _ hFd, hxd.le lk5, hnm.le lk5, upd_same⟩ fun σe ⟨hFe, hxe, hne4, hKe⟩ => ?_
  clear lk5 hKp hFd hxd hnm ha1
  refine W_sAssign ?_ (hs := swapF he (by kernel_rfl))
  refine W_comp (.free (by walk_at "ld")) rfl rfl (by kernel_rfl) (by kernel_rfl) ?_
  walk_at "ss"
  refine W_range1 fun rr t u v hrr => ?_
  refine ⟨rfl, m, _, _, fun i out σ' => Le σe σ' ∧ NatL (kept [(V, b)] i none) out, itb_rangeN hA.2.2 upd_same (by omega), ⟨Le.upd hrr, .nil⟩, szl (by omega), fun _ _ _ _ => trivial, ?_, ?_⟩
  · rintro i v out σ' g cenv hi ⟨t, rfl⟩ ⟨hle, hr⟩ hlen
    have hi' : i < V.items.length := by omega
    have hx' := hxe.le hle
    have hks := kept_step [(V, b)] i none
    rw [keptP_one] at hks
    refine W_tst1 ?_
    walk_at "ss"
    refine W_vitems hx' fun li l k hl hal => ?_
    obtain ⟨vi, ei, hvi⟩ := at_get hal hi'
    walk_at "ss"
    refine W_itemN hl (by omega) ei ?_
    walk_at "ss"
    by_cases hna : V.at i = .na
    · rw [hna] at hvi hks
      obtain rfl : vi = .none := hvi
      rw [lack_na, Bool.not_true, if_neg (by decide), List.append_nil] at hks
      walk_at "ss"
      refine ⟨rfl, fun e => (nomatch e), fun _ => ⟨hle, ?_⟩⟩
      rw [hks]; exact hr
    · refine W_isNN_it hvi hna ?_
      walk_at "ss"
      refine W_vitems hx' fun li2 l2 k2 hl2 hal2 => ?_
      obtain ⟨vi2, ei2, hvi2⟩ := at_get hal2 hi'
      walk_at "ss"
      refine W_itemN hl2 (by omega) ei2 ?_
      walk_at "ss"
      refine ⟨Nat.le_of_ble_eq_true rfl, fun a ha => ?_⟩
      refine W_neD (hvi2.le (Le.upd ha)).rd (RD.tuple upd_same (.cons .int (.cons .int .nil))) hvi2.shaped rfl hA.units ?_
      rw [tst_eq (hoV.1.at i) hna]
      walk_at "ss"
      refine ⟨fun e => ?_, fun e => ?_⟩
      · rw [e, if_pos rfl] at hks
        walk_at "ss"
        refine ⟨rfl, fun _ => ?_, fun e => nomatch e⟩
        walk_at "ss"
        refine ⟨rfl, hle.trans (Le.upd ha), ?_⟩
        rw [hks]; exact hr.snoc ⟨_, rfl⟩
      · rw [e, if_neg (by decide), List.append_nil] at hks
        refine ⟨rfl, fun e => (nomatch e), fun _ => ⟨hle.trans (Le.upd ha), ?_⟩⟩
        rw [hks]; exact hr
  rintro Th tl3 σf tk3 _ hTh ⟨lef, nth⟩
  have lef' := lef.trans (Le.upd (o := lst tl3 tk3) hTh)
  walk_at "ss"
  refine W_sorted (lef' _ _ hKe) nkp.ints (by omega) fun so sl sn sk hso hsi hsp hsw => ?_
  walk_at "ss"
  refine W_ne_ints upd_same (upd_get hso upd_same) hsi nth.ints hA.units ?_
  rw [decide_eq_true (sorted_nats hsp hsw hsk.1 (kept_sorted _ _ _)), Bool.not_true]
  walk_at "s"
  walk_at "s"
  have leg := lef'.trans (Le.upd (o := lst sl sk) hso)
  refine W_gen (fun σ => σ Fa = some (lst lf kf) ∧ VecAt σ x V at4 ∧ NM w σ at4 (some ((List.range m).map nmF)) ∧ σ Kp = some (lst kl kk') ∧ σ Th = some (lst tl3 tk3)) ⟨leg _ _ hFe, hxe.le leg, hne4.le leg, leg _ _ hKe, upd_get hso upd_same⟩ fun σg ⟨hFg, hxg, hng, hKg, hTg⟩ => ?_
  clear leg lef lef' hso hsi hsp hsw hFe hxe hne4 hKe hrr hTh
  walk_at "ss"
  refine W_item hFg (by decide) (by decide) hlf0 ?_
  walk_at "ss"
  refine W_call ((c_sortv hA hxg hng hoV (fun ss h => by cases h; simp [hVm])).mono fun r σh e => ?_)
  obtain ⟨y2, at5, rr2, rfl, lh, hsr, hvr, hnr⟩ := e
  rw [hVm] at hsr
  obtain rfl : rr2 = kp := Srt.unique (cmpP_po hoV.1 b true) hsr hsk
  rw [Option.map_some, names_eq klt] at hnr
  walk_at "s"
  refine W_gen (fun σ => σ Fa = some (lst lf kf) ∧ VecAt σ x V at4 ∧ NM w σ at4 (some ((List.range m).map nmF)) ∧ σ Kp = some (lst kl kk') ∧ σ Th = some (lst tl3 tk3) ∧ VecAt σ y2 ⟨V.kd, rr2.map V.at⟩ at5 ∧ NM w σ at5 (some (rr2.map nmF))) ⟨lh _ _ hFg, hxg.le lh, hng.le lh, lh _ _ hKg, lh _ _ hTg, hvr, hnr⟩ fun σi ⟨hFi, hxi, hni, hKi, hTi, hyi, hnyi⟩ => ?_
  clear lh hFg hxg hng hKg hTg hvr hnr
  exact c_lawC hA he hm hoV hVm hlf0 hsk nkp nth hFi hxi hni hKi hTi hyi hnyi
end TextMKI
noncomputable section TextMKJ
variable {w : World} {os : OsState} {A : Around} {σ : Led}
theorem c_law {g : Led} {n : Nat} (hA : Ok (n + 10) A) {sc : Addr} {l : List Value} {o : Obj} (hs : g sc = some o) (ho : LObj o l) (hl : AllInt l) (hz : l.length ≤ 1000) : CallWG prg w (Kx w) g os A (.ref 386) [.ref sc] σ fun r σ' => r = .bool true := by
  refine callKG (binds := [(Str.ofString "script", .ref sc)]) (vs := ((some (.ref sc)) :: none :: none :: none :: none :: none :: none :: none :: none :: none :: none :: none :: none :: none :: none :: none :: none :: none :: none :: none :: none :: none :: none :: none :: none :: none :: none :: none :: none :: none :: none :: none :: none :: none :: none :: none :: none :: none :: [])) (ns := ((Str.ofString "script", NameKind.local) :: (Str.ofString "pile", NameKind.local) :: (Str.ofString "many_keys", NameKind.local) :: (Str.ofString "many", NameKind.cell) :: (Str.ofString "keys", NameKind.local) :: (Str.ofString "falls", NameKind.local) :: (Str.ofString "lap", NameKind.local) :: (Str.ofString "told", NameKind.local) :: (Str.ofString "spots", NameKind.cell) :: (Str.ofString "which", NameKind.local) :: (Str.ofString "inner", NameKind.local) :: (Str.ofString "at", NameKind.local) :: (Str.ofString "v", NameKind.cell) :: (Str.ofString "back", NameKind.local) :: (Str.ofString "last", NameKind.local) :: (Str.ofString "up", NameKind.local) :: (Str.ofString "due", NameKind.local) :: (Str.ofString "kept", NameKind.local) :: (Str.ofString "there", NameKind.cell) :: (Str.ofString "row", NameKind.local) :: (Str.ofString "one", NameKind.local) :: (Str.ofString "two", NameKind.local) :: (Str.ofString "ranks", NameKind.cell) :: (Str.ofString "rising", NameKind.local) :: (Str.ofString "_law_pile", NameKind.globalImplicit) :: (Str.ofString "_law_top", NameKind.globalImplicit) :: (Str.ofString "range", NameKind.globalImplicit) :: (Str.ofString "_law_key", NameKind.globalImplicit) :: (Str.ofString "order_by", NameKind.globalImplicit) :: (Str.ofString "sorted", NameKind.globalImplicit) :: (Str.ofString "list", NameKind.globalImplicit) :: (Str.ofString "_law_part", NameKind.globalImplicit) :: (Str.ofString "Vector", NameKind.globalImplicit) :: (Str.ofString "sort_vector", NameKind.globalImplicit) :: (Str.ofString "len", NameKind.globalImplicit) :: (Str.ofString "_law_less", NameKind.globalImplicit) :: (Str.ofString "is_unsorted", NameKind.globalImplicit) :: (Str.ofString "rank_of", NameKind.globalImplicit) :: [])) hA rfl (by kernel_rfl) (fun _ => by kernel_rfl) (by kernel_rfl) (by kernel_rfl) (by kernel_rfl) (by kernel_rfl) rfl fun A env hA he => ?_
  walk_at "ss"
  refine W_callG fun g' hg' => (c_pile hA (hg' _ _ hs) ho hl hz).mono fun r σ₁ e => ?_
  obtain ⟨P, rfl, hP0, -, hP1⟩ := e
  walk_at "ss"
  refine W_call ((c_top hA hP1).mono fun r σ₂ e => ?_)
  obtain ⟨⟨i, _, rfl⟩, -, hP2⟩ := e
  walk_at "ss"
  refine W_mod (by decide) fun _ => ?_
  obtain ⟨a, ha, ea⟩ := fmod_nat i 3 3 rfl (by decide)
  rw [ea]
  refine W_add fun tk => ?_
  rw [show (1 : Int) + (a : Int) = ((1 + a : Nat) : Int) by push_cast; rfl]
  walk_at "ss"
  refine W_call ((c_top hA hP2).mono fun r σ₃ e => ?_)
  obtain ⟨⟨j, _, rfl⟩, -, hP3⟩ := e
  walk_at "ss"
  refine W_mod (by decide) fun tm => ?_
  obtain ⟨m, hm, em⟩ := fmod_nat j 10 10 rfl (by decide)
  rw [em]
  walk_at "ss"
  refine ⟨Nat.zero_le _, fun Ka hKa => ?_⟩
  walk_at "ss"
  refine ⟨Nat.zero_le _, fun Fa hFa => ?_⟩
  have nKP : Ka ≠ P := by
    obtain ⟨_, _, e, _⟩ := hP3
    rintro rfl; rw [hKa] at e; cases e
  have nFK : Fa ≠ Ka := by rintro rfl; rw [upd_same] at hFa; cases hFa
  have nFP : Fa ≠ P := by
    obtain ⟨_, _, e, _⟩ := hP3
    rintro rfl; rw [upd_get hKa e] at hFa; cases hFa
  walk_at "ss"
  generalize hmk : 1 + a = mk
  have hmk1 : 1 ≤ mk := by omega
  have hmk3 : mk ≤ 3 := by omega
  refine W_cons (W_for (n := mk) (P := fun i v => ∃ t, v = .int i t) (S := fun _ => True) (fun i vs σ' => ∃ ks lk kk lf kf lv, PileAt σ' P ∧ σ' Ka = some (lst lk kk) ∧ σ' Fa = some (lst lf kf) ∧ All2 (KR [P, Ka, Fa] m σ') ks lk ∧ All2 (fun V v => v = Value.bool V.2) ks lf ∧ ks.length = i ∧
    vs = ((some (.ref sc)) :: (some (.ref P)) :: (some (.int mk tk)) :: (some (.int m tm)) :: (some (.ref Ka)) :: (some (.ref Fa)) :: lv :: none :: none :: none :: none :: none :: none :: none :: none :: none :: none :: none :: none :: none :: none :: none :: none :: none :: none :: none :: none :: none :: none :: none :: none :: none :: none :: none :: none :: none :: none :: none :: [])) ?_ (fun _ _ _ _ => trivial) ?_ ?_)
  · walk_at "ss"
    refine W_range1 fun r t u v hr => ?_
    exact ⟨itb_rangeN hA.2.2 upd_same (by omega), [], _, _, _, _, _, ((hP3.le (Le.upd hKa)).le (Le.upd hFa)).le (Le.upd hr), upd_get hr (upd_get hFa upd_same), upd_get hr upd_same, .nil, .nil, rfl, rfl⟩
  · rintro i v vs σ' g hi ⟨t, rfl⟩ ⟨ks, lk, kk, lf, kf, lv, hP, hK, hF, hks, hfs, rfl, rfl⟩
    have lz1 := hks.length
    have lz2 := hfs.length
    walk_at "ss"
    refine ⟨_, _, _, rfl, hF, ?_⟩
    walk_at "ss"
    obtain ⟨_, _, ep, _⟩ := id hP
    refine W_call ((c_top hA hP).mono fun r σ₁ e => ?_)
    obtain ⟨⟨x, _, rfl⟩, lx1, hP1⟩ := e
    walk_at "ss"
    refine W_mod (by decide) fun _ => ?_
    walk_at "ss"
    have hF1 := lx1 _ _ nFP hF
    have hK1 := lx1 _ _ nKP hK
    have hks1 := hks.imp fun _ _ h => KR.leX h List.mem_cons_self ep lx1
    refine ⟨_, _, hF1, szl (by omega), ?_⟩
    walk_at "ss"
    have hK2 := fun (o : Obj) => (show upd σ₁ Fa o Ka = some (lst lk kk) from by rw [upd_ne nFK.symm]; exact hK1)
    have hks2 := fun (o : Obj) => hks1.imp fun _ _ h => KR.leX (σ' := upd σ₁ Fa o) h (by simp) hF1 LeX.upd
    refine ⟨_, _, _, rfl, hK2 _, ?_⟩
    walk_at "ss"
    refine W_call ((c_key hA (hP1.set nFP.symm) (by omega)).mono fun r σ₃ e => ?_)
    obtain ⟨x', dx, li, V, rfl, lx3, hP3, hvo, hli, hliP, hok, hm'⟩ := e
    have hF3 := lx3 _ _ nFP upd_same
    have hK3 := lx3 _ _ nKP (hK2 _)
    obtain ⟨_, _, ep1, _⟩ := id hP1
    have hks3 := (hks2 _).imp fun _ _ h => KR.leX h List.mem_cons_self (by rw [upd_ne nFP.symm]; exact ep1) lx3
    refine ⟨_, _, hK3, szl (by omega), ?_⟩
    walk_at "ss"
    have nlK : li ≠ Ka := by rintro rfl; rw [hK2] at hli; cases hli
    have nlF : li ≠ Fa := by rintro rfl; rw [upd_same] at hli; cases hli
    refine ⟨ks ++ [(V, x.fmod 2 == 1)], _, _, _, _, _, hP3.set nKP.symm, upd_same, by rw [upd_ne nFK]; exact hF3, All2.snoc (hks3.imp fun _ _ h => KR.leX h (by simp) hK3 LeX.upd) ⟨x', dx, li, rfl, hvo.leX hK3 nlK LeX.upd, by simp [hliP, nlK, nlF], hok, hm'⟩, hfs.snoc rfl, by simp, rfl⟩
  · rintro vs σ' ⟨ks, lk, kk, lf, kf, lv, hP, hK, hF, hks, hfs, hlen, rfl⟩
    have hkeys : Keys σ' m ks Ka := ⟨by omega, lk, kk, hK, hks.imp fun V v ⟨x, dx, li, e, h1, _, h2, h3⟩ => ⟨x, .none, e, ⟨dx, li, h1⟩, ⟨h2, by omega⟩, h3⟩⟩
    have hflags : Flags σ' ks Fa := ⟨lf, kf, hF, hfs⟩
    have hne : ks ≠ [] := by rintro rfl; simp at hlen; omega
    have hok : ∀ k ∈ ks, VecOk k.1 := fun k hk => by
      obtain ⟨i, hi, rfl⟩ := List.getElem_of_mem hk
      obtain ⟨_, _, _, _, _, _, _, _, h, _⟩ := hks.get (List.getElem?_eq_getElem hi)
      exact h
    have h0 : 0 < ks.length := by omega
    obtain ⟨x, V, b, hlk0, hlf0, hx0, hoV, hVm⟩ : ∃ x V b, lk[0]? = some (.ref x) ∧ lf[0]? = some (.bool b) ∧ VecAt σ' x V .none ∧ VOk V ∧ V.items.length = m := by
      obtain ⟨_, e1, x, dx, li, rfl, h1, _, h2, h3⟩ := hks.get (List.getElem?_eq_getElem h0)
      obtain ⟨_, e2, rfl⟩ := hfs.get (List.getElem?_eq_getElem h0)
      exact ⟨x, _, _, e1, e2, ⟨dx, li, h1⟩, ⟨h2, by omega⟩, h3⟩
    have hK0 := hK
    have hF0 := hF
    clear hks hfs hP hK hF
    walk_at "ss"
    refine W_call ((c_order (nl := some true) hA hkeys hne (.inr ⟨Fa, rfl, hflags⟩)).mono fun r σ₁ e => ?_)
    obtain ⟨T, tl, tk', rfl, hT, rfl, told, nt, hst⟩ := e
    have lT : Le σ' (upd σ' T (lst tl tk')) := Le.upd hT
    rw [kept_some] at hst
    have hst : Srt (fun i j => cmpK ks i j true) (List.range m) told := hst
    have tlen : told.length = m := by have := hst.1.length_eq; simpa using this
    have tz := nt.length
    walk_at "ss"
    refine W_sorted upd_same nt.ints (by omega) fun so sl sn sk hso hsi hsp hsw => ?_
    walk_at "ss"
    refine W_range1 fun rr t u v hrr => ?_
    walk_at "ss"
    refine W_listRange hA.2.2 upd_same (small_one (by decide) (by decide) (by omega) (by omega)) (by have := rsize1 0 m; simpa using this) (by omega) fun ra rl rk hra hrl hri => ?_
    have nra := natl_range hrl hri
    refine W_ne_ints (upd_get hra (upd_get hrr upd_same)) upd_same hsi nra.ints hA.units ?_
    rw [decide_eq_true (sorted_nats hsp hsw hst.1 List.pairwise_lt_range), Bool.not_true]
    walk_at "s"
    walk_at "s"
    refine W_gen (fun σ => Le σ' σ ∧ LN σ T told) ⟨((lT.trans (Le.upd hso)).trans (Le.upd hrr)).trans (Le.upd hra), ⟨_, _, Le.upd hra _ _ (Le.upd hrr _ _ (Le.upd hso _ _ upd_same)), nt⟩⟩ fun σ₂ ⟨l2, hT2⟩ => ?_
    clear hsi hsp hsw hso hrr hri hra nra
    walk_at "ss"
    refine W_range1 fun rr t u v hrr => ?_
    walk_at "ss"
    refine W_listRange hA.2.2 upd_same (small_one (by decide) (by decide) (by omega) (by omega)) (by have := rsize1 0 m; simpa using this) (by omega) fun ra rl rk hra hrl hri => ?_
    have nra := natl_range hrl hri
    walk_at "ss"
    have hcK : ∀ {i j : Nat} (h : i < ks.length), (fun a b => if cmpP ks[i].1 a b ks[i].2 true = 0 then cmpK (ks.drop (i + 1)) a b true else cmpP ks[i].1 a b ks[i].2 true) = fun a b => cmpK (ks.drop i) a b true := fun {i _} h => by
      rw [List.drop_eq_getElem_cons h]; rfl
    refine W_cons (W_for (n := mk) (P := fun i v => ∃ t, v = .int i t) (S := fun _ => True) (fun i vs σ₃ => ∃ S sp lv wv iv, Le σ₂ σ₃ ∧ LN σ₃ S sp ∧ Srt (fun a b => cmpK (ks.drop (mk - i)) a b true) (List.range m) sp ∧
      vs = ((some (.ref sc)) :: (some (.ref P)) :: (some (.int mk tk)) :: (some (.int m tm)) :: (some (.ref Ka)) :: (some (.ref Fa)) :: lv :: (some (.ref T)) :: (some (.ref S)) :: wv :: iv :: none :: none :: none :: none :: none :: none :: none :: none :: none :: none :: none :: none :: none :: none :: none :: none :: none :: none :: none :: none :: none :: none :: none :: none :: none :: none :: none :: [])) ?_ (fun _ _ _ _ => trivial) ?_ ?_)
    · walk_at "ss"
      refine W_range1 fun r t u v hr => ?_
      refine ⟨itb_rangeN hA.2.2 upd_same (by omega), ra, List.range m, _, _, _, (((Le.upd hrr).trans (Le.upd hra)).trans (Le.upd hr)), ⟨_, _, upd_get hr upd_same, nra⟩, ?_, rfl⟩
      rw [← hlen, Nat.sub_zero, List.drop_length]
      refine ⟨.refl _, ?_⟩
      exact List.pairwise_lt_range.imp fun {a b} h => .inr ⟨rfl, h⟩
    · rintro i v vs σ₃ g hi ⟨t, rfl⟩ ⟨S, sp, lv, wv, iv, l3, hS, hsp, rfl⟩
      have lk3 := l2.trans l3
      have hq : mk - 1 - i < ks.length := by omega
      obtain ⟨kz, lk, kk, ek, rk⟩ := hkeys.le lk3
      obtain ⟨lf, kf, ef, rf⟩ := hflags.le lk3
      obtain ⟨_, ex, x, at', rfl, hx, hox, hxm⟩ := rk.get (List.getElem?_eq_getElem hq)
      obtain ⟨_, eb, rfl⟩ := rf.get (List.getElem?_eq_getElem hq)
      have slen : sp.length = m := by have := hsp.1.length_eq; simpa using this
      have slt : ∀ p ∈ sp, p < m := fun p hp => List.mem_range.mp (hsp.1.subset hp)
      walk_at "ss"
      rw [show ((mk : Int) - 1 - (i : Int)) = ((mk - 1 - i : Nat) : Int) by omega]
      refine W_itemN ek (by omega) ex ?_
      walk_at "ss"
      refine W_call ((c_part hA hx hox.2 hS (fun p hp => by rw [hxm]; exact slt p hp) (by omega)).mono fun r σ₄ e => ?_)
      obtain ⟨y, rfl, l4, hy⟩ := e
      walk_at "ss"
      refine ⟨Nat.le_of_ble_eq_true rfl, fun b hb => ?_⟩
      walk_at "ss"
      refine W_itemN (Le.upd hb _ _ (l4 _ _ ef)) (by omega) eb ?_
      walk_at "ss"
      refine W_call ((c_order1 (nl := some true) hA upd_same (hy.le (Le.upd hb)) (part_ok hox (by omega)) (m := m) (by simpa using slen)).mono fun r σ₅ e => ?_)
      obtain ⟨I, il, ik, rfl, hI, rfl, inn, ni, hsi⟩ := e
      rw [kept_some] at hsi
      have hsi : Srt (fun a b => cmpP ⟨ks[mk - 1 - i].1.kd, sp.map ks[mk - 1 - i].1.at⟩ a b ks[mk - 1 - i].2 true) (List.range m) inn := hsi
      have ilen : inn.length = m := by have := hsi.1.length_eq; simpa using this
      have ilt : ∀ p ∈ inn, p < m := fun p hp => List.mem_range.mp (hsi.1.subset hp)
      have iz := ni.length
      have l45 := (l4.trans (Le.upd (o := lst [.ref y] 0) hb)).trans (Le.upd (o := lst il ik) hI)
      have hS' := hS.le l45
      obtain ⟨sl, sk, es, ns'⟩ := id hS'
      have sz := ns'.length
      walk_at "ss"
      refine W_sAssign ?_ (hs := swapF he (by kernel_rfl))
      refine W_comp (.free (by walk_at "ld")) rfl rfl (by kernel_rfl) (by kernel_rfl) ?_
      walk_at "ss"
      refine ⟨rfl, il.length, _, _, fun i out σ' => σ' = upd (upd σ₄ b (lst [.ref y] 0)) I (lst il ik) ∧ NatL ((inn.take i).map fun i => sp.getD i 0) out, itb_list hA.2.2 upd_same, ⟨rfl, by simp; exact .nil⟩, szl (by omega), fun i out σ' h => ⟨ik, by rw [h.1]; exact upd_same⟩, ?_, ?_⟩
      · rintro i v out σ' g cenv hi hv' ⟨rfl, hr⟩ hlen
        refine W_tst0 ⟨rfl, fun _ => ?_, fun e => nomatch e⟩
        obtain ⟨p, ep, t, rfl⟩ := ni.get' hv'
        have hp : p < sp.length := by rw [slen]; exact ilt p (List.mem_of_getElem? ep)
        obtain ⟨v2, e2, hv2⟩ := ns'.get (List.getElem?_eq_getElem hp)
        walk_at "ss"
        refine W_itemN es (by omega) e2 ?_
        refine ⟨rfl, rfl, ?_⟩
        rw [map_take _ ep]
        exact hr.snoc (by rw [List.getD, List.getElem?_eq_getElem hp]; exact hv2)
      · rintro D out σ₆ k _ hD ⟨rfl, hr⟩
        rw [iz, List.take_length] at hr
        walk_at "ss"
        refine ⟨D, _, _, _, _, (l3.trans l45).trans (Le.upd hD), ⟨_, _, upd_same, hr⟩, ?_, rfl⟩
        have e1 : mk - 1 - i + 1 = mk - i := by omega
        have := lsd (c₀ := fun a b => cmpP ks[mk - 1 - i].1 a b ks[mk - 1 - i].2 true) hsp (fun a b ha hb => by
          unfold cmpP
          rw [part_at _ sp (by omega), part_at _ sp (by omega)]) hsi
        rw [← e1, hcK (j := 0) hq] at this
        rw [show mk - (i + 1) = mk - 1 - i by omega]
        exact this
    · rintro vs σ₃ ⟨S, sp, lv, wv, iv, l3, hS, hsp, rfl⟩
      rw [Nat.sub_self, List.drop_zero] at hsp
      obtain rfl : sp = told := Srt.unique (cmpK_po _ hok) hsp hst
      obtain ⟨sl, sk, es, ns'⟩ := id hS
      obtain ⟨tl, tk2, et, nt'⟩ := hT2.le l3
      walk_at "ss"
      refine W_ne_ints es et ns'.ints nt'.ints hA.units ?_
      rw [decide_eq_true rfl, Bool.not_true]
      walk_at "s"
      walk_at "s"
      have l23 := l2.trans l3
      refine W_gen (fun σ => σ Ka = some (lst lk kk) ∧ σ Fa = some (lst lf kf) ∧ VecAt σ x V .none) ⟨l23 _ _ hK0, l23 _ _ hF0, hx0.le l23⟩ fun σa ⟨hKa, hFa, hxa⟩ => ?_
      clear hT2 l2 l3 l23 hS hsp es ns' et nt' hx0 hkeys hflags
      walk_at "ss"
      refine W_item hKa (by decide) (by decide) hlk0 ?_
      iterate 8 walk_at "s"
      refine W_sliceRevC ?_
      walk_at "ss"
      refine W_range1 fun rr t u v hrr => ?_
      walk_at "ss"
      refine W_listRange hA.2.2 upd_same (small_one (by decide) (by decide) (by omega) (by omega)) (by have := rsize1 0 m; simpa using this) (by omega) fun ra rl rk hra hrl hri => ?_
      have nra := natl_range hrl hri
      walk_at "ss"
      refine ⟨ra, _, _, _, rfl, upd_same, szl (by omega), rfl, fun rb hrb => ?_⟩
      have lb := ((Le.upd (σ := σa) (o := rng 0 m 1 t u v) hrr).trans (Le.upd (o := lst rl rk) hra)).trans (Le.upd (o := lst rl.reverse 0) hrb)
      walk_at "ss"
      refine W_call ((c_part hA (hxa.le lb) (by omega) ⟨_, _, upd_same, nra.rev⟩ (fun p hp => by rw [hVm]; simpa using hp) (by simp; omega)).mono fun r σ₄ e => ?_)
      obtain ⟨y, rfl, l4, hy⟩ := e
      have lab := lb.trans l4
      walk_at "s"
      refine W_gen (fun σ => σ Fa = some (lst lf kf) ∧ VecAt σ x V .none ∧ VecAt σ y ⟨V.kd, (List.range m).reverse.map V.at⟩ .none) ⟨lab _ _ hFa, hxa.le lab, hy⟩ fun σb ⟨hFb, hxb, hyb⟩ => ?_
      clear lab lb l4 hy hxa hKa hFa hri hrl nra
      refine W_cons (W_forE ?_)
      walk_at "ss"
      refine ⟨Nat.le_of_ble_eq_true rfl, fun ba hba => ?_⟩
      refine ⟨2, fun i v => [Value.bool true, Value.bool false][i]? = some v, fun σ => ∃ n, σ ba = some (lst [Value.bool true, Value.bool false] n), fun i vs σ' => Le (upd σb ba (lst [Value.bool true, Value.bool false] 0)) σ' ∧ ∃ sv uv dv,
        vs = ((some (.ref sc)) :: (some (.ref P)) :: (some (.int mk tk)) :: (some (.int m tm)) :: (some (.ref Ka)) :: (some (.ref Fa)) :: lv :: (some (.ref T)) :: (some (.ref S)) :: wv :: iv :: none :: (some (.ref x)) :: (some (.ref y)) :: sv :: uv :: dv :: none :: none :: none :: none :: none :: none :: none :: none :: none :: none :: none :: none :: none :: none :: none :: none :: none :: none :: none :: none :: none :: []),
        itb_list hA.2.2 upd_same, ⟨Le.refl, _, _, _, rfl⟩, fun i vs σ' h => ⟨0, h.1 _ _ upd_same⟩, ?_, ?_⟩
      · rintro i v vs σ₅ g hi hv ⟨l5, sv, uv, dv, rfl⟩
        obtain ⟨c, rfl⟩ : ∃ c, v = .bool c := by
          have := List.mem_of_getElem? hv
          rcases List.mem_cons.mp this with h | h
          · exact ⟨_, h⟩
          · rw [List.mem_singleton] at h; exact ⟨_, h⟩
        have l5' := (Le.upd (o := lst [Value.bool true, Value.bool false] 0) hba).trans l5
        have hx5 := hxb.le l5'
        have hy5 := hyb.le l5'
        walk_at "ss"
        refine ⟨Nat.le_of_ble_eq_true rfl, fun a1 ha1 => ?_⟩
        walk_at "ss"
        refine W_call ((c_order1 (nl := some (!c)) hA upd_same (hy5.le (Le.upd ha1)) (part_ok hoV (by simp; omega)) (m := m) (by simp)).mono fun r σ₆ e => ?_)
        obtain ⟨U, ul, uk, rfl, hU, rfl, up, nu, hsu⟩ := e
        rw [kept_some] at hsu
        have hsu : Srt (fun i j => cmpP ⟨V.kd, (List.range m).reverse.map V.at⟩ i j false (!c)) (List.range m) up := hsu
        have ulen : up.length = m := by have := hsu.1.length_eq; simpa using this
        have ult : ∀ p ∈ up, p < m := fun p hp => List.mem_range.mp (hsu.1.subset hp)
        have uz := nu.length
        have l6 := (Le.upd (σ := σ₅) (o := lst [.ref y] 0) ha1).trans (Le.upd (o := lst ul uk) hU)
        walk_at "ss"
        refine W_sAssignComp (.free (by walk_at "ld")) rfl rfl (by kernel_rfl) (by kernel_rfl) ?_ (hsw := swapT he (by kernel_rfl))
        walk_at "ss"
        refine ⟨rfl, ul.length, _, _, fun i out σ' => σ' = upd (upd σ₅ a1 (lst [.ref y] 0)) U (lst ul uk) ∧ NatL ((up.take i).map fun a => m - 1 - a) out, itb_list hA.2.2 upd_same, ⟨rfl, by simp; exact .nil⟩, szl (by omega), fun i out σ' h => ⟨uk, by rw [h.1]; exact upd_same⟩, ?_, ?_⟩
        · rintro i v out σ' g cenv hi hv' ⟨rfl, hr⟩ hlen
          refine W_tst0 ⟨rfl, fun _ => ?_, fun e => nomatch e⟩
          obtain ⟨p, ep, t, rfl⟩ := nu.get' hv'
          have hp := ult p (List.mem_of_getElem? ep)
          walk_at "ss"
          refine ⟨rfl, rfl, ?_⟩
          rw [map_take _ ep]
          exact hr.snoc ⟨_, by congr 1; omega⟩
        · rintro D out σ₇ k _ hD ⟨rfl, hr⟩
          rw [uz, List.take_length] at hr
          have dz := hr.length
          rw [List.length_map] at dz
          walk_at "ss"
          refine W_reverse ?_
          walk_at "ss"
          refine ⟨D, _, _, rfl, upd_same, szl (by omega), fun k' => ?_⟩
          rw [upd_upd]
          have l7 := l6.trans (Le.upd (o := lst out.reverse k') hD)
          walk_at "ss"
          refine ⟨Nat.le_of_ble_eq_true rfl, fun a2 ha2 => ?_⟩
          walk_at "ss"
          refine W_call ((c_order1 (nl := some c) hA upd_same ((hx5.le l7).le (Le.upd ha2)) hoV hVm).mono fun r σ₈ e => ?_)
          obtain ⟨W', wl, wk, rfl, hW, rfl, r2, nr2, hs2⟩ := e
          rw [kept_some] at hs2
          have hs2 : Srt (fun i j => cmpP V i j true c) (List.range m) r2 := hs2
          obtain rfl : r2 = (up.map fun a => m - 1 - a).reverse := Srt.unique (cmpP_po hoV.1 _ _) hs2 (rev_srt hoV.1 hsu)
          walk_at "ss"
          refine W_ne_ints upd_same (upd_get hW (upd_get ha2 upd_same)) nr2.ints (NatL.ints hr.rev) hA.units ?_
          rw [decide_eq_true rfl, Bool.not_true]
          walk_at "ss"
          exact ⟨l5.trans ((l7.trans (Le.upd ha2)).trans (Le.upd hW)), _, _, _, rfl⟩
      · rintro vs σ₅ ⟨l5, sv, uv, dv, rfl⟩
        have l5' := (Le.upd (o := lst [Value.bool true, Value.bool false] 0) hba).trans l5
        walk_at "s"
        refine W_gen (fun σ => σ Fa = some (lst lf kf) ∧ VecAt σ x V .none) ⟨l5' _ _ hFb, hxb.le l5'⟩ fun σc ⟨hFc, hxc⟩ => ?_
        clear l5 l5' hba hxb hyb hFb
        exact c_lawB hA he hm hoV hVm hlf0 hFc hxc
end TextMKJ
noncomputable section TextFIN
theorem finish {w : World} {s₁ : Shared} {mg mb : Str → Option Value} {p : Program} {loose : List Str} {mean : ExcName → Option Value} (KX : (Kx w).In s₁.heap) (T : Top p loose mean mg mb s₁.heap) (hg : s₁.gens = #[]) {fa sc : Addr} {vals : List Value} {xs : List Int}
    (hmg : mg (Str.ofString "law") = some (.ref fa)) (hL : s₁.heap.IsList sc vals.toArray) (hI : IntsAre vals xs) (hz : ¬ (63 : Int) < xs.length) :
    codeAny (model prg w) callerA (.call (.ref fa) ⟨[.ref sc], []⟩) (fun r s' => r = .ok (.ret (.bool true)) ∧ (∀ b o, s₁.heap.get? b = some o → s'.heap.get? b = some o) ∧ s'.os = s₁.os ∧ s'.gens = #[]) s₁ := by
  have h386 := mg_of (n := Str.ofString "law") (v := .ref 386) KX T.g (by kernel_rfl)
  rw [h386] at hmg
  cases hmg
  obtain ⟨o, ho, hc, n, hd⟩ := hL
  have H : Hp (Kx w) s₁.heap.get? (fun _ => none) s₁.os s₁ := ⟨⟨⟨s₁.heap, mg, mb, fun a o e => e, KX, T.g, T.b, T.nolimit, T.builtins⟩⟩, fun a o e => e, (fun a o e => nomatch e), (fun a o e => nomatch e), hg, rfl⟩
  have hA : Ok (100 + 10) callerA := ⟨by decide, by decide, rfl⟩
  have hlen : vals.length = xs.length := hI.length
  exact codeAny_mono (c_law hA ho ⟨hc, n, hd⟩ (IntsAre.all hI) (by omega) s₁ H) fun r s' ⟨v, σ', e, H', q⟩ => ⟨by rw [e, q], H'.keep, H'.os, H'.gens⟩
end TextFIN
end Mine
theorem PySem.Challenge.cw_ov0067_01_holds : PySem.Challenge.rw_ov0067_01.Holds := by
  refine Mine.hd ?_
  k_fill
  intro w s₀ s₁ mg mb G Y fa o pm cd doc dV kV ho hd hcd hD hmg hg args vals as hpre hlay hrd hwl hlo
  have KX := kIn_of Y
  refine Ground.open G ?_
  intro T B D TE TW
  wrow_args hpre hlay hrd hwl hlo
  rename_i xs hs hlay0 hlb hra hl2 as1 as2 sc vs as3 hL ra w1 r0 hI hr hc1 hc2
  refine enter_call ?_
  refine codeAny_mono (Mine.finish KX T hg hmg hL hI hc1) fun r s' e => ?_
  obtain ⟨rfl, hk, hos, hgens⟩ := e
  exact ⟨.inl ⟨.bool true, .bool true, [], rfl, fun _ => rfl, .bool _, by kernel_rfl, fun _ => ⟨List.nodup_nil, fun a h => nomatch h⟩⟩, OldK.of_keep hk, hos, AllBare.of_eq hgens⟩
