import PyProof.Rows.All
import Open.Pieces
import OpenK.KLine
import KE.KIntText
import KE.KIsAll
import KE.KIsBytes
import Wide.BytesRules
import KE.KFromBytes
import KE.IntBitsLaws
import PyProof.StrLawsFrom
import PyProof.StrLawsIdx
import Lean
import PySem.Challenge.RW_pb0465_01
set_option linter.all false
set_option genSizeOf false
set_option genInjectivity false
set_option Elab.async false
set_option maxRecDepth 100000
open PySem PySem.W PyProof.Rows
namespace P465
inductive OT where
  | nil
  | node (v : Option Obj) (l r : OT)
namespace OT
noncomputable def v : OT → Option Obj
  | .nil => none
  | .node v _ _ => v
noncomputable def l : OT → OT
  | .nil => .nil
  | .node _ l _ => l
noncomputable def r : OT → OT
  | .nil => .nil
  | .node _ _ r => r
noncomputable def pk {α : Type} (z o : Bool) (a b c : α) : α := match z with
  | true => a
  | false => match o with
    | true => b
    | false => c
noncomputable def get : OT → Nat → Option Obj
  | .nil, _ => none
  | .node v l r, i => pk (Nat.beq i 0) (Nat.beq (i % 2) 1) v (l.get (i / 2)) (r.get (i / 2))
noncomputable def put (o : Obj) : Nat → OT → Nat → OT
  | 0, _, _ => .nil
  | n + 1, t, i => pk (Nat.beq i 0) (Nat.beq (i % 2) 1) (.node (some o) t.l t.r) (.node t.v (put o n t.l (i / 2)) t.r) (.node t.v t.l (put o n t.r (i / 2)))
theorem pk_same {α : Type} (z o : Bool) (a : α) : pk z o a a a = a := by cases z <;> cases o <;> rfl
theorem get_eq (t : OT) (i : Nat) : t.get i = pk (Nat.beq i 0) (Nat.beq (i % 2) 1) t.v (t.l.get (i / 2)) (t.r.get (i / 2)) := by
  cases t with
  | nil => exact (pk_same ..).symm
  | node v l r => rfl
theorem odd_eq {i a : Nat} (h : Nat.beq (i % 2) 1 = Nat.beq (a % 2) 1) : i % 2 = a % 2 := by
  rcases Nat.mod_two_eq_zero_or_one i with p | p <;> rcases Nat.mod_two_eq_zero_or_one a with q | q <;> rw [p, q] at h ⊢ <;> cases h
theorem half_eq {i a : Nat} (h : Nat.beq (i % 2) 1 = Nat.beq (a % 2) 1) (d : i / 2 = a / 2) : i = a := by
  rw [← Nat.div_add_mod i 2, d, odd_eq h, Nat.div_add_mod]
noncomputable def Fd (o : Obj) (t : OT) (a i : Nat) (x : Obj) : Prop := (i = a ∧ x = o) ∨ (i ≠ a ∧ t.get i = some x)
theorem put_get (o : Obj) (n : Nat) (t : OT) (a i : Nat) : (put o (n + 1) t a).get i = pk (Nat.beq i 0) (Nat.beq (i % 2) 1) (pk (Nat.beq a 0) (Nat.beq (a % 2) 1) (some o) t.v t.v)
    (pk (Nat.beq a 0) (Nat.beq (a % 2) 1) (t.l.get (i / 2)) ((put o n t.l (a / 2)).get (i / 2)) (t.l.get (i / 2))) (pk (Nat.beq a 0) (Nat.beq (a % 2) 1) (t.r.get (i / 2)) (t.r.get (i / 2)) ((put o n t.r (a / 2)).get (i / 2))) := by
  show (pk (Nat.beq a 0) (Nat.beq (a % 2) 1) (node (some o) t.l t.r) (node t.v (put o n t.l (a / 2)) t.r) (node t.v t.l (put o n t.r (a / 2)))).get i = _
  cases Nat.beq a 0 with
  | true => rfl
  | false => cases Nat.beq (a % 2) 1 <;> rfl
theorem pk_r {G N : Prop} {α : Type} {x o v l r l' r' : α} {zi oi za oa : Bool} (h : pk zi oi (pk za oa o v v) (pk za oa l l' l) (pk za oa r r r') = x) (ne0 : (zi = za → False) → N) (ne1 : (oi = oa → False) → N)
    (k : pk zi oi v l r = x → N → G) (z : zi = true → za = true → o = x → G) (il : oi = oa → l' = x → (l = x → N → G) → G) (ir : oi = oa → r' = x → (r = x → N → G) → G) : G := by
  cases zi <;> cases za
  · cases oi <;> cases oa
    · exact ir rfl h k
    · exact k h (ne1 nofun)
    · exact k h (ne1 nofun)
    · exact il rfl h k
  · exact k h (ne0 nofun)
  · exact k (by cases oa <;> exact h) (ne0 nofun)
  · exact z rfl rfl h
theorem get_put (o : Obj) : ∀ (n : Nat) (t : OT) (a i : Nat) (x : Obj), (put o n t a).get i = some x → Fd o t a i x
  | 0, _, _, _, _, h => by cases h
  | n + 1, t, a, i, x, h => by
    have up : ∀ u : OT, Nat.beq (i % 2) 1 = Nat.beq (a % 2) 1 → (put o n u (a / 2)).get (i / 2) = some x → (u.get (i / 2) = some x → i ≠ a → Fd o t a i x) → Fd o t a i x := fun u e d k =>
      (get_put o n u _ _ x d).elim (fun d => .inl ⟨half_eq e d.1, d.2⟩) fun d => k d.2 fun z => d.1 (by rw [z])
    exact pk_r ((put_get ..).symm.trans h) (N := i ≠ a) (fun n e => n (by rw [e])) (fun n e => n (by rw [e])) (fun q n => .inr ⟨n, (get_eq ..).trans q⟩)
      (fun p q e => .inl ⟨(Nat.eq_of_beq_eq_true p).trans (Nat.eq_of_beq_eq_true q).symm, (Option.some.inj e).symm⟩) (up _) (up _)
noncomputable def of (l : List (Addr × Obj)) : OT := l.foldl (fun t p => put p.2 14 t p.1) .nil
end OT
structure OS where
  T : OT
  n : Nat
  C : List Addr
  gens : Array GenState
  drawn : Drawn
  toks : Nat
noncomputable def note (m a : Nat) (C : List Addr) : List Addr := match Nat.blt a m with
  | true => match C.elem a with
    | true => C
    | false => a :: C
  | false => C
structure Ab (T : OT) (n : Nat) (C : List Addr) (m : Nat) (h₀ h : Heap) : Prop where
  size : h.objs.size = n
  low : m ≤ n
  life : h.life = h₀.life
  get : ∀ a o, T.get a = some o → h.objs[a]? = some o
  keep : ∀ a, a < m → a ∉ C → h.objs[a]? = h₀.objs[a]?
inductive KC where
  | ld (a : Addr) (k : Obj → Sem Fin) | up (a : Addr) (f : Obj → Obj) (k : Unit → Sem Fin) | al (o : Obj) (k : Addr → Sem Fin) | la (a : Addr) (k : Option Obj → Sem Fin) | os | c
noncomputable def kc : Sem Fin → KC
  | .load a _ k => .ld a k
  | .update a _ f k => .up a f k
  | .alloc o k => .al o k
  | .loadIfAlive a k => .la a k
  | .os _ _ _ => .os
  | _ => .c
theorem kc.r {P : Sem Fin → KC → Prop} (ld : ∀ a q k, P (.load a q k) (.ld a k)) (up : ∀ a q f k, P (.update a q f k) (.up a f k)) (al : ∀ o k, P (.alloc o k) (.al o k)) (la : ∀ a k, P (.loadIfAlive a k) (.la a k))
    (os : ∀ a b k, P (.os a b k) .os) (ot : ∀ c, kc c = .c → (match c with | .os .. => false | _ => true) = true → P c .c) (c : Sem Fin) : P c (kc c) := by
  cases c with
  | load a q k => exact ld a q k
  | update a q f k => exact up a q f k
  | alloc o k => exact al o k
  | loadIfAlive a k => exact la a k
  | os a b k => exact os a b k
  | _ => exact ot _ rfl rfl
noncomputable def stepK (den : Code → Sem Fin) (stp : (Code → Sem Fin) → Program → World → Shared → Thread → Step) (p : Program) (w : World) (m : Nat) (os : OsState) : KC → OS → Thread → Option (OS × Thread)
  | K, ⟨T, n, C, gens, drawn, toks⟩, ⟨cur, code, pos, stack⟩ => match K with
    | .ld a k => (T.get a).bind fun o => (alive o).bind fun o' => some (⟨T, n, C, gens, drawn, toks⟩, ⟨k o', code, pos, stack⟩)
    | .up a f k => (T.get a).bind fun o => (alive o).bind fun _ => some (⟨OT.put (f o) 14 T a, n, note m a C, gens, drawn, toks⟩, ⟨k (), code, pos, stack⟩)
    | .al o k => some (⟨OT.put o 14 T n, n + 1, C, gens, drawn, toks⟩, ⟨k n, code, pos, stack⟩)
    | .la a k => (T.get a).bind fun o => some (⟨T, n, C, gens, drawn, toks⟩, ⟨k (alive o), code, pos, stack⟩)
    | .os => none
    | .c => match stp den p w ⟨{}, gens, drawn, toks, os⟩ ⟨cur, code, pos, stack⟩ with
      | .go s' t' => some (⟨T, n, C, s'.gens, s'.drawn, s'.toks⟩, t')
      | .halt _ _ => none
noncomputable def stepO (den : Code → Sem Fin) (stp : (Code → Sem Fin) → Program → World → Shared → Thread → Step) (p : Program) (w : World) (m : Nat) (os : OsState) (s : OS) (t : Thread) : Option (OS × Thread) := stepK den stp p w m os (kc t.cur) s t
theorem bindR {α β : Type} {x : Option α} {f : α → Option β} {y : β} {G : Prop} (h : x.bind f = some y) (k : ∀ a, x = some a → f a = some y → G) : G := by
  cases x with
  | none => cases h
  | some a => exact k a rfl h
theorem get?_of {h : Heap} {a : Addr} {o : Obj} (e : h.objs[a]? = some o) : h.get? a = alive o := by
  unfold Heap.get?
  rw [e]
  show (match some o with | some ⟨_, _, .freed, _⟩ => none | o => o) = alive o
  obtain ⟨c, d, dt, sl⟩ := o
  cases dt <;> rfl
theorem lt_of_get {h : Heap} {a : Addr} {o : Obj} (e : h.objs[a]? = some o) : a < h.objs.size := by
  obtain ⟨l, _⟩ := Array.getElem?_eq_some_iff.mp e; exact l
theorem Ab.upd {T : OT} {n : Nat} {C : List Addr} {m : Nat} {h₀ h : Heap} (A : Ab T n C m h₀ h) {a : Addr} {o : Obj} {f : Obj → Obj} (g : T.get a = some o) :
    Ab (OT.put (f o) 14 T a) n (note m a C) m h₀ (h.update a f) := by
  have e := A.get a o g
  have hat : ∀ i, (h.update a f).objs[i]? = if a = i then (h.objs[i]?).map f else h.objs[i]? := fun i => by
    show (h.objs.modify a f)[i]? = _
    rw [Array.getElem?_modify]
  refine ⟨?_, A.low, A.life, fun i x q => ?_, fun i hi hn => ?_⟩
  · show (h.objs.modify a f).size = n
    rw [Array.size_modify]; exact A.size
  · rw [hat]
    rcases OT.get_put _ _ _ _ _ _ q with ⟨rfl, rfl⟩ | ⟨ne, q⟩
    · rw [if_pos rfl, e]; rfl
    · rw [if_neg (Ne.symm ne)]; exact A.get i x q
  · rw [hat]
    have ha : a ≠ i ∧ i ∉ C := by
      unfold note at hn
      cases b : Nat.blt a m with
      | false =>
        rw [b] at hn
        refine ⟨fun z => ?_, hn⟩
        subst z
        rw [show Nat.blt a m = true from Nat.ble_eq_true_of_le hi] at b; cases b
      | true =>
        rw [b] at hn
        cases c : C.elem a with
        | true =>
          rw [c] at hn
          refine ⟨fun z => ?_, hn⟩
          subst z
          exact hn (List.elem_iff.mp c)
        | false =>
          rw [c] at hn
          exact ⟨fun z => hn (by rw [z]; exact .head _), fun z => hn (.tail _ z)⟩
    rw [if_neg ha.1]; exact A.keep i hi ha.2
theorem Ab.alc {T : OT} {n : Nat} {C : List Addr} {m : Nat} {h₀ h : Heap} (A : Ab T n C m h₀ h) (o : Obj) :
    Ab (OT.put o 14 T n) (n + 1) C m h₀ (h.push o) := by
  have hat : ∀ i, (h.push o).objs[i]? = if i = n then some o else h.objs[i]? := fun i => by
    show (h.objs.push o)[i]? = _
    rw [Array.getElem?_push, A.size]
  refine ⟨?_, Nat.le_succ_of_le A.low, A.life, fun i x q => ?_, fun i hi hn => ?_⟩
  · show (h.objs.push o).size = n + 1
    rw [Array.size_push, A.size]
  · rw [hat]
    rcases OT.get_put _ _ _ _ _ _ q with ⟨rfl, rfl⟩ | ⟨ne, q⟩
    · rw [if_pos rfl]
    · rw [if_neg ne]; exact A.get i x q
  · rw [hat, if_neg (Nat.ne_of_lt (Nat.lt_of_lt_of_le hi A.low))]; exact A.keep i hi hn
section
variable {den : Code → Sem Fin} {p : Program} {w : World} {m : Nat} {os : OsState}
noncomputable def Fit (den : Code → Sem Fin) (p : Program) (w : World) (m : Nat) (os : OsState) (h₀ h : Heap) (s : OS) (t : Thread) (s' : OS) (t' : Thread) : Prop :=
  ∃ h', Ab s'.T s'.n s'.C m h₀ h' ∧ step den p w ⟨h, s.gens, s.drawn, s.toks, os⟩ t = .go ⟨h', s'.gens, s'.drawn, s'.toks, os⟩ t'
theorem step_load {h : Heap} {gens : Array GenState} {drawn : Drawn} {toks : Nat} {a : Addr} {q : Option Value} {k : Obj → Sem Fin} {code : Code} {pos : Pos} {stack : List Frame} {o : Obj} (g : h.get? a = some o) :
    step den p w ⟨h, gens, drawn, toks, os⟩ ⟨.load a q k, code, pos, stack⟩ = .go ⟨h, gens, drawn, toks, os⟩ ⟨k o, code, pos, stack⟩ := by simp only [step, g]
theorem step_upd {h : Heap} {gens : Array GenState} {drawn : Drawn} {toks : Nat} {a : Addr} {q : Option Value} {f : Obj → Obj} {k : Unit → Sem Fin} {code : Code} {pos : Pos} {stack : List Frame} {o : Obj} (g : h.get? a = some o) :
    step den p w ⟨h, gens, drawn, toks, os⟩ ⟨.update a q f k, code, pos, stack⟩ = .go ⟨h.update a f, gens, drawn, toks, os⟩ ⟨k (), code, pos, stack⟩ := by simp only [step, g, Option.isSome_some, if_true]
theorem stepO_spec {s s' : OS} {t t' : Thread} {h₀ h : Heap} (e : stepO den step p w m os s t = some (s', t')) (A : Ab s.T s.n s.C m h₀ h) : Fit den p w m os h₀ h s t s' t' := by
  obtain ⟨T, n, C, gens, drawn, toks⟩ := s
  obtain ⟨cur, code, pos, stack⟩ := t
  refine kc.r (P := fun cur K => stepK den step p w m os K ⟨T, n, C, gens, drawn, toks⟩ ⟨cur, code, pos, stack⟩ = some (s', t') → Fit den p w m os h₀ h ⟨T, n, C, gens, drawn, toks⟩ ⟨cur, code, pos, stack⟩ s' t') ?_ ?_ ?_ ?_ ?_ ?_ cur e
  · intro a q k e
    refine bindR e fun o g e => bindR e fun o' al e => ?_
    cases e
    exact ⟨h, A, step_load ((get?_of (A.get a o g)).trans al)⟩
  · intro a q f k e
    refine bindR e fun o g e => bindR e fun o' al e => ?_
    cases e
    exact ⟨h.update a f, A.upd g, step_upd ((get?_of (A.get a o g)).trans al)⟩
  · intro o k e
    cases e
    refine ⟨h.push o, A.alc o, ?_⟩
    show Step.go _ ⟨k h.objs.size, _, _, _⟩ = _
    rw [A.size]
  · intro a k e
    refine bindR e fun o g e => ?_
    cases e
    refine ⟨h, A, ?_⟩
    show Step.go _ ⟨k (h.get? a), _, _, _⟩ = _
    rw [get?_of (A.get a o g)]
  · intro _ _ _ e; cases e
  · intro cur hk ho e
    revert e
    cases q : step den p w ⟨{}, gens, drawn, toks, os⟩ ⟨cur, code, pos, stack⟩ with
    | halt o s => intro e; unfold stepK at e; dsimp only at e; rw [q] at e; cases e
    | go s₀ t₀ =>
      intro e
      unfold stepK at e; dsimp only at e
      rw [q] at e
      cases e
      have z := PySem.W.step_heap (H := h) (fun _ _ _ e => nomatch (congrArg kc e).symm.trans hk) (fun _ _ _ _ e => nomatch (congrArg kc e).symm.trans hk) (fun _ _ e => nomatch (congrArg kc e).symm.trans hk) (fun _ _ e => nomatch (congrArg kc e).symm.trans hk) q
      rw [step_os_same q ho] at z
      exact ⟨h, A, z⟩
end
noncomputable def segRunO (den : Code → Sem Fin) (stp : (Code → Sem Fin) → Program → World → Shared → Thread → Step) (okS : Nat → Option Value → Thread → Bool) (p : Program) (w : World) (n₀ : Nat) (ann : Option Value) (b m : Nat) (os : OsState) : Nat → OS → Thread → Option (Flow × OS × Code × Pos)
  | 0, _, _ => none
  | n + 1, s, t => match endAt b t with
    | some f => some (f, s, t.code, t.pos)
    | none => match okS n₀ ann t with
      | false => none
      | true => (stepO den stp p w m os s t).bind fun r => segRunO den stp okS p w n₀ ann b m os n r.1 r.2
section
variable {tb : String → Option Builtin} {p : Program} {w : World} {n₀ : Nat} {ann : Option Value} {b m : Nat} {os : OsState} {h₀ : Heap}
theorem segRunO_of : ∀ (n : Nat) {s s' : OS} {t : Thread} {f : Flow} {c : Code} {q : Pos} {h : Heap}, segRunO (denote tb) step stepOk p w n₀ ann b m os n s t = some (f, s', c, q) → Ab s.T s.n s.C m h₀ h →
    ∃ h', Ab s'.T s'.n s'.C m h₀ h' ∧ segRun tb p w n₀ ann b n ⟨h, s.gens, s.drawn, s.toks, os⟩ t = some (f, ⟨h', s'.gens, s'.drawn, s'.toks, os⟩, c, q) := by
  intro n
  induction n with
  | zero => intro _ _ _ _ _ _ _ e; cases e
  | succ n ih =>
    intro s s' t f c q h e A
    unfold segRunO at e
    unfold segRun
    revert e
    cases endAt b t with
    | some x => intro e; cases e; exact ⟨h, A, rfl⟩
    | none =>
      cases stepOk n₀ ann t with
      | false => intro e; cases e
      | true =>
        intro e
        refine bindR e fun r hs e => ?_
        obtain ⟨h₂, A₂, e₂⟩ := stepO_spec hs A
        rw [e₂]
        exact ih e A₂
end
noncomputable abbrev pw := PySem.Challenge.pw_pb0465_01
noncomputable abbrev dnF : Code → Sem Fin := Fast.tw11892475500146522536 Fast.tw14364793385576792824
noncomputable abbrev stF := Fast.tw8437177126325714943
noncomputable abbrev okF := Fast.tw6613529449190102663
theorem dnF_eq : denote treeTable = dnF := by rw [Fast.te14364793385576792824, Fast.te11892475500146522536]
theorem stF_eq : @step = stF := Fast.te8437177126325714943
theorem okF_eq : @stepOk = okF := Fast.te6613529449190102663
noncomputable def mEnv : Env := { scope := pw.main.scope, locals := mainNs, globals := mainNs, cells := [], code := .ref 13, frame := some 14 }
noncomputable def cE : Code := .body (behindTheImports pw) mEnv
noncomputable def stAt (i : Nat) : Stmt := pw.main.body[i]?.getD (.Pass ⟨0,0,0,0⟩)
noncomputable def subAt (i j : Nat) : Stmt := match stAt i with | .ClassDef _ _ _ b .. => b[j]?.getD (.Pass ⟨0,0,0,0⟩) | s => s
noncomputable def sts (i n : Nat) : List Stmt := (pw.main.body.drop i).take n
noncomputable def fName : Stmt → Str | .FunctionDef (name := x) .. => x | _ => Str.empty
noncomputable def fArgs : Stmt → Arguments | .FunctionDef (args := x) .. => x | _ => default
noncomputable def fBody : Stmt → List Stmt | .FunctionDef (body := x) .. => x | _ => []
noncomputable def fScope : Stmt → Scope | .FunctionDef (scope := x) .. => x | _ => default
noncomputable def fnO (s : Stmt) (q : Str) (dV pm : Value) (cd : Addr) : Obj :=
  { cls := .type "function", data := .func { name := fName s, qualname := q, params := fArgs s, body := .stmts (fBody s), scope := fScope s, globals := 3, closure := [], defaults := dV, kwdefaults := .none, pyModule := pm, code := .ref cd, builtins := 0 } }
noncomputable def cdO (n q : Str) (t : Nat) (l a : Int) (r u : Nat) : Obj := { cls := (.type "code"), data := .fields #[.str n t, .str q (t + 1), .str "/claim/cut.py" (t + 2), .int l 0, .int a 0, .int 0 0, .int 0 0, .int 3 0, .ref r, .bool true, .int 181 0, .ref (r + 1), .none, .ref (r + 2), .ref (r + 3), .ref (r + 4), .int (Int.ofNat u) 0, .int l 0, .str "/claim/cut.py" (u + 1)] }
noncomputable def cdP (n q : Str) (t : Nat) (l a : Int) (r u : Nat) : Obj := { cls := (.type "code"), data := .fields #[.str n t, .str q (t + 1), .str "/claim/cut.py" (t + 2), .int l 0, .int a 0, .int 0 0, .int 0 0, .int 3 0, .ref r, .bool true, .int 181 0, .ref (r + 1), .none, .none, .none, .ref (r + 2), .int (Int.ofNat u) 0, .int l 0, .str "/claim/cut.py" (u + 1)] }
noncomputable def ent (P : Params) (x : Str) (t : Tok) (v : Value) : DictEntry := ⟨reduceHash (P.strHash x.cps), .str x t, v⟩
noncomputable def g0 (P : Params) (nm : Str) (t : Tok) : List DictEntry := [ent P "__name__" 165 (.str nm t), ent P "__doc__" 166 .none, ent P "__package__" 167 .none, ent P "__loader__" 168 (.builtin "__main__.__loader__#opaque"), ent P "__spec__" 169 .none,
  ent P "__annotations__" 170 (.ref 6), ent P "__builtins__" 171 (.ref 4), ent P "__file__" 173 (.str "/claim/cut.py" 172), ent P "__cached__" 174 .none]
noncomputable def gn (P : Params) : List DictEntry := [ent P "_wall" 193 (.ref 21), ent P "row_of" 202 (.ref 28), ent P "rows_of" 208 (.ref 33), ent P "Node" 235 (.ref 50), ent P "Expr" 251 (.ref 64), ent P "Literal" 283 (.ref 90), ent P "Name" 320 (.ref 116), ent P "Variable" 352 (.ref 142), ent P "Unary" 386 (.ref 168), ent P "Binary" 422 (.ref 194), ent P "Between" 460 (.ref 220), ent P "InList" 496 (.ref 246), ent P "InSelect" 532 (.ref 272), ent P "Exists" 566 (.ref 298), ent P "Scalar" 598 (.ref 324), ent P "Case" 633 (.ref 348), ent P "Call" 671 (.ref 374), ent P "Cast" 705 (.ref 400), ent P "Collate" 739 (.ref 426), ent P "IsNull" 773 (.ref 452), ent P "Match" 814 (.ref 478), ent P "Insert" 853 (.ref 504), ent P "Update" 890 (.ref 528), ent P "Delete" 924 (.ref 554), ent P "PagebaseError" 955 (.ref 573), ent P "SqlError" 971 (.ref 586), ent P "ParseError" 998 (.ref 605), ent P "QUOTES" 1002 (.str "'\"`[" 1001), ent P "BLANKS" 1004 (.str " \t\n\x0d\x0c" 1003), ent P "FIGURES" 1006 (.str "0123456789" 1005), ent P "HEX_FIGURES" 1008 (.str "0123456789abcdefABCDEF" 1007), ent P "LETTERS" 1010 (.str "abcdefghijklmnopqrstuvwxyzABCDEFGHIJKLMNOPQRSTUVWXYZ_" 1009), ent P "NAME_SIGNS" 1014 (.str "abcdefghijklmnopqrstuvwxyzABCDEFGHIJKLMNOPQRSTUVWXYZ_0123456789$" 1013), ent P "SIGNS_OF_TWO" 1023 (.ref 608), ent P "SIGNS_OF_ONE" 1025 (.str "(),.;+-*/%=<>&|~" 1024), ent P "LIKE_SIGNS" 1032 (.ref 609), ent P "MOST_VARIABLE" 1034 (.int 999 1033), ent P "GREATEST" 1038 (.int 9223372036854775808 1037), ent P "RESERVED" 1097 (.ref 610), ent P "JOINING" 1106 (.ref 611), ent P "folded" 1112 (.ref 616), ent P "begins_name" 1119 (.ref 623), ent P "goes_on_name" 1126 (.ref 630), ent P "Word" 1198 (.ref 682), ent P "Scanner" 1353 (.ref 787), ent P "read_words" 1360 (.ref 798), ent P "QUOTED_ALWAYS" 1390 (.ref 799), ent P "is_bare" 1399 (.ref 806), ent P "write_name" 1406 (.ref 813), ent P "write_names" 1412 (.ref 818), ent P "write_value" 1419 (.ref 825), ent P "write_type" 1427 (.ref 832), ent P "ChangeWriter" 1499 (.ref 882), ent P "read_type" 1510 (.ref 893), ent P "read_size" 1518 (.ref 900), ent P "read_names" 1526 (.ref 907), ent P "LOWEST" 1530 (.int 1 1529), ent P "NOT_LEVEL" 1532 (.int 3 1531), ent P "EQUAL_LEVEL" 1534 (.int 4 1533), ent P "LESS_LEVEL" 1536 (.int 5 1535), ent P "SIGN_LEVELS" 1585 (.ref 908), ent P "KEY_LEVELS" 1619 (.ref 909), ent P "BEHIND_NOT" 1625 (.ref 910), ent P "AHEAD_SIGNS" 1629 (.ref 911), ent P "ExpressionReader" 1801 (.ref 1034), ent P "COLLATE_LEVEL" 1805 (.int 10 1804), ent P "AHEAD_LEVEL" 1807 (.int 11 1806), ent P "ALONE_LEVEL" 1809 (.int 12 1808), ent P "level_of" 1816 (.ref 1045), ent P "ExpressionWriter" 1904 (.ref 1103), ent P "CONFLICTS" 1912 (.ref 1108), ent P "ChangeReader" 1990 (.ref 1160), ent P "MOST_DEPTH" 1994 (.int 50 1993), ent P "WordStream" 2149 (.ref 1293), ent P "_law_pool" 2162 (.ref 1304), ent P "_law_take" 2171 (.ref 1311), ent P "_law_one" 2179 (.ref 1318), ent P "_law_name" 2187 (.ref 1325), ent P "_law_value" 2204 (.ref 1332), ent P "_law_where" 2213 (.ref 1339), ent P "_law_conflict" 2221 (.ref 1346), ent P "_law_insert" 2227 (.ref 1351), ent P "_law_update" 2247 (.ref 1358), ent P "_law_delete" 2258 (.ref 1365), ent P "_law_read" 2269 (.ref 1372), ent P "law" 2275 (.ref 1377)]
noncomputable def tb12 : List Value := [.int 1 0, .int 0 0, .ref 20, .int 5 0, .int 0 0, .ref 27, .int 7 0, .int 0 0, .ref 32, .int 9 0, .int 0 0, .ref 39, .int 13 0, .int 0 0, .ref 60, .int 15 0, .int 0 0, .ref 72, .int 26 0, .int 0 0, .ref 98, .int 37 0, .int 0 0, .ref 124, .int 44 0, .int 0 0, .ref 150, .int 52 0, .int 0 0, .ref 176, .int 61 0, .int 0 0, .ref 202, .int 71 0, .int 0 0, .ref 228, .int 80 0, .int 0 0, .ref 254, .int 89 0, .int 0 0, .ref 280, .int 97 0, .int 0 0, .ref 306, .int 104 0, .int 0 0, .ref 332, .int 114 0, .int 0 0, .ref 356, .int 124 0, .int 0 0, .ref 382, .int 132 0, .int 0 0, .ref 408, .int 140 0, .int 0 0, .ref 434, .int 148 0, .int 0 0, .ref 460, .int 160 0, .int 0 0, .ref 486, .int 171 0, .int 0 0, .ref 512, .int 182 0, .int 0 0, .ref 536, .int 191 0, .int 0 0, .ref 562, .int 195 0, .int 0 0, .ref 582, .int 197 0, .int 0 0, .ref 594, .int 216 0, .int 0 0, .ref 615, .int 220 0, .int 0 0, .ref 622, .int 222 0, .int 0 0, .ref 629, .int 224 0, .int 0 0, .ref 636, .int 246 0, .int 0 0, .ref 692, .int 379 0, .int 0 0, .ref 797, .int 383 0, .int 0 0, .ref 805, .int 393 0, .int 0 0, .ref 812, .int 395 0, .int 0 0, .ref 817, .int 397 0, .int 0 0, .ref 824, .int 405 0, .int 0 0, .ref 831, .int 411 0, .int 0 0, .ref 838, .int 441 0, .int 0 0, .ref 892, .int 455 0, .int 0 0, .ref 899, .int 464 0, .int 0 0, .ref 906, .int 480 0, .int 0 0, .ref 917, .int 673 0, .int 0 0, .ref 1044, .int 687 0, .int 0 0, .ref 1051, .int 764 0, .int 0 0, .ref 1114, .int 818 0, .int 0 0, .ref 1170, .int 890 0, .int 0 0, .ref 1303, .int 897 0, .int 0 0, .ref 1310, .int 904 0, .int 0 0, .ref 1317, .int 906 0, .int 0 0, .ref 1324, .int 909 0, .int 0 0, .ref 1331, .int 927 0, .int 0 0, .ref 1338, .int 932 0, .int 0 0, .ref 1345, .int 935 0, .int 0 0, .ref 1350, .int 943 0, .int 0 0, .ref 1357, .int 954 0, .int 0 0, .ref 1364, .int 958 0, .int 0 0, .ref 1371, .int 971 0, .int 0 0, .ref 1376]
noncomputable def G (P : Params) (nm : Str) (t : Tok) (k e : Nat) : Obj := { cls := .type "dict", data := .dict (g0 P nm t ++ (gn P).take k).toArray e }
noncomputable def T12 (k : Nat) : Obj := { cls := .none, data := .fields (tb12.take (3 * k)).toArray }
noncomputable def o4 : Obj := { cls := .type "module", dict := some 0 }
noncomputable def o13 : Obj := { cls := .type "code", data := .fields #[.str "<module>" 182, .str "<module>" 183, .str "/claim/cut.py" 184, .int 1 0, .int 0 0, .int 0 0, .int 0 0, .int 0 0, .ref 11, .bool false, .int 181 0, .ref 12, .none, .none, .none, .none, .int 185 0, .int 1 0, .str "/claim/cut.py" 186] }
noncomputable def runAt (w : World) (os : OsState) (i n fuel : Nat) (pos : Pos) (l : List (Addr × Obj)) (sz t : Nat) :=
  segRunO dnF (@stF) okF pw w 11 (some (.ref 6)) 1 sz os fuel ⟨OT.of l, sz, [], #[], {}, t⟩ (piecesOf (sts i n) mEnv cE pos [topFrame ⟨0,0,0,0⟩])
noncomputable def see (D as : List Addr) (r : Option (Flow × OS × Code × Pos)) : Option (Flow × Nat × Bool × Array GenState × Drawn × Nat × Code × Pos × List (Option Obj)) := match r with
  | some (f, s, c, q) => some (f, s.n, s.C.all D.elem, s.gens, s.drawn, s.toks, c, q, as.map s.T.get)
  | none => none
noncomputable abbrev dyn : List Addr := [2, 3, 12, 50, 64, 573, 586]
noncomputable abbrev RS (w : World) (os : OsState) (i n st : Nat) (p : Pos) (l : List (Addr × Obj)) (sz t : Nat) (l' : List (Addr × Obj)) (sz' t' : Nat) (p' : Pos) : Prop :=
  see dyn (l'.map (·.1)) (runAt w os i n st p l sz t) = some (.next, sz', true, #[], {}, t', cE, p', l'.map fun p => some p.2)
noncomputable abbrev x0 : Addr × Obj := (2, { cls := .none, data := .dict #[] 0 })
noncomputable abbrev x1 (P : Params) : Addr × Obj := (49, { cls := (.type "dict"), data := .dict #[ent P "__module__" 216 (.str "pagebase.nodes" 194), ent P "__firstlineno__" 220 (.int 9 219), ent P "row" 227 (.ref 47), ent P "__static_attributes__" 228 (.ref 48), ent P "__dict__" 230 (.ref 51), ent P "__weakref__" 232 (.ref 52), ent P "__doc__" 233 .none] 4 })
noncomputable abbrev x2 : Addr × Obj := (50, { cls := (.type "type"), slots := #[none, none, some (.str "Node" 209), some (.str "Node" 217), some (.builtin "object.__new__"), some (.bool true)], data := .cls { name := "Node", bases := [.type "object"], mro := [.ref 50, .type "object"], ns := 49, qualname := "Node", hasDict := true, subclasses := [.ref 64], hasDel := false } })
noncomputable abbrev x3 (P : Params) : Addr × Obj := (63, { cls := (.type "dict"), data := .dict #[ent P "__module__" 243 (.str "pagebase.nodes" 194), ent P "__firstlineno__" 247 (.int 13 246), ent P "__static_attributes__" 248 (.ref 62), ent P "__doc__" 249 .none] 2 })
noncomputable abbrev x4 : Addr × Obj := (64, { cls := (.type "type"), slots := #[some (.ref 55), none, some (.str "Expr" 236), some (.str "Expr" 244), some (.builtin "object.__new__"), some (.bool true)], data := .cls { name := "Expr", bases := [.ref 50], mro := [.ref 64, .ref 50, .type "object"], ns := 63, qualname := "Expr", hasDict := true, subclasses := [.ref 90, .ref 116, .ref 142, .ref 168, .ref 194, .ref 220, .ref 246, .ref 272, .ref 298, .ref 324, .ref 348, .ref 374, .ref 400, .ref 426, .ref 452, .ref 478], hasDel := false } })
noncomputable abbrev x5 : Addr × Obj := (50, { cls := (.type "type"), slots := #[none, none, some (.str "Node" 209), some (.str "Node" 217), some (.builtin "object.__new__"), some (.bool true)], data := .cls { name := "Node", bases := [.type "object"], mro := [.ref 50, .type "object"], ns := 49, qualname := "Node", hasDict := true, subclasses := [.ref 64, .ref 504, .ref 528, .ref 554], hasDel := false } })
noncomputable abbrev x6 (P : Params) : Addr × Obj := (2, { cls := .none, data := .dict #[ent P "type.__subclasses__.Exception.0" 952 (.int 573 0), ent P "type.__subclasses__.Exception.n" 953 (.int 1 0)] 2 })
noncomputable abbrev x7 (P : Params) : Addr × Obj := (572, { cls := (.type "dict"), data := .dict #[ent P "__module__" 934 (.str "pagebase.errors" 925), ent P "__firstlineno__" 938 (.int 191 937), ent P "__init__" 946 (.ref 570), ent P "__static_attributes__" 948 (.ref 571), ent P "__weakref__" 950 (.ref 574), ent P "__doc__" 951 .none] 3 })
noncomputable abbrev x8 : Addr × Obj := (573, { cls := (.type "type"), slots := #[some (.ref 557), none, some (.str "PagebaseError" 927), some (.str "PagebaseError" 935), some (.builtin "Exception.__new__"), some (.bool true)], data := .cls { name := "PagebaseError", bases := [.type "Exception"], mro := [.ref 573, .type "Exception", .type "BaseException", .type "object"], ns := 572, qualname := "PagebaseError", hasDict := true, subclasses := [.ref 586], hasDel := false } })
noncomputable abbrev x9 (P : Params) : Addr × Obj := (585, { cls := (.type "dict"), data := .dict #[ent P "__module__" 963 (.str "pagebase.errors" 925), ent P "__firstlineno__" 967 (.int 195 966), ent P "__static_attributes__" 968 (.ref 584), ent P "__doc__" 969 .none] 2 })
noncomputable abbrev x10 : Addr × Obj := (586, { cls := (.type "type"), slots := #[some (.ref 577), none, some (.str "SqlError" 956), some (.str "SqlError" 964), some (.builtin "Exception.__new__"), some (.bool true)], data := .cls { name := "SqlError", bases := [.ref 573], mro := [.ref 586, .ref 573, .type "Exception", .type "BaseException", .type "object"], ns := 585, qualname := "SqlError", hasDict := true, subclasses := [.ref 605], hasDel := false } })
noncomputable def kn0 (P : Params) : List (Addr × Obj) := [x0, (3, G P "__main__" 164 0 9), (12, T12 0), (0, boot_o_0 P), (1, boot_o_1 P), (4, o4), (13, o13)]
noncomputable def kn1 (P : Params) : List (Addr × Obj) := [x0, (3, G P "pagebase.nodes" 194 3 12), (12, T12 3), (0, boot_o_0 P), (1, boot_o_1 P), (4, o4), (13, o13)]
noncomputable def ks1 (P : Params) : List (Addr × Obj) := [(28, fnO (stAt 2) "row_of" .none (.str "pagebase.nodes" 194) 27), (27, cdO "row_of" "row_of" 196 5 1 22 200)]
noncomputable def kn2 (P : Params) : List (Addr × Obj) := [x0, (3, G P "pagebase.nodes" 194 4 13), (12, T12 4), (50, { cls := (.type "type"), slots := #[none, none, some (.str "Node" 209), some (.str "Node" 217), some (.builtin "object.__new__"), some (.bool true)], data := .cls { name := "Node", bases := [.type "object"], mro := [.ref 50, .type "object"], ns := 49, qualname := "Node", hasDict := true, subclasses := [], hasDel := false } }), (0, boot_o_0 P), (1, boot_o_1 P), (4, o4), (13, o13), x1 P]
noncomputable def ks2 (P : Params) : List (Addr × Obj) := [x1 P]
noncomputable def kn3 (P : Params) : List (Addr × Obj) := [x0, (3, G P "pagebase.nodes" 194 5 14), (12, T12 5), x2, (64, { cls := (.type "type"), slots := #[some (.ref 55), none, some (.str "Expr" 236), some (.str "Expr" 244), some (.builtin "object.__new__"), some (.bool true)], data := .cls { name := "Expr", bases := [.ref 50], mro := [.ref 64, .ref 50, .type "object"], ns := 63, qualname := "Expr", hasDict := true, subclasses := [], hasDel := false } }), (0, boot_o_0 P), (1, boot_o_1 P), (4, o4), (13, o13), x1 P, x3 P]
noncomputable def ks3 (P : Params) : List (Addr × Obj) := [x3 P]
noncomputable def kn4 (P : Params) : List (Addr × Obj) := [x0, (3, G P "pagebase.nodes" 194 6 15), (12, T12 6), x2, (64, { cls := (.type "type"), slots := #[some (.ref 55), none, some (.str "Expr" 236), some (.str "Expr" 244), some (.builtin "object.__new__"), some (.bool true)], data := .cls { name := "Expr", bases := [.ref 50], mro := [.ref 64, .ref 50, .type "object"], ns := 63, qualname := "Expr", hasDict := true, subclasses := [.ref 90], hasDel := false } }), (0, boot_o_0 P), (1, boot_o_1 P), (4, o4), (13, o13), x1 P, x3 P]
noncomputable def ks4 (P : Params) : List (Addr × Obj) := [(80, fnO (subAt 6 0) "Literal.__init__" .none (.str "pagebase.nodes" 194) 79), (79, cdO "__init__" "Literal.__init__" 264 17 2 74 269), (87, fnO (subAt 6 1) "Literal.row" .none (.str "pagebase.nodes" 194) 86), (86, cdO "row" "Literal.row" 272 20 1 81 276), (90, { cls := (.type "type"), slots := #[some (.ref 67), none, some (.str "Literal" 252), some (.str "Literal" 260), some (.builtin "object.__new__"), some (.bool true)], data := .cls { name := "Literal", bases := [.ref 64], mro := [.ref 90, .ref 64, .ref 50, .type "object"], ns := 89, qualname := "Literal", hasDict := true, subclasses := [], hasDel := false } }), (89, { cls := (.type "dict"), data := .dict #[ent P "__module__" 259 (.str "pagebase.nodes" 194), ent P "__firstlineno__" 263 (.int 15 262), ent P "__init__" 271 (.ref 80), ent P "row" 278 (.ref 87), ent P "__static_attributes__" 280 (.ref 88), ent P "__doc__" 281 .none] 2 })]
noncomputable def kn5 (P : Params) : List (Addr × Obj) := [x0, (3, G P "pagebase.nodes" 194 7 16), (12, T12 7), x2, (64, { cls := (.type "type"), slots := #[some (.ref 55), none, some (.str "Expr" 236), some (.str "Expr" 244), some (.builtin "object.__new__"), some (.bool true)], data := .cls { name := "Expr", bases := [.ref 50], mro := [.ref 64, .ref 50, .type "object"], ns := 63, qualname := "Expr", hasDict := true, subclasses := [.ref 90, .ref 116], hasDel := false } }), (0, boot_o_0 P), (1, boot_o_1 P), (4, o4), (13, o13), x1 P, x3 P]
noncomputable def ks5 (P : Params) : List (Addr × Obj) := [(106, fnO (subAt 7 0) "Name.__init__" .none (.str "pagebase.nodes" 194) 105), (105, cdO "__init__" "Name.__init__" 296 28 3 100 302), (113, fnO (subAt 7 1) "Name.row" .none (.str "pagebase.nodes" 194) 112), (112, cdO "row" "Name.row" 305 35 1 107 309), (116, { cls := (.type "type"), slots := #[some (.ref 93), none, some (.str "Name" 284), some (.str "Name" 292), some (.builtin "object.__new__"), some (.bool true)], data := .cls { name := "Name", bases := [.ref 64], mro := [.ref 116, .ref 64, .ref 50, .type "object"], ns := 115, qualname := "Name", hasDict := true, subclasses := [], hasDel := false } }), (115, { cls := (.type "dict"), data := .dict #[ent P "__module__" 291 (.str "pagebase.nodes" 194), ent P "__firstlineno__" 295 (.int 26 294), ent P "__init__" 304 (.ref 106), ent P "row" 311 (.ref 113), ent P "__static_attributes__" 317 (.ref 114), ent P "__doc__" 318 .none] 2 })]
noncomputable def kn6 (P : Params) : List (Addr × Obj) := [x0, (3, G P "pagebase.nodes" 194 8 17), (12, T12 8), x2, (64, { cls := (.type "type"), slots := #[some (.ref 55), none, some (.str "Expr" 236), some (.str "Expr" 244), some (.builtin "object.__new__"), some (.bool true)], data := .cls { name := "Expr", bases := [.ref 50], mro := [.ref 64, .ref 50, .type "object"], ns := 63, qualname := "Expr", hasDict := true, subclasses := [.ref 90, .ref 116, .ref 142], hasDel := false } }), (0, boot_o_0 P), (1, boot_o_1 P), (4, o4), (13, o13), x1 P, x3 P]
noncomputable def ks6 (P : Params) : List (Addr × Obj) := [(142, { cls := (.type "type"), slots := #[some (.ref 119), none, some (.str "Variable" 321), some (.str "Variable" 329), some (.builtin "object.__new__"), some (.bool true)], data := .cls { name := "Variable", bases := [.ref 64], mro := [.ref 142, .ref 64, .ref 50, .type "object"], ns := 141, qualname := "Variable", hasDict := true, subclasses := [], hasDel := false } }), (141, { cls := (.type "dict"), data := .dict #[ent P "__module__" 328 (.str "pagebase.nodes" 194), ent P "__firstlineno__" 332 (.int 37 331), ent P "__init__" 340 (.ref 132), ent P "row" 347 (.ref 139), ent P "__static_attributes__" 349 (.ref 140), ent P "__doc__" 350 .none] 2 })]
noncomputable def kn7 (P : Params) : List (Addr × Obj) := [x0, (3, G P "pagebase.nodes" 194 9 18), (12, T12 9), x2, (64, { cls := (.type "type"), slots := #[some (.ref 55), none, some (.str "Expr" 236), some (.str "Expr" 244), some (.builtin "object.__new__"), some (.bool true)], data := .cls { name := "Expr", bases := [.ref 50], mro := [.ref 64, .ref 50, .type "object"], ns := 63, qualname := "Expr", hasDict := true, subclasses := [.ref 90, .ref 116, .ref 142, .ref 168], hasDel := false } }), (0, boot_o_0 P), (1, boot_o_1 P), (4, o4), (13, o13), x1 P, x3 P]
noncomputable def ks7 (P : Params) : List (Addr × Obj) := [(168, { cls := (.type "type"), slots := #[some (.ref 145), none, some (.str "Unary" 353), some (.str "Unary" 361), some (.builtin "object.__new__"), some (.bool true)], data := .cls { name := "Unary", bases := [.ref 64], mro := [.ref 168, .ref 64, .ref 50, .type "object"], ns := 167, qualname := "Unary", hasDict := true, subclasses := [], hasDel := false } }), (167, { cls := (.type "dict"), data := .dict #[ent P "__module__" 360 (.str "pagebase.nodes" 194), ent P "__firstlineno__" 364 (.int 44 363), ent P "__init__" 373 (.ref 158), ent P "row" 380 (.ref 165), ent P "__static_attributes__" 383 (.ref 166), ent P "__doc__" 384 .none] 2 })]
noncomputable def kn8 (P : Params) : List (Addr × Obj) := [x0, (3, G P "pagebase.nodes" 194 10 19), (12, T12 10), x2, (64, { cls := (.type "type"), slots := #[some (.ref 55), none, some (.str "Expr" 236), some (.str "Expr" 244), some (.builtin "object.__new__"), some (.bool true)], data := .cls { name := "Expr", bases := [.ref 50], mro := [.ref 64, .ref 50, .type "object"], ns := 63, qualname := "Expr", hasDict := true, subclasses := [.ref 90, .ref 116, .ref 142, .ref 168, .ref 194], hasDel := false } }), (0, boot_o_0 P), (1, boot_o_1 P), (4, o4), (13, o13), x1 P, x3 P]
noncomputable def ks8 (P : Params) : List (Addr × Obj) := [(184, fnO (subAt 10 0) "Binary.__init__" .none (.str "pagebase.nodes" 194) 183), (183, cdO "__init__" "Binary.__init__" 399 54 4 178 406), (191, fnO (subAt 10 1) "Binary.row" .none (.str "pagebase.nodes" 194) 190), (190, cdO "row" "Binary.row" 409 59 1 185 413), (194, { cls := (.type "type"), slots := #[some (.ref 171), none, some (.str "Binary" 387), some (.str "Binary" 395), some (.builtin "object.__new__"), some (.bool true)], data := .cls { name := "Binary", bases := [.ref 64], mro := [.ref 194, .ref 64, .ref 50, .type "object"], ns := 193, qualname := "Binary", hasDict := true, subclasses := [], hasDel := false } }), (193, { cls := (.type "dict"), data := .dict #[ent P "__module__" 394 (.str "pagebase.nodes" 194), ent P "__firstlineno__" 398 (.int 52 397), ent P "__init__" 408 (.ref 184), ent P "row" 415 (.ref 191), ent P "__static_attributes__" 419 (.ref 192), ent P "__doc__" 420 .none] 2 })]
noncomputable def kn9 (P : Params) : List (Addr × Obj) := [x0, (3, G P "pagebase.nodes" 194 11 20), (12, T12 11), x2, (64, { cls := (.type "type"), slots := #[some (.ref 55), none, some (.str "Expr" 236), some (.str "Expr" 244), some (.builtin "object.__new__"), some (.bool true)], data := .cls { name := "Expr", bases := [.ref 50], mro := [.ref 64, .ref 50, .type "object"], ns := 63, qualname := "Expr", hasDict := true, subclasses := [.ref 90, .ref 116, .ref 142, .ref 168, .ref 194, .ref 220], hasDel := false } }), (0, boot_o_0 P), (1, boot_o_1 P), (4, o4), (13, o13), x1 P, x3 P]
noncomputable def ks9 (P : Params) : List (Addr × Obj) := [(220, { cls := (.type "type"), slots := #[some (.ref 197), none, some (.str "Between" 423), some (.str "Between" 431), some (.builtin "object.__new__"), some (.bool true)], data := .cls { name := "Between", bases := [.ref 64], mro := [.ref 220, .ref 64, .ref 50, .type "object"], ns := 219, qualname := "Between", hasDict := true, subclasses := [], hasDel := false } }), (219, { cls := (.type "dict"), data := .dict #[ent P "__module__" 430 (.str "pagebase.nodes" 194), ent P "__firstlineno__" 434 (.int 61 433), ent P "__init__" 445 (.ref 210), ent P "row" 452 (.ref 217), ent P "__static_attributes__" 457 (.ref 218), ent P "__doc__" 458 .none] 2 })]
noncomputable def kn10 (P : Params) : List (Addr × Obj) := [x0, (3, G P "pagebase.nodes" 194 12 21), (12, T12 12), x2, (64, { cls := (.type "type"), slots := #[some (.ref 55), none, some (.str "Expr" 236), some (.str "Expr" 244), some (.builtin "object.__new__"), some (.bool true)], data := .cls { name := "Expr", bases := [.ref 50], mro := [.ref 64, .ref 50, .type "object"], ns := 63, qualname := "Expr", hasDict := true, subclasses := [.ref 90, .ref 116, .ref 142, .ref 168, .ref 194, .ref 220, .ref 246], hasDel := false } }), (0, boot_o_0 P), (1, boot_o_1 P), (4, o4), (13, o13), x1 P, x3 P]
noncomputable def ks10 (P : Params) : List (Addr × Obj) := [(246, { cls := (.type "type"), slots := #[some (.ref 223), none, some (.str "InList" 461), some (.str "InList" 469), some (.builtin "object.__new__"), some (.bool true)], data := .cls { name := "InList", bases := [.ref 64], mro := [.ref 246, .ref 64, .ref 50, .type "object"], ns := 245, qualname := "InList", hasDict := true, subclasses := [], hasDel := false } }), (245, { cls := (.type "dict"), data := .dict #[ent P "__module__" 468 (.str "pagebase.nodes" 194), ent P "__firstlineno__" 472 (.int 71 471), ent P "__init__" 482 (.ref 236), ent P "row" 489 (.ref 243), ent P "__static_attributes__" 493 (.ref 244), ent P "__doc__" 494 .none] 2 })]
noncomputable def kn11 (P : Params) : List (Addr × Obj) := [x0, (3, G P "pagebase.nodes" 194 13 22), (12, T12 13), x2, (64, { cls := (.type "type"), slots := #[some (.ref 55), none, some (.str "Expr" 236), some (.str "Expr" 244), some (.builtin "object.__new__"), some (.bool true)], data := .cls { name := "Expr", bases := [.ref 50], mro := [.ref 64, .ref 50, .type "object"], ns := 63, qualname := "Expr", hasDict := true, subclasses := [.ref 90, .ref 116, .ref 142, .ref 168, .ref 194, .ref 220, .ref 246, .ref 272], hasDel := false } }), (0, boot_o_0 P), (1, boot_o_1 P), (4, o4), (13, o13), x1 P, x3 P]
noncomputable def ks11 (P : Params) : List (Addr × Obj) := [(272, { cls := (.type "type"), slots := #[some (.ref 249), none, some (.str "InSelect" 497), some (.str "InSelect" 505), some (.builtin "object.__new__"), some (.bool true)], data := .cls { name := "InSelect", bases := [.ref 64], mro := [.ref 272, .ref 64, .ref 50, .type "object"], ns := 271, qualname := "InSelect", hasDict := true, subclasses := [], hasDel := false } }), (271, { cls := (.type "dict"), data := .dict #[ent P "__module__" 504 (.str "pagebase.nodes" 194), ent P "__firstlineno__" 508 (.int 80 507), ent P "__init__" 518 (.ref 262), ent P "row" 525 (.ref 269), ent P "__static_attributes__" 529 (.ref 270), ent P "__doc__" 530 .none] 2 })]
noncomputable def kn12 (P : Params) : List (Addr × Obj) := [x0, (3, G P "pagebase.nodes" 194 14 23), (12, T12 14), x2, (64, { cls := (.type "type"), slots := #[some (.ref 55), none, some (.str "Expr" 236), some (.str "Expr" 244), some (.builtin "object.__new__"), some (.bool true)], data := .cls { name := "Expr", bases := [.ref 50], mro := [.ref 64, .ref 50, .type "object"], ns := 63, qualname := "Expr", hasDict := true, subclasses := [.ref 90, .ref 116, .ref 142, .ref 168, .ref 194, .ref 220, .ref 246, .ref 272, .ref 298], hasDel := false } }), (0, boot_o_0 P), (1, boot_o_1 P), (4, o4), (13, o13), x1 P, x3 P]
noncomputable def ks12 (P : Params) : List (Addr × Obj) := [(298, { cls := (.type "type"), slots := #[some (.ref 275), none, some (.str "Exists" 533), some (.str "Exists" 541), some (.builtin "object.__new__"), some (.bool true)], data := .cls { name := "Exists", bases := [.ref 64], mro := [.ref 298, .ref 64, .ref 50, .type "object"], ns := 297, qualname := "Exists", hasDict := true, subclasses := [], hasDel := false } }), (297, { cls := (.type "dict"), data := .dict #[ent P "__module__" 540 (.str "pagebase.nodes" 194), ent P "__firstlineno__" 544 (.int 89 543), ent P "__init__" 553 (.ref 288), ent P "row" 560 (.ref 295), ent P "__static_attributes__" 563 (.ref 296), ent P "__doc__" 564 .none] 2 })]
noncomputable def kn13 (P : Params) : List (Addr × Obj) := [x0, (3, G P "pagebase.nodes" 194 15 24), (12, T12 15), x2, (64, { cls := (.type "type"), slots := #[some (.ref 55), none, some (.str "Expr" 236), some (.str "Expr" 244), some (.builtin "object.__new__"), some (.bool true)], data := .cls { name := "Expr", bases := [.ref 50], mro := [.ref 64, .ref 50, .type "object"], ns := 63, qualname := "Expr", hasDict := true, subclasses := [.ref 90, .ref 116, .ref 142, .ref 168, .ref 194, .ref 220, .ref 246, .ref 272, .ref 298, .ref 324], hasDel := false } }), (0, boot_o_0 P), (1, boot_o_1 P), (4, o4), (13, o13), x1 P, x3 P]
noncomputable def ks13 (P : Params) : List (Addr × Obj) := []
noncomputable def kn14 (P : Params) : List (Addr × Obj) := [x0, (3, G P "pagebase.nodes" 194 16 25), (12, T12 16), x2, (64, { cls := (.type "type"), slots := #[some (.ref 55), none, some (.str "Expr" 236), some (.str "Expr" 244), some (.builtin "object.__new__"), some (.bool true)], data := .cls { name := "Expr", bases := [.ref 50], mro := [.ref 64, .ref 50, .type "object"], ns := 63, qualname := "Expr", hasDict := true, subclasses := [.ref 90, .ref 116, .ref 142, .ref 168, .ref 194, .ref 220, .ref 246, .ref 272, .ref 298, .ref 324, .ref 348], hasDel := false } }), (0, boot_o_0 P), (1, boot_o_1 P), (4, o4), (13, o13), x1 P, x3 P]
noncomputable def ks14 (P : Params) : List (Addr × Obj) := []
noncomputable def kn15 (P : Params) : List (Addr × Obj) := [x0, (3, G P "pagebase.nodes" 194 17 26), (12, T12 17), x2, (64, { cls := (.type "type"), slots := #[some (.ref 55), none, some (.str "Expr" 236), some (.str "Expr" 244), some (.builtin "object.__new__"), some (.bool true)], data := .cls { name := "Expr", bases := [.ref 50], mro := [.ref 64, .ref 50, .type "object"], ns := 63, qualname := "Expr", hasDict := true, subclasses := [.ref 90, .ref 116, .ref 142, .ref 168, .ref 194, .ref 220, .ref 246, .ref 272, .ref 298, .ref 324, .ref 348, .ref 374], hasDel := false } }), (0, boot_o_0 P), (1, boot_o_1 P), (4, o4), (13, o13), x1 P, x3 P]
noncomputable def ks15 (P : Params) : List (Addr × Obj) := []
noncomputable def kn16 (P : Params) : List (Addr × Obj) := [x0, (3, G P "pagebase.nodes" 194 18 27), (12, T12 18), x2, (64, { cls := (.type "type"), slots := #[some (.ref 55), none, some (.str "Expr" 236), some (.str "Expr" 244), some (.builtin "object.__new__"), some (.bool true)], data := .cls { name := "Expr", bases := [.ref 50], mro := [.ref 64, .ref 50, .type "object"], ns := 63, qualname := "Expr", hasDict := true, subclasses := [.ref 90, .ref 116, .ref 142, .ref 168, .ref 194, .ref 220, .ref 246, .ref 272, .ref 298, .ref 324, .ref 348, .ref 374, .ref 400], hasDel := false } }), (0, boot_o_0 P), (1, boot_o_1 P), (4, o4), (13, o13), x1 P, x3 P]
noncomputable def ks16 (P : Params) : List (Addr × Obj) := []
noncomputable def kn17 (P : Params) : List (Addr × Obj) := [x0, (3, G P "pagebase.nodes" 194 19 28), (12, T12 19), x2, (64, { cls := (.type "type"), slots := #[some (.ref 55), none, some (.str "Expr" 236), some (.str "Expr" 244), some (.builtin "object.__new__"), some (.bool true)], data := .cls { name := "Expr", bases := [.ref 50], mro := [.ref 64, .ref 50, .type "object"], ns := 63, qualname := "Expr", hasDict := true, subclasses := [.ref 90, .ref 116, .ref 142, .ref 168, .ref 194, .ref 220, .ref 246, .ref 272, .ref 298, .ref 324, .ref 348, .ref 374, .ref 400, .ref 426], hasDel := false } }), (0, boot_o_0 P), (1, boot_o_1 P), (4, o4), (13, o13), x1 P, x3 P]
noncomputable def ks17 (P : Params) : List (Addr × Obj) := [(426, { cls := (.type "type"), slots := #[some (.ref 403), none, some (.str "Collate" 706), some (.str "Collate" 714), some (.builtin "object.__new__"), some (.bool true)], data := .cls { name := "Collate", bases := [.ref 64], mro := [.ref 426, .ref 64, .ref 50, .type "object"], ns := 425, qualname := "Collate", hasDict := true, subclasses := [], hasDel := false } }), (425, { cls := (.type "dict"), data := .dict #[ent P "__module__" 713 (.str "pagebase.nodes" 194), ent P "__firstlineno__" 717 (.int 132 716), ent P "__init__" 726 (.ref 416), ent P "row" 733 (.ref 423), ent P "__static_attributes__" 736 (.ref 424), ent P "__doc__" 737 .none] 2 })]
noncomputable def kn18 (P : Params) : List (Addr × Obj) := [x0, (3, G P "pagebase.nodes" 194 20 29), (12, T12 20), x2, (64, { cls := (.type "type"), slots := #[some (.ref 55), none, some (.str "Expr" 236), some (.str "Expr" 244), some (.builtin "object.__new__"), some (.bool true)], data := .cls { name := "Expr", bases := [.ref 50], mro := [.ref 64, .ref 50, .type "object"], ns := 63, qualname := "Expr", hasDict := true, subclasses := [.ref 90, .ref 116, .ref 142, .ref 168, .ref 194, .ref 220, .ref 246, .ref 272, .ref 298, .ref 324, .ref 348, .ref 374, .ref 400, .ref 426, .ref 452], hasDel := false } }), (0, boot_o_0 P), (1, boot_o_1 P), (4, o4), (13, o13), x1 P, x3 P]
noncomputable def ks18 (P : Params) : List (Addr × Obj) := [(452, { cls := (.type "type"), slots := #[some (.ref 429), none, some (.str "IsNull" 740), some (.str "IsNull" 748), some (.builtin "object.__new__"), some (.bool true)], data := .cls { name := "IsNull", bases := [.ref 64], mro := [.ref 452, .ref 64, .ref 50, .type "object"], ns := 451, qualname := "IsNull", hasDict := true, subclasses := [], hasDel := false } }), (451, { cls := (.type "dict"), data := .dict #[ent P "__module__" 747 (.str "pagebase.nodes" 194), ent P "__firstlineno__" 751 (.int 140 750), ent P "__init__" 760 (.ref 442), ent P "row" 767 (.ref 449), ent P "__static_attributes__" 770 (.ref 450), ent P "__doc__" 771 .none] 2 })]
noncomputable def kn19 (P : Params) : List (Addr × Obj) := [x0, (3, G P "pagebase.nodes" 194 21 30), (12, T12 21), x2, x4, (0, boot_o_0 P), (1, boot_o_1 P), (4, o4), (13, o13), x1 P, x3 P]
noncomputable def ks19 (P : Params) : List (Addr × Obj) := [(478, { cls := (.type "type"), slots := #[some (.ref 455), none, some (.str "Match" 774), some (.str "Match" 782), some (.builtin "object.__new__"), some (.bool true)], data := .cls { name := "Match", bases := [.ref 64], mro := [.ref 478, .ref 64, .ref 50, .type "object"], ns := 477, qualname := "Match", hasDict := true, subclasses := [], hasDel := false } }), (477, { cls := (.type "dict"), data := .dict #[ent P "__module__" 781 (.str "pagebase.nodes" 194), ent P "__firstlineno__" 785 (.int 148 784), ent P "__init__" 797 (.ref 468), ent P "row" 805 (.ref 475), ent P "__static_attributes__" 811 (.ref 476), ent P "__doc__" 812 .none] 2 })]
noncomputable def kn20 (P : Params) : List (Addr × Obj) := [x0, (3, G P "pagebase.nodes" 194 22 31), (12, T12 22), (50, { cls := (.type "type"), slots := #[none, none, some (.str "Node" 209), some (.str "Node" 217), some (.builtin "object.__new__"), some (.bool true)], data := .cls { name := "Node", bases := [.type "object"], mro := [.ref 50, .type "object"], ns := 49, qualname := "Node", hasDict := true, subclasses := [.ref 64, .ref 504], hasDel := false } }), x4, (0, boot_o_0 P), (1, boot_o_1 P), (4, o4), (13, o13), x1 P, x3 P]
noncomputable def ks20 (P : Params) : List (Addr × Obj) := [(494, fnO (subAt 22 0) "Insert.__init__" .none (.str "pagebase.nodes" 194) 493), (493, cdO "__init__" "Insert.__init__" 827 162 5 488 835), (501, fnO (subAt 22 1) "Insert.row" .none (.str "pagebase.nodes" 194) 500), (500, cdO "row" "Insert.row" 838 168 1 495 843), (504, { cls := (.type "type"), slots := #[some (.ref 481), none, some (.str "Insert" 815), some (.str "Insert" 823), some (.builtin "object.__new__"), some (.bool true)], data := .cls { name := "Insert", bases := [.ref 50], mro := [.ref 504, .ref 50, .type "object"], ns := 503, qualname := "Insert", hasDict := true, subclasses := [], hasDel := false } }), (503, { cls := (.type "dict"), data := .dict #[ent P "__module__" 822 (.str "pagebase.nodes" 194), ent P "__firstlineno__" 826 (.int 160 825), ent P "__init__" 837 (.ref 494), ent P "row" 845 (.ref 501), ent P "__static_attributes__" 850 (.ref 502), ent P "__doc__" 851 .none] 2 })]
noncomputable def kn21 (P : Params) : List (Addr × Obj) := [x0, (3, G P "pagebase.nodes" 194 23 32), (12, T12 23), (50, { cls := (.type "type"), slots := #[none, none, some (.str "Node" 209), some (.str "Node" 217), some (.builtin "object.__new__"), some (.bool true)], data := .cls { name := "Node", bases := [.type "object"], mro := [.ref 50, .type "object"], ns := 49, qualname := "Node", hasDict := true, subclasses := [.ref 64, .ref 504, .ref 528], hasDel := false } }), x4, (0, boot_o_0 P), (1, boot_o_1 P), (4, o4), (13, o13), x1 P, x3 P]
noncomputable def ks21 (P : Params) : List (Addr × Obj) := [(520, fnO (subAt 23 0) "Update.__init__" .none (.str "pagebase.nodes" 194) 519), (519, cdO "__init__" "Update.__init__" 866 173 5 514 874), (525, fnO (subAt 23 1) "Update.row" .none (.str "pagebase.nodes" 194) 524), (524, cdP "row" "Update.row" 877 179 1 521 880), (528, { cls := (.type "type"), slots := #[some (.ref 507), none, some (.str "Update" 854), some (.str "Update" 862), some (.builtin "object.__new__"), some (.bool true)], data := .cls { name := "Update", bases := [.ref 50], mro := [.ref 528, .ref 50, .type "object"], ns := 527, qualname := "Update", hasDict := true, subclasses := [], hasDel := false } }), (527, { cls := (.type "dict"), data := .dict #[ent P "__module__" 861 (.str "pagebase.nodes" 194), ent P "__firstlineno__" 865 (.int 171 864), ent P "__init__" 876 (.ref 520), ent P "row" 882 (.ref 525), ent P "__static_attributes__" 887 (.ref 526), ent P "__doc__" 888 .none] 2 })]
noncomputable def kn22 (P : Params) : List (Addr × Obj) := [x0, (3, G P "pagebase.nodes" 194 24 33), (12, T12 24), x5, x4, (0, boot_o_0 P), (1, boot_o_1 P), (4, o4), (13, o13), x1 P, x3 P]
noncomputable def ks22 (P : Params) : List (Addr × Obj) := [(544, fnO (subAt 24 0) "Delete.__init__" .none (.str "pagebase.nodes" 194) 543), (543, cdO "__init__" "Delete.__init__" 903 184 3 538 909), (551, fnO (subAt 24 1) "Delete.row" .none (.str "pagebase.nodes" 194) 550), (550, cdO "row" "Delete.row" 912 188 1 545 916), (554, { cls := (.type "type"), slots := #[some (.ref 531), none, some (.str "Delete" 891), some (.str "Delete" 899), some (.builtin "object.__new__"), some (.bool true)], data := .cls { name := "Delete", bases := [.ref 50], mro := [.ref 554, .ref 50, .type "object"], ns := 553, qualname := "Delete", hasDict := true, subclasses := [], hasDel := false } }), (553, { cls := (.type "dict"), data := .dict #[ent P "__module__" 898 (.str "pagebase.nodes" 194), ent P "__firstlineno__" 902 (.int 182 901), ent P "__init__" 911 (.ref 544), ent P "row" 918 (.ref 551), ent P "__static_attributes__" 921 (.ref 552), ent P "__doc__" 922 .none] 2 })]
noncomputable def kn23 (P : Params) : List (Addr × Obj) := [x6 P, (3, G P "pagebase.errors" 925 25 34), (12, T12 25), x5, x4, (573, { cls := (.type "type"), slots := #[some (.ref 557), none, some (.str "PagebaseError" 927), some (.str "PagebaseError" 935), some (.builtin "Exception.__new__"), some (.bool true)], data := .cls { name := "PagebaseError", bases := [.type "Exception"], mro := [.ref 573, .type "Exception", .type "BaseException", .type "object"], ns := 572, qualname := "PagebaseError", hasDict := true, subclasses := [], hasDel := false } }), (0, boot_o_0 P), (1, boot_o_1 P), (4, o4), (13, o13), x1 P, x3 P, x7 P]
noncomputable def ks23 (P : Params) : List (Addr × Obj) := [x7 P]
noncomputable def kn24 (P : Params) : List (Addr × Obj) := [x6 P, (3, G P "pagebase.errors" 925 26 35), (12, T12 26), x5, x4, x8, (586, { cls := (.type "type"), slots := #[some (.ref 577), none, some (.str "SqlError" 956), some (.str "SqlError" 964), some (.builtin "Exception.__new__"), some (.bool true)], data := .cls { name := "SqlError", bases := [.ref 573], mro := [.ref 586, .ref 573, .type "Exception", .type "BaseException", .type "object"], ns := 585, qualname := "SqlError", hasDict := true, subclasses := [], hasDel := false } }), (0, boot_o_0 P), (1, boot_o_1 P), (4, o4), (13, o13), x1 P, x3 P, x7 P, x9 P]
noncomputable def ks24 (P : Params) : List (Addr × Obj) := [x9 P]
noncomputable def kn25 (P : Params) : List (Addr × Obj) := [x6 P, (3, G P "pagebase.errors" 925 27 36), (12, T12 27), x5, x4, x8, x10, (0, boot_o_0 P), (1, boot_o_1 P), (4, o4), (13, o13), x1 P, x3 P, x7 P, x9 P]
noncomputable def ks25 (P : Params) : List (Addr × Obj) := [(602, fnO (subAt 28 0) "ParseError.__init__" .none (.str "pagebase.errors" 925) 601), (601, cdO "__init__" "ParseError.__init__" 984 199 3 596 990), (605, { cls := (.type "type"), slots := #[some (.ref 589), none, some (.str "ParseError" 972), some (.str "ParseError" 980), some (.builtin "Exception.__new__"), some (.bool true)], data := .cls { name := "ParseError", bases := [.ref 586], mro := [.ref 605, .ref 586, .ref 573, .type "Exception", .type "BaseException", .type "object"], ns := 604, qualname := "ParseError", hasDict := true, subclasses := [], hasDel := false } }), (604, { cls := (.type "dict"), data := .dict #[ent P "__module__" 979 (.str "pagebase.errors" 925), ent P "__firstlineno__" 983 (.int 197 982), ent P "__init__" 992 (.ref 602), ent P "__static_attributes__" 995 (.ref 603), ent P "__doc__" 996 .none] 2 })]
noncomputable def kn26 (P : Params) : List (Addr × Obj) := [x6 P, (3, G P "pagebase.words" 999 35 44), (12, T12 27), x5, x4, x8, x10, (0, boot_o_0 P), (1, boot_o_1 P), (4, o4), (13, o13), x1 P, x3 P, x7 P, x9 P]
noncomputable def ks26 (P : Params) : List (Addr × Obj) := [(608, { cls := (.type "tuple"), data := .seq #[.str "<=" 1015, .str ">=" 1016, .str "<>" 1017, .str "!=" 1018, .str "==" 1019, .str "||" 1020, .str "<<" 1021, .str ">>" 1022] 0 })]
noncomputable def kn27 (P : Params) : List (Addr × Obj) := [x6 P, (3, G P "pagebase.words" 999 36 45), (12, T12 27), x5, x4, x8, x10, (0, boot_o_0 P), (1, boot_o_1 P), (4, o4), (13, o13), x1 P, x3 P, x7 P, x9 P]
noncomputable def ks27 (P : Params) : List (Addr × Obj) := [(609, { cls := (.type "dict"), data := .dict #[ent P "==" 1026 (.str "=" 1027), ent P "!=" 1028 (.str "<>" 1029)] 2 })]
noncomputable def kn28 (P : Params) : List (Addr × Obj) := [x6 P, (3, G P "pagebase.words" 999 43 52), (12, T12 30), x5, x4, x8, x10, (0, boot_o_0 P), (1, boot_o_1 P), (4, o4), (13, o13), x1 P, x3 P, x7 P, x9 P]
noncomputable def ks28 (P : Params) : List (Addr × Obj) := [(616, fnO (stAt 43) "folded" .none (.str "pagebase.words" 999) 615), (615, cdP "folded" "folded" 1107 216 1 612 1110), (623, fnO (stAt 44) "begins_name" .none (.str "pagebase.words" 999) 622), (622, cdO "begins_name" "begins_name" 1113 220 1 617 1117), (630, fnO (stAt 45) "goes_on_name" .none (.str "pagebase.words" 999) 629), (629, cdO "goes_on_name" "goes_on_name" 1120 222 1 624 1124), (610, { cls := (.type "tuple"), data := .seq #[.str "ADD" 1039, .str "ALL" 1040, .str "ALTER" 1041, .str "AND" 1042, .str "AS" 1043, .str "AUTOINCREMENT" 1044, .str "BETWEEN" 1045, .str "CASE" 1046, .str "CHECK" 1047, .str "COLLATE" 1048, .str "COMMIT" 1049, .str "CONSTRAINT" 1050, .str "CREATE" 1051, .str "DEFAULT" 1052, .str "DEFERRABLE" 1053, .str "DELETE" 1054, .str "DISTINCT" 1055, .str "DROP" 1056, .str "ELSE" 1057, .str "ESCAPE" 1058, .str "EXCEPT" 1059, .str "EXISTS" 1060, .str "FOREIGN" 1061, .str "FROM" 1062, .str "GROUP" 1063, .str "HAVING" 1064, .str "IN" 1065, .str "INDEX" 1066, .str "INSERT" 1067, .str "INTERSECT" 1068, .str "INTO" 1069, .str "IS" 1070, .str "ISNULL" 1071, .str "JOIN" 1072, .str "LIMIT" 1073, .str "NOT" 1074, .str "NOTHING" 1075, .str "NOTNULL" 1076, .str "NULL" 1077, .str "ON" 1078, .str "OR" 1079, .str "ORDER" 1080, .str "PRIMARY" 1081, .str "REFERENCES" 1082, .str "RETURNING" 1083, .str "SELECT" 1084, .str "SET" 1085, .str "TABLE" 1086, .str "THEN" 1087, .str "TO" 1088, .str "TRANSACTION" 1089, .str "UNION" 1090, .str "UNIQUE" 1091, .str "UPDATE" 1092, .str "USING" 1093, .str "VALUES" 1094, .str "WHEN" 1095, .str "WHERE" 1096] 0 }), (611, { cls := (.type "tuple"), data := .seq #[.str "CROSS" 1098, .str "FULL" 1099, .str "INDEXED" 1100, .str "INNER" 1101, .str "LEFT" 1102, .str "NATURAL" 1103, .str "OUTER" 1104, .str "RIGHT" 1105] 0 })]
noncomputable def kn29 (P : Params) : List (Addr × Obj) := [x6 P, (3, G P "pagebase.words" 999 44 53), (12, T12 31), x5, x4, x8, x10, (0, boot_o_0 P), (1, boot_o_1 P), (4, o4), (13, o13), x1 P, x3 P, x7 P, x9 P]
noncomputable def ks29 (P : Params) : List (Addr × Obj) := [(644, fnO (subAt 46 0) "Word.__init__" .none (.str "pagebase.words" 999) 643), (643, cdO "__init__" "Word.__init__" 1139 226 5 638 1147), (651, fnO (subAt 46 1) "Word.is_sign" .none (.str "pagebase.words" 999) 650), (650, cdO "is_sign" "Word.is_sign" 1150 232 2 645 1155), (658, fnO (subAt 46 2) "Word.is_key" .none (.str "pagebase.words" 999) 657), (657, cdO "is_key" "Word.is_key" 1158 235 2 652 1163), (665, fnO (subAt 46 3) "Word.is_free" .none (.str "pagebase.words" 999) 664), (664, cdO "is_free" "Word.is_free" 1166 238 1 659 1170), (682, { cls := (.type "type"), slots := #[none, none, some (.str "Word" 1127), some (.str "Word" 1135), some (.builtin "object.__new__"), some (.bool true)], data := .cls { name := "Word", bases := [.type "object"], mro := [.ref 682, .type "object"], ns := 681, qualname := "Word", hasDict := true, subclasses := [], hasDel := false } }), (681, { cls := (.type "dict"), data := .dict #[ent P "__module__" 1134 (.str "pagebase.words" 999), ent P "__firstlineno__" 1138 (.int 224 1137), ent P "__init__" 1149 (.ref 644), ent P "is_sign" 1157 (.ref 651), ent P "is_key" 1165 (.ref 658), ent P "is_free" 1172 (.ref 665), ent P "is_plain" 1179 (.ref 672), ent P "row" 1186 (.ref 679), ent P "__static_attributes__" 1191 (.ref 680), ent P "__dict__" 1193 (.ref 683), ent P "__weakref__" 1195 (.ref 684), ent P "__doc__" 1196 .none] 4 })]
noncomputable def kn30 (P : Params) : List (Addr × Obj) := [x6 P, (3, G P "pagebase.words" 999 45 54), (12, T12 32), x5, x4, x8, x10, (0, boot_o_0 P), (1, boot_o_1 P), (4, o4), (13, o13), x1 P, x3 P, x7 P, x9 P]
noncomputable def ks30 (P : Params) : List (Addr × Obj) := [(700, fnO (subAt 47 0) "Scanner.__init__" .none (.str "pagebase.words" 999) 699), (699, cdO "__init__" "Scanner.__init__" 1211 248 2 694 1216), (707, fnO (subAt 47 1) "Scanner.gather" .none (.str "pagebase.words" 999) 706), (706, cdO "gather" "Scanner.gather" 1219 254 5 701 1227), (714, fnO (subAt 47 2) "Scanner.refuse" .none (.str "pagebase.words" 999) 713), (713, cdO "refuse" "Scanner.refuse" 1230 258 2 708 1235), (721, fnO (subAt 47 3) "Scanner.run" .none (.str "pagebase.words" 999) 720), (720, cdO "run" "Scanner.run" 1238 261 1 715 1244), (728, fnO (subAt 47 4) "Scanner.end_of" .none (.str "pagebase.words" 999) 727), (727, cdO "end_of" "Scanner.end_of" 1247 278 3 722 1254), (735, fnO (subAt 47 5) "Scanner.bare" .none (.str "pagebase.words" 999) 734), (734, cdO "bare" "Scanner.bare" 1257 284 2 729 1265), (742, fnO (subAt 47 6) "Scanner.closing" .none (.str "pagebase.words" 999) 741), (741, cdO "closing" "Scanner.closing" 1268 295 3 736 1276), (749, fnO (subAt 47 7) "Scanner.quoted_word" .none (.str "pagebase.words" 999) 748), (748, cdO "quoted_word" "Scanner.quoted_word" 1279 307 2 743 1286), (756, fnO (subAt 47 8) "Scanner.blob" .none (.str "pagebase.words" 999) 755), (755, cdO "blob" "Scanner.blob" 1289 317 1 750 1296), (763, fnO (subAt 47 9) "Scanner.number" .none (.str "pagebase.words" 999) 762), (762, cdO "number" "Scanner.number" 1299 326 1 757 1307), (770, fnO (subAt 47 10) "Scanner.value_of" .none (.str "pagebase.words" 999) 769), (769, cdO "value_of" "Scanner.value_of" 1310 345 4 764 1318), (777, fnO (subAt 47 11) "Scanner.mark" .none (.str "pagebase.words" 999) 776), (776, cdO "mark" "Scanner.mark" 1321 353 2 771 1329), (787, { cls := (.type "type"), slots := #[none, none, some (.str "Scanner" 1199), some (.str "Scanner" 1207), some (.builtin "object.__new__"), some (.bool true)], data := .cls { name := "Scanner", bases := [.type "object"], mro := [.ref 787, .type "object"], ns := 786, qualname := "Scanner", hasDict := true, subclasses := [], hasDel := false } }), (786, { cls := (.type "dict"), data := .dict #[ent P "__module__" 1206 (.str "pagebase.words" 999), ent P "__firstlineno__" 1210 (.int 246 1209), ent P "__init__" 1218 (.ref 700), ent P "gather" 1229 (.ref 707), ent P "refuse" 1237 (.ref 714), ent P "run" 1246 (.ref 721), ent P "end_of" 1256 (.ref 728), ent P "bare" 1267 (.ref 735), ent P "closing" 1278 (.ref 742), ent P "quoted_word" 1288 (.ref 749), ent P "blob" 1298 (.ref 756), ent P "number" 1309 (.ref 763), ent P "value_of" 1320 (.ref 770), ent P "mark" 1331 (.ref 777), ent P "variable" 1341 (.ref 784), ent P "__static_attributes__" 1346 (.ref 785), ent P "__dict__" 1348 (.ref 788), ent P "__weakref__" 1350 (.ref 789), ent P "__doc__" 1351 .none] 4 })]
noncomputable def kn31 (P : Params) : List (Addr × Obj) := [x6 P, (3, G P "pagebase.print_changes" 1428 52 61), (12, T12 38), x5, x4, x8, x10, (0, boot_o_0 P), (1, boot_o_1 P), (4, o4), (13, o13), x1 P, x3 P, x7 P, x9 P]
noncomputable def ks31 (P : Params) : List (Addr × Obj) := [(798, fnO (stAt 48) "read_words" .none (.str "pagebase.words" 999) 797), (797, cdO "read_words" "read_words" 1354 379 1 792 1358), (806, fnO (stAt 51) "is_bare" .none (.str "pagebase.print_names" 1361) 805), (805, cdO "is_bare" "is_bare" 1391 383 1 800 1397), (813, fnO (stAt 52) "write_name" .none (.str "pagebase.print_names" 1361) 812), (812, cdO "write_name" "write_name" 1400 393 1 807 1404), (818, fnO (stAt 53) "write_names" .none (.str "pagebase.print_names" 1361) 817), (817, cdP "write_names" "write_names" 1407 395 1 814 1410), (825, fnO (stAt 54) "write_value" .none (.str "pagebase.print_names" 1361) 824), (824, cdO "write_value" "write_value" 1413 397 1 819 1417), (799, { cls := (.type "tuple"), data := .seq #[.str "ABORT" 1363, .str "ASC" 1364, .str "BEGIN" 1365, .str "BY" 1366, .str "CAST" 1367, .str "DEFERRED" 1368, .str "DESC" 1369, .str "END" 1370, .str "EXCLUSIVE" 1371, .str "EXPLAIN" 1372, .str "FAIL" 1373, .str "GLOB" 1374, .str "IF" 1375, .str "IGNORE" 1376, .str "IMMEDIATE" 1377, .str "KEY" 1378, .str "LIKE" 1379, .str "OFFSET" 1380, .str "PRAGMA" 1381, .str "RELEASE" 1382, .str "REPLACE" 1383, .str "ROLLBACK" 1384, .str "SAVEPOINT" 1385, .str "TO" 1386, .str "TRANSACTION" 1387, .str "VACUUM" 1388, .str "WITHOUT" 1389] 0 })]
noncomputable def kn32 (P : Params) : List (Addr × Obj) := [x6 P, (3, G P "pagebase.print_changes" 1428 53 62), (12, T12 39), x5, x4, x8, x10, (0, boot_o_0 P), (1, boot_o_1 P), (4, o4), (13, o13), x1 P, x3 P, x7 P, x9 P]
noncomputable def ks32 (P : Params) : List (Addr × Obj) := [(846, fnO (subAt 57 0) "ChangeWriter.__init__" .none (.str "pagebase.print_changes" 1428) 845), (845, cdO "__init__" "ChangeWriter.__init__" 1442 413 3 840 1448), (853, fnO (subAt 57 1) "ChangeWriter.write" .none (.str "pagebase.print_changes" 1428) 852), (852, cdO "write" "ChangeWriter.write" 1451 417 2 847 1456), (860, fnO (subAt 57 2) "ChangeWriter.where" .none (.str "pagebase.print_changes" 1428) 859), (859, cdO "where" "ChangeWriter.where" 1459 424 2 854 1464), (867, fnO (subAt 57 3) "ChangeWriter.conflict" .none (.str "pagebase.print_changes" 1428) 866), (866, cdO "conflict" "ChangeWriter.conflict" 1467 427 2 861 1472), (874, fnO (subAt 57 4) "ChangeWriter.insert" .none (.str "pagebase.print_changes" 1428) 873), (873, cdO "insert" "ChangeWriter.insert" 1475 430 2 868 1481), (879, fnO (subAt 57 5) "ChangeWriter.update" .none (.str "pagebase.print_changes" 1428) 878), (878, cdP "update" "ChangeWriter.update" 1484 436 2 875 1487), (882, { cls := (.type "type"), slots := #[none, none, some (.str "ChangeWriter" 1430), some (.str "ChangeWriter" 1438), some (.builtin "object.__new__"), some (.bool true)], data := .cls { name := "ChangeWriter", bases := [.type "object"], mro := [.ref 882, .type "object"], ns := 881, qualname := "ChangeWriter", hasDict := true, subclasses := [], hasDel := false } }), (881, { cls := (.type "dict"), data := .dict #[ent P "__module__" 1437 (.str "pagebase.print_changes" 1428), ent P "__firstlineno__" 1441 (.int 411 1440), ent P "__init__" 1450 (.ref 846), ent P "write" 1458 (.ref 853), ent P "where" 1466 (.ref 860), ent P "conflict" 1474 (.ref 867), ent P "insert" 1483 (.ref 874), ent P "update" 1489 (.ref 879), ent P "__static_attributes__" 1492 (.ref 880), ent P "__dict__" 1494 (.ref 883), ent P "__weakref__" 1496 (.ref 884), ent P "__doc__" 1497 .none] 4 })]
noncomputable def kn33 (P : Params) : List (Addr × Obj) := [x6 P, (3, G P "pagebase.expressions" 1527 60 69), (12, T12 42), x5, x4, x8, x10, (0, boot_o_0 P), (1, boot_o_1 P), (4, o4), (13, o13), x1 P, x3 P, x7 P, x9 P]
noncomputable def ks33 (P : Params) : List (Addr × Obj) := [(907, fnO (stAt 61) "read_names" .none (.str "pagebase.read_types" 1500) 906), (906, cdO "read_names" "read_names" 1519 464 1 901 1524)]
noncomputable def kn34 (P : Params) : List (Addr × Obj) := [x6 P, (3, G P "pagebase.expressions" 1527 61 70), (12, T12 42), x5, x4, x8, x10, (0, boot_o_0 P), (1, boot_o_1 P), (4, o4), (13, o13), x1 P, x3 P, x7 P, x9 P]
noncomputable def ks34 (P : Params) : List (Addr × Obj) := [(908, { cls := (.type "dict"), data := .dict #[ent P "=" 1537 (.int 4 1538), ent P "<>" 1540 (.int 4 1541), ent P "<" 1543 (.int 5 1544), ent P "<=" 1546 (.int 5 1547), ent P ">" 1549 (.int 5 1550), ent P ">=" 1552 (.int 5 1553), ent P "&" 1555 (.int 6 1556), ent P "|" 1558 (.int 6 1559), ent P "<<" 1561 (.int 6 1562), ent P ">>" 1564 (.int 6 1565), ent P "+" 1567 (.int 7 1568), ent P "-" 1570 (.int 7 1571), ent P "*" 1573 (.int 8 1574), ent P "/" 1576 (.int 8 1577), ent P "%" 1579 (.int 8 1580), ent P "||" 1582 (.int 9 1583)] 16 })]
noncomputable def kn35 (P : Params) : List (Addr × Obj) := [x6 P, (3, G P "pagebase.expressions" 1527 62 71), (12, T12 42), x5, x4, x8, x10, (0, boot_o_0 P), (1, boot_o_1 P), (4, o4), (13, o13), x1 P, x3 P, x7 P, x9 P]
noncomputable def ks35 (P : Params) : List (Addr × Obj) := [(909, { cls := (.type "dict"), data := .dict #[ent P "OR" 1586 (.int 1 1587), ent P "AND" 1588 (.int 2 1589), ent P "IS" 1590 (.int 4 1591), ent P "IN" 1592 (.int 4 1593), ent P "LIKE" 1594 (.int 4 1595), ent P "GLOB" 1596 (.int 4 1597), ent P "BETWEEN" 1598 (.int 4 1599), ent P "ISNULL" 1600 (.int 4 1601), ent P "NOTNULL" 1602 (.int 4 1603), ent P "NOT" 1604 (.int 4 1605), ent P "COLLATE" 1606 (.int 10 1607)] 11 })]
noncomputable def kn36 (P : Params) : List (Addr × Obj) := [x6 P, (3, G P "pagebase.expressions" 1527 64 73), (12, T12 42), x5, x4, x8, x10, (0, boot_o_0 P), (1, boot_o_1 P), (4, o4), (13, o13), x1 P, x3 P, x7 P, x9 P]
noncomputable def ks36 (P : Params) : List (Addr × Obj) := [(910, { cls := (.type "tuple"), data := .seq #[.str "IN" 1620, .str "LIKE" 1621, .str "GLOB" 1622, .str "BETWEEN" 1623, .str "NULL" 1624] 0 }), (911, { cls := (.type "tuple"), data := .seq #[.str "-" 1626, .str "+" 1627, .str "~" 1628] 0 })]
noncomputable def kn37 (P : Params) : List (Addr × Obj) := [x6 P, (3, G P "pagebase.expressions" 1527 65 74), (12, T12 43), x5, x4, x8, x10, (0, boot_o_0 P), (1, boot_o_1 P), (4, o4), (13, o13), x1 P, x3 P, x7 P, x9 P]
noncomputable def ks37 (P : Params) : List (Addr × Obj) := [(925, fnO (subAt 71 0) "ExpressionReader.__init__" .none (.str "pagebase.expressions" 1527) 924), (924, cdO "__init__" "ExpressionReader.__init__" 1642 482 3 919 1648), (933, fnO (subAt 71 1) "ExpressionReader.expression" (.ref 926) (.str "pagebase.expressions" 1527) 932), (932, cdO "expression" "ExpressionReader.expression" 1651 486 2 927 1658), (926, { cls := (.type "tuple"), data := .seq #[.int 1 1529] 0 }), (940, fnO (subAt 71 2) "ExpressionReader.level" .none (.str "pagebase.expressions" 1527) 939), (939, cdO "level" "ExpressionReader.level" 1661 496 1 934 1667), (947, fnO (subAt 71 3) "ExpressionReader.operated" .none (.str "pagebase.expressions" 1527) 946), (946, cdO "operated" "ExpressionReader.operated" 1670 508 3 941 1677), (982, fnO (subAt 71 8) "ExpressionReader.prefix" .none (.str "pagebase.expressions" 1527) 981), (981, cdO "prefix" "ExpressionReader.prefix" 1722 567 1 976 1728), (989, fnO (subAt 71 9) "ExpressionReader.primary" .none (.str "pagebase.expressions" 1527) 988), (988, cdO "primary" "ExpressionReader.primary" 1731 585 1 983 1736), (1024, fnO (subAt 71 14) "ExpressionReader.named" .none (.str "pagebase.expressions" 1527) 1023), (1023, cdO "named" "ExpressionReader.named" 1775 651 1 1018 1782), (1034, { cls := (.type "type"), slots := #[none, none, some (.str "ExpressionReader" 1630), some (.str "ExpressionReader" 1638), some (.builtin "object.__new__"), some (.bool true)], data := .cls { name := "ExpressionReader", bases := [.type "object"], mro := [.ref 1034, .type "object"], ns := 1033, qualname := "ExpressionReader", hasDict := true, subclasses := [], hasDel := false } }), (1033, { cls := (.type "dict"), data := .dict #[ent P "__module__" 1637 (.str "pagebase.expressions" 1527), ent P "__firstlineno__" 1641 (.int 480 1640), ent P "__init__" 1650 (.ref 925), ent P "expression" 1660 (.ref 933), ent P "level" 1669 (.ref 940), ent P "operated" 1679 (.ref 947), ent P "told_is" 1689 (.ref 954), ent P "tested" 1702 (.ref 961), ent P "member" 1713 (.ref 968), ent P "expressions" 1721 (.ref 975), ent P "prefix" 1730 (.ref 982), ent P "primary" 1738 (.ref 989), ent P "bracketed" 1746 (.ref 996), ent P "bracketed_select" 1754 (.ref 1003), ent P "case" 1765 (.ref 1010), ent P "cast" 1774 (.ref 1017), ent P "named" 1784 (.ref 1024), ent P "between_brackets" 1791 (.ref 1031), ent P "__static_attributes__" 1794 (.ref 1032), ent P "__dict__" 1796 (.ref 1035), ent P "__weakref__" 1798 (.ref 1036), ent P "__doc__" 1799 .none] 4 })]
noncomputable def kn38 (P : Params) : List (Addr × Obj) := [x6 P, (3, G P "pagebase.print_expressions" 1802 69 78), (12, T12 44), x5, x4, x8, x10, (0, boot_o_0 P), (1, boot_o_1 P), (4, o4), (13, o13), x1 P, x3 P, x7 P, x9 P]
noncomputable def ks38 (P : Params) : List (Addr × Obj) := [(1045, fnO (stAt 76) "level_of" .none (.str "pagebase.print_expressions" 1802) 1044), (1044, cdO "level_of" "level_of" 1810 673 1 1039 1814)]
noncomputable def kn39 (P : Params) : List (Addr × Obj) := [x6 P, (3, G P "pagebase.print_expressions" 1802 70 79), (12, T12 45), x5, x4, x8, x10, (0, boot_o_0 P), (1, boot_o_1 P), (4, o4), (13, o13), x1 P, x3 P, x7 P, x9 P]
noncomputable def ks39 (P : Params) : List (Addr × Obj) := [(1059, fnO (subAt 77 0) "ExpressionWriter.__init__" .none (.str "pagebase.print_expressions" 1802) 1058), (1058, cdO "__init__" "ExpressionWriter.__init__" 1829 689 2 1053 1834), (1067, fnO (subAt 77 1) "ExpressionWriter.write" (.ref 1060) (.str "pagebase.print_expressions" 1802) 1066), (1066, cdO "write" "ExpressionWriter.write" 1837 692 3 1061 1844), (1060, { cls := (.type "tuple"), data := .seq #[.int 1 1529] 0 }), (1079, fnO (subAt 77 3) "ExpressionWriter.free" .none (.str "pagebase.print_expressions" 1802) 1078), (1078, cdO "free" "ExpressionWriter.free" 1853 699 2 1073 1862), (1103, { cls := (.type "type"), slots := #[none, none, some (.str "ExpressionWriter" 1817), some (.str "ExpressionWriter" 1825), some (.builtin "object.__new__"), some (.bool true)], data := .cls { name := "ExpressionWriter", bases := [.type "object"], mro := [.ref 1103, .type "object"], ns := 1102, qualname := "ExpressionWriter", hasDict := true, subclasses := [], hasDel := false } }), (1102, { cls := (.type "dict"), data := .dict #[ent P "__module__" 1824 (.str "pagebase.print_expressions" 1802), ent P "__firstlineno__" 1828 (.int 687 1827), ent P "__init__" 1836 (.ref 1059), ent P "write" 1846 (.ref 1067), ent P "listed" 1852 (.ref 1072), ent P "free" 1864 (.ref 1079), ent P "unary" 1873 (.ref 1086), ent P "test" 1884 (.ref 1093), ent P "case" 1895 (.ref 1100), ent P "__static_attributes__" 1897 (.ref 1101), ent P "__dict__" 1899 (.ref 1104), ent P "__weakref__" 1901 (.ref 1105), ent P "__doc__" 1902 .none] 4 })]
noncomputable def kn40 (P : Params) : List (Addr × Obj) := [x6 P, (3, G P "pagebase.read_changes" 1905 71 80), (12, T12 45), x5, x4, x8, x10, (0, boot_o_0 P), (1, boot_o_1 P), (4, o4), (13, o13), x1 P, x3 P, x7 P, x9 P]
noncomputable def ks40 (P : Params) : List (Addr × Obj) := [(1108, { cls := (.type "tuple"), data := .seq #[.str "ABORT" 1907, .str "ROLLBACK" 1908, .str "FAIL" 1909, .str "IGNORE" 1910, .str "REPLACE" 1911] 0 })]
noncomputable def kn41 (P : Params) : List (Addr × Obj) := [x6 P, (3, G P "pagebase.read_changes" 1905 72 81), (12, T12 46), x5, x4, x8, x10, (0, boot_o_0 P), (1, boot_o_1 P), (4, o4), (13, o13), x1 P, x3 P, x7 P, x9 P]
noncomputable def ks41 (P : Params) : List (Addr × Obj) := [(1122, fnO (subAt 80 0) "ChangeReader.__init__" .none (.str "pagebase.read_changes" 1905) 1121), (1121, cdO "__init__" "ChangeReader.__init__" 1925 766 4 1116 1932), (1129, fnO (subAt 80 1) "ChangeReader.conflict" .none (.str "pagebase.read_changes" 1905) 1128), (1128, cdO "conflict" "ChangeReader.conflict" 1935 771 1 1123 1939), (1136, fnO (subAt 80 2) "ChangeReader.insert" .none (.str "pagebase.read_changes" 1905) 1135), (1135, cdO "insert" "ChangeReader.insert" 1942 778 1 1130 1949), (1143, fnO (subAt 80 3) "ChangeReader.update" .none (.str "pagebase.read_changes" 1905) 1142), (1142, cdO "update" "ChangeReader.update" 1952 796 1 1137 1960), (1150, fnO (subAt 80 4) "ChangeReader.assignment" .none (.str "pagebase.read_changes" 1905) 1149), (1149, cdO "assignment" "ChangeReader.assignment" 1963 806 1 1144 1968), (1157, fnO (subAt 80 5) "ChangeReader.delete" .none (.str "pagebase.read_changes" 1905) 1156), (1156, cdO "delete" "ChangeReader.delete" 1971 811 1 1151 1977), (1160, { cls := (.type "type"), slots := #[none, none, some (.str "ChangeReader" 1913), some (.str "ChangeReader" 1921), some (.builtin "object.__new__"), some (.bool true)], data := .cls { name := "ChangeReader", bases := [.type "object"], mro := [.ref 1160, .type "object"], ns := 1159, qualname := "ChangeReader", hasDict := true, subclasses := [], hasDel := false } }), (1159, { cls := (.type "dict"), data := .dict #[ent P "__module__" 1920 (.str "pagebase.read_changes" 1905), ent P "__firstlineno__" 1924 (.int 764 1923), ent P "__init__" 1934 (.ref 1122), ent P "conflict" 1941 (.ref 1129), ent P "insert" 1951 (.ref 1136), ent P "update" 1962 (.ref 1143), ent P "assignment" 1970 (.ref 1150), ent P "delete" 1979 (.ref 1157), ent P "__static_attributes__" 1983 (.ref 1158), ent P "__dict__" 1985 (.ref 1161), ent P "__weakref__" 1987 (.ref 1162), ent P "__doc__" 1988 .none] 4 })]
noncomputable def kn42 (P : Params) : List (Addr × Obj) := [x6 P, (3, G P "pagebase.stream" 1991 73 82), (12, T12 46), x5, x4, x8, x10, (0, boot_o_0 P), (1, boot_o_1 P), (4, o4), (13, o13), x1 P, x3 P, x7 P, x9 P]
noncomputable def ks42 (P : Params) : List (Addr × Obj) := []
noncomputable def kn43 (P : Params) : List (Addr × Obj) := [x6 P, (3, G P "pagebase.stream" 1991 74 83), (12, T12 47), x5, x4, x8, x10, (0, boot_o_0 P), (1, boot_o_1 P), (4, o4), (13, o13), x1 P, x3 P, x7 P, x9 P]
noncomputable def ks43 (P : Params) : List (Addr × Obj) := [(1178, fnO (subAt 83 0) "WordStream.__init__" .none (.str "pagebase.stream" 1991) 1177), (1177, cdO "__init__" "WordStream.__init__" 2007 820 2 1172 2012), (1185, fnO (subAt 83 1) "WordStream.here" .none (.str "pagebase.stream" 1991) 1184), (1184, cdO "here" "WordStream.here" 2015 826 1 1179 2019), (1192, fnO (subAt 83 2) "WordStream.ahead" .none (.str "pagebase.stream" 1991) 1191), (1191, cdO "ahead" "WordStream.ahead" 2022 829 2 1186 2027), (1199, fnO (subAt 83 3) "WordStream.go" .none (.str "pagebase.stream" 1991) 1198), (1198, cdO "go" "WordStream.go" 2030 832 1 1193 2035), (1206, fnO (subAt 83 4) "WordStream.refuse" .none (.str "pagebase.stream" 1991) 1205), (1205, cdO "refuse" "WordStream.refuse" 2038 838 2 1200 2043), (1213, fnO (subAt 83 5) "WordStream.is_over" .none (.str "pagebase.stream" 1991) 1212), (1212, cdO "is_over" "WordStream.is_over" 2046 841 1 1207 2050), (1220, fnO (subAt 83 6) "WordStream.is_key" .none (.str "pagebase.stream" 1991) 1219), (1219, cdO "is_key" "WordStream.is_key" 2053 844 2 1214 2058), (1227, fnO (subAt 83 7) "WordStream.is_sign" .none (.str "pagebase.stream" 1991) 1226), (1226, cdO "is_sign" "WordStream.is_sign" 2061 847 2 1221 2066), (1234, fnO (subAt 83 8) "WordStream.is_one_of" .none (.str "pagebase.stream" 1991) 1233), (1233, cdO "is_one_of" "WordStream.is_one_of" 2069 850 2 1228 2075), (1241, fnO (subAt 83 9) "WordStream.is_select" .none (.str "pagebase.stream" 1991) 1240), (1240, cdO "is_select" "WordStream.is_select" 2078 854 1 1235 2082), (1248, fnO (subAt 83 10) "WordStream.take_key" .none (.str "pagebase.stream" 1991) 1247), (1247, cdO "take_key" "WordStream.take_key" 2085 857 2 1242 2090), (1255, fnO (subAt 83 11) "WordStream.take_sign" .none (.str "pagebase.stream" 1991) 1254), (1254, cdO "take_sign" "WordStream.take_sign" 2093 863 2 1249 2098), (1262, fnO (subAt 83 12) "WordStream.need_key" .none (.str "pagebase.stream" 1991) 1261), (1261, cdO "need_key" "WordStream.need_key" 2101 869 2 1256 2106), (1269, fnO (subAt 83 13) "WordStream.need_sign" .none (.str "pagebase.stream" 1991) 1268), (1268, cdO "need_sign" "WordStream.need_sign" 2109 873 2 1263 2114), (1276, fnO (subAt 83 14) "WordStream.need_name" .none (.str "pagebase.stream" 1991) 1275), (1275, cdO "need_name" "WordStream.need_name" 2117 877 1 1270 2121), (1283, fnO (subAt 83 15) "WordStream.deeper" .none (.str "pagebase.stream" 1991) 1282), (1282, cdO "deeper" "WordStream.deeper" 2124 882 1 1277 2128), (1290, fnO (subAt 83 16) "WordStream.higher" .none (.str "pagebase.stream" 1991) 1289), (1289, cdO "higher" "WordStream.higher" 2131 887 1 1284 2135), (1293, { cls := (.type "type"), slots := #[none, none, some (.str "WordStream" 1995), some (.str "WordStream" 2003), some (.builtin "object.__new__"), some (.bool true)], data := .cls { name := "WordStream", bases := [.type "object"], mro := [.ref 1293, .type "object"], ns := 1292, qualname := "WordStream", hasDict := true, subclasses := [], hasDel := false } }), (1292, { cls := (.type "dict"), data := .dict #[ent P "__module__" 2002 (.str "pagebase.stream" 1991), ent P "__firstlineno__" 2006 (.int 818 2005), ent P "__init__" 2014 (.ref 1178), ent P "here" 2021 (.ref 1185), ent P "ahead" 2029 (.ref 1192), ent P "go" 2037 (.ref 1199), ent P "refuse" 2045 (.ref 1206), ent P "is_over" 2052 (.ref 1213), ent P "is_key" 2060 (.ref 1220), ent P "is_sign" 2068 (.ref 1227), ent P "is_one_of" 2077 (.ref 1234), ent P "is_select" 2084 (.ref 1241), ent P "take_key" 2092 (.ref 1248), ent P "take_sign" 2100 (.ref 1255), ent P "need_key" 2108 (.ref 1262), ent P "need_sign" 2116 (.ref 1269), ent P "need_name" 2123 (.ref 1276), ent P "deeper" 2130 (.ref 1283), ent P "higher" 2137 (.ref 1290), ent P "__static_attributes__" 2142 (.ref 1291), ent P "__dict__" 2144 (.ref 1294), ent P "__weakref__" 2146 (.ref 1295), ent P "__doc__" 2147 .none] 4 })]
noncomputable def kn44 (P : Params) : List (Addr × Obj) := [x6 P, (3, G P "law_pb0465_01" 2150 86 95), (12, T12 59), x5, x4, x8, x10, (0, boot_o_0 P), (1, boot_o_1 P), (4, o4), (13, o13), x1 P, x3 P, x7 P, x9 P]
noncomputable def ks44 (P : Params) : List (Addr × Obj) := [(1304, fnO (stAt 85) "_law_pool" .none (.str "law_pb0465_01" 2150) 1303), (1303, cdO "_law_pool" "_law_pool" 2152 890 2 1298 2160), (1311, fnO (stAt 86) "_law_take" .none (.str "law_pb0465_01" 2150) 1310), (1310, cdO "_law_take" "_law_take" 2163 897 2 1305 2169), (1318, fnO (stAt 87) "_law_one" .none (.str "law_pb0465_01" 2150) 1317), (1317, cdO "_law_one" "_law_one" 2172 904 2 1312 2177), (1325, fnO (stAt 88) "_law_name" .none (.str "law_pb0465_01" 2150) 1324), (1324, cdO "_law_name" "_law_name" 2180 906 1 1319 2185), (1332, fnO (stAt 89) "_law_value" .none (.str "law_pb0465_01" 2150) 1331), (1331, cdO "_law_value" "_law_value" 2188 909 2 1326 2202), (1339, fnO (stAt 90) "_law_where" .none (.str "law_pb0465_01" 2150) 1338), (1338, cdO "_law_where" "_law_where" 2205 927 1 1333 2211), (1346, fnO (stAt 91) "_law_conflict" .none (.str "law_pb0465_01" 2150) 1345), (1345, cdO "_law_conflict" "_law_conflict" 2214 932 1 1340 2219), (1351, fnO (stAt 92) "_law_insert" .none (.str "law_pb0465_01" 2150) 1350), (1350, cdP "_law_insert" "_law_insert" 2222 935 1 1347 2225), (1358, fnO (stAt 93) "_law_update" .none (.str "law_pb0465_01" 2150) 1357), (1357, cdO "_law_update" "_law_update" 2228 943 1 1352 2245), (1365, fnO (stAt 94) "_law_delete" .none (.str "law_pb0465_01" 2150) 1364), (1364, cdO "_law_delete" "_law_delete" 2248 954 1 1359 2256), (1372, fnO (stAt 95) "_law_read" .none (.str "law_pb0465_01" 2150) 1371), (1371, cdO "_law_read" "_law_read" 2259 958 1 1366 2267), (1377, fnO (stAt 96) "law" .none (.str "law_pb0465_01" 2150) 1376), (1376, cdP "law" "law" 2270 971 1 1373 2273), (1374, { cls := .none, data := .fields #[] })]
theorem r0 (w os) : RS w os 0 4 94 ⟨0, 0, 0, 0⟩ (kn0 w.params) 15 187 (kn1 w.params ++ ks1 w.params) 34 209 ⟨7, 0, 8, 50⟩ := by kernel_rfl
theorem r1 (w os) : RS w os 4 1 221 ⟨7, 0, 8, 50⟩ (kn1 w.params) 34 209 (kn2 w.params ++ ks2 w.params) 55 236 ⟨9, 0, 12, 24⟩ := by kernel_rfl
theorem r2 (w os) : RS w os 5 1 214 ⟨9, 0, 12, 24⟩ (kn2 w.params) 55 236 (kn3 w.params ++ ks3 w.params) 67 252 ⟨13, 0, 14, 8⟩ := by kernel_rfl
theorem r3 (w os) : RS w os 6 1 291 ⟨13, 0, 14, 8⟩ (kn3 w.params) 67 252 (kn4 w.params ++ ks4 w.params) 93 284 ⟨15, 0, 25, 89⟩ := by kernel_rfl
theorem r4 (w os) : RS w os 7 1 296 ⟨15, 0, 25, 89⟩ (kn4 w.params) 93 284 (kn5 w.params ++ ks5 w.params) 119 321 ⟨26, 0, 36, 48⟩ := by kernel_rfl
theorem r5 (w os) : RS w os 8 1 291 ⟨26, 0, 36, 48⟩ (kn5 w.params) 119 321 (kn6 w.params ++ ks6 w.params) 145 353 ⟨37, 0, 43, 40⟩ := by kernel_rfl
theorem r6 (w os) : RS w os 9 1 293 ⟨37, 0, 43, 40⟩ (kn6 w.params) 145 353 (kn7 w.params ++ ks7 w.params) 171 387 ⟨44, 0, 51, 53⟩ := by kernel_rfl
theorem r7 (w os) : RS w os 10 1 295 ⟨44, 0, 51, 53⟩ (kn7 w.params) 171 387 (kn8 w.params ++ ks8 w.params) 197 423 ⟨52, 0, 60, 69⟩ := by kernel_rfl
theorem r8 (w os) : RS w os 11 1 297 ⟨52, 0, 60, 69⟩ (kn8 w.params) 197 423 (kn9 w.params ++ ks9 w.params) 223 461 ⟨61, 0, 70, 91⟩ := by kernel_rfl
theorem r9 (w os) : RS w os 12 1 295 ⟨61, 0, 70, 91⟩ (kn9 w.params) 223 461 (kn10 w.params ++ ks10 w.params) 249 497 ⟨71, 0, 79, 74⟩ := by kernel_rfl
theorem r10 (w os) : RS w os 13 1 295 ⟨71, 0, 79, 74⟩ (kn10 w.params) 249 497 (kn11 w.params ++ ks11 w.params) 275 533 ⟨80, 0, 88, 78⟩ := by kernel_rfl
theorem r11 (w os) : RS w os 14 1 293 ⟨80, 0, 88, 78⟩ (kn11 w.params) 275 533 (kn12 w.params ++ ks12 w.params) 301 567 ⟨89, 0, 96, 58⟩ := by kernel_rfl
theorem r12 (w os) : RS w os 15 1 291 ⟨89, 0, 96, 58⟩ (kn12 w.params) 301 567 (kn13 w.params ++ ks13 w.params) 327 599 ⟨97, 0, 103, 44⟩ := by kernel_rfl
theorem r13 (w os) : RS w os 16 1 292 ⟨97, 0, 103, 44⟩ (kn13 w.params) 327 599 (kn14 w.params ++ ks14 w.params) 351 634 ⟨104, 0, 113, 69⟩ := by kernel_rfl
theorem r14 (w os) : RS w os 17 1 297 ⟨104, 0, 113, 69⟩ (kn14 w.params) 351 634 (kn15 w.params ++ ks15 w.params) 377 672 ⟨114, 0, 123, 85⟩ := by kernel_rfl
theorem r15 (w os) : RS w os 18 1 293 ⟨114, 0, 123, 85⟩ (kn15 w.params) 377 672 (kn16 w.params ++ ks16 w.params) 403 706 ⟨124, 0, 131, 57⟩ := by kernel_rfl
theorem r16 (w os) : RS w os 19 1 293 ⟨124, 0, 131, 57⟩ (kn16 w.params) 403 706 (kn17 w.params ++ ks17 w.params) 429 740 ⟨132, 0, 139, 60⟩ := by kernel_rfl
theorem r17 (w os) : RS w os 20 1 293 ⟨132, 0, 139, 60⟩ (kn17 w.params) 429 740 (kn18 w.params ++ ks18 w.params) 455 774 ⟨140, 0, 147, 57⟩ := by kernel_rfl
theorem r18 (w os) : RS w os 21 1 300 ⟨140, 0, 147, 57⟩ (kn18 w.params) 455 774 (kn19 w.params ++ ks19 w.params) 481 815 ⟨148, 0, 159, 65⟩ := by kernel_rfl
theorem r19 (w os) : RS w os 22 1 284 ⟨148, 0, 159, 65⟩ (kn19 w.params) 481 815 (kn20 w.params ++ ks20 w.params) 507 854 ⟨160, 0, 170, 82⟩ := by kernel_rfl
theorem r20 (w os) : RS w os 23 1 280 ⟨160, 0, 170, 82⟩ (kn20 w.params) 507 854 (kn21 w.params ++ ks21 w.params) 531 891 ⟨171, 0, 181, 79⟩ := by kernel_rfl
theorem r21 (w os) : RS w os 24 1 279 ⟨171, 0, 181, 79⟩ (kn21 w.params) 531 891 (kn22 w.params ++ ks22 w.params) 557 925 ⟨182, 0, 189, 57⟩ := by kernel_rfl
theorem r22 (w os) : RS w os 25 2 238 ⟨182, 0, 189, 57⟩ (kn22 w.params) 557 925 (kn23 w.params ++ ks23 w.params) 577 956 ⟨191, 0, 194, 30⟩ := by kernel_rfl
theorem r23 (w os) : RS w os 27 1 214 ⟨191, 0, 194, 30⟩ (kn23 w.params) 577 956 (kn24 w.params ++ ks24 w.params) 589 972 ⟨195, 0, 196, 8⟩ := by kernel_rfl
theorem r24 (w os) : RS w os 28 1 262 ⟨195, 0, 196, 8⟩ (kn24 w.params) 589 972 (kn25 w.params ++ ks25 w.params) 608 999 ⟨197, 0, 201, 26⟩ := by kernel_rfl
theorem r25 (w os) : RS w os 29 9 107 ⟨197, 0, 201, 26⟩ (kn25 w.params) 608 999 (kn26 w.params ++ ks26 w.params) 609 1026 ⟨210, 0, 210, 12⟩ := by kernel_rfl
theorem r26f (w : World) (os : OsState) : see dyn (((kn27 (w.withFollow "special-get-raises" false).params) ++ (ks27 (w.withFollow "special-get-raises" false).params)).map (·.1)) (runAt (w.withFollow "special-get-raises" false) os 38 1 41 ⟨210, 0, 210, 12⟩ (kn26 (w.withFollow "special-get-raises" false).params) 609 1026) = some (.next, 610, true, #[], {}, 1033, cE, ⟨211, 0, 211, 10⟩, ((kn27 (w.withFollow "special-get-raises" false).params) ++ (ks27 (w.withFollow "special-get-raises" false).params)).map fun p => some p.2) := by kernel_rfl
theorem r26t (w : World) (os : OsState) : see dyn (((kn27 (w.withFollow "special-get-raises" true).params) ++ (ks27 (w.withFollow "special-get-raises" true).params)).map (·.1)) (runAt (w.withFollow "special-get-raises" true) os 38 1 41 ⟨210, 0, 210, 12⟩ (kn26 (w.withFollow "special-get-raises" true).params) 609 1026) = some (.next, 610, true, #[], {}, 1033, cE, ⟨211, 0, 211, 10⟩, ((kn27 (w.withFollow "special-get-raises" true).params) ++ (ks27 (w.withFollow "special-get-raises" true).params)).map fun p => some p.2) := by kernel_rfl
theorem r26 (w : World) (os : OsState) : see dyn (((kn27 w.params) ++ (ks27 w.params)).map (·.1)) (runAt w os 38 1 41 ⟨210, 0, 210, 12⟩ (kn26 w.params) 609 1026) = some (.next, 610, true, #[], {}, 1033, cE, ⟨211, 0, 211, 10⟩, ((kn27 w.params) ++ (ks27 w.params)).map fun p => some p.2) := by
  have e := World.withFollow_self w "special-get-raises"
  cases hb : w.params.followText "special-get-raises" <;> rw [hb] at e
  · have z := r26f w os; rw [e] at z; exact z
  · have z := r26t w os; rw [e] at z; exact z
theorem r27 (w os) : RS w os 39 7 195 ⟨211, 0, 211, 10⟩ (kn27 w.params) 610 1033 (kn28 w.params ++ ks28 w.params) 631 1127 ⟨222, 0, 223, 48⟩ := by kernel_rfl
theorem r28 (w os) : RS w os 46 1 386 ⟨222, 0, 223, 48⟩ (kn28 w.params) 631 1127 (kn29 w.params ++ ks29 w.params) 687 1199 ⟨224, 0, 245, 49⟩ := by kernel_rfl
theorem r29 (w os) : RS w os 47 1 637 ⟨224, 0, 245, 49⟩ (kn29 w.params) 687 1199 (kn30 w.params ++ ks30 w.params) 792 1354 ⟨246, 0, 378, 48⟩ := by kernel_rfl
theorem r30 (w os) : RS w os 48 9 230 ⟨246, 0, 378, 48⟩ (kn30 w.params) 792 1354 (kn31 w.params ++ ks31 w.params) 833 1430 ⟨410, 0, 410, 8⟩ := by kernel_rfl
theorem r31 (w os) : RS w os 57 1 382 ⟨410, 0, 410, 8⟩ (kn31 w.params) 833 1430 (kn32 w.params ++ ks32 w.params) 887 1500 ⟨411, 0, 439, 44⟩ := by kernel_rfl
theorem r32 (w os) : RS w os 58 9 146 ⟨411, 0, 439, 44⟩ (kn32 w.params) 887 1500 (kn33 w.params ++ ks33 w.params) 908 1537 ⟨475, 0, 475, 10⟩ := by kernel_rfl
theorem r33f (w : World) (os : OsState) : see dyn (((kn34 (w.withFollow "special-get-raises" false).params) ++ (ks34 (w.withFollow "special-get-raises" false).params)).map (·.1)) (runAt (w.withFollow "special-get-raises" false) os 67 1 252 ⟨475, 0, 475, 10⟩ (kn33 (w.withFollow "special-get-raises" false).params) 908 1537) = some (.next, 909, true, #[], {}, 1586, cE, ⟨476, 0, 476, 11⟩, ((kn34 (w.withFollow "special-get-raises" false).params) ++ (ks34 (w.withFollow "special-get-raises" false).params)).map fun p => some p.2) := by kernel_rfl
theorem r33t (w : World) (os : OsState) : see dyn (((kn34 (w.withFollow "special-get-raises" true).params) ++ (ks34 (w.withFollow "special-get-raises" true).params)).map (·.1)) (runAt (w.withFollow "special-get-raises" true) os 67 1 252 ⟨475, 0, 475, 10⟩ (kn33 (w.withFollow "special-get-raises" true).params) 908 1537) = some (.next, 909, true, #[], {}, 1586, cE, ⟨476, 0, 476, 11⟩, ((kn34 (w.withFollow "special-get-raises" true).params) ++ (ks34 (w.withFollow "special-get-raises" true).params)).map fun p => some p.2) := by kernel_rfl
theorem r33 (w : World) (os : OsState) : see dyn (((kn34 w.params) ++ (ks34 w.params)).map (·.1)) (runAt w os 67 1 252 ⟨475, 0, 475, 10⟩ (kn33 w.params) 908 1537) = some (.next, 909, true, #[], {}, 1586, cE, ⟨476, 0, 476, 11⟩, ((kn34 w.params) ++ (ks34 w.params)).map fun p => some p.2) := by
  have e := World.withFollow_self w "special-get-raises"
  cases hb : w.params.followText "special-get-raises" <;> rw [hb] at e
  · have z := r33f w os; rw [e] at z; exact z
  · have z := r33t w os; rw [e] at z; exact z
theorem r34f (w : World) (os : OsState) : see dyn (((kn35 (w.withFollow "special-get-raises" false).params) ++ (ks35 (w.withFollow "special-get-raises" false).params)).map (·.1)) (runAt (w.withFollow "special-get-raises" false) os 68 1 176 ⟨476, 0, 476, 11⟩ (kn34 (w.withFollow "special-get-raises" false).params) 909 1586) = some (.next, 910, true, #[], {}, 1620, cE, ⟨477, 0, 477, 10⟩, ((kn35 (w.withFollow "special-get-raises" false).params) ++ (ks35 (w.withFollow "special-get-raises" false).params)).map fun p => some p.2) := by kernel_rfl
theorem r34t (w : World) (os : OsState) : see dyn (((kn35 (w.withFollow "special-get-raises" true).params) ++ (ks35 (w.withFollow "special-get-raises" true).params)).map (·.1)) (runAt (w.withFollow "special-get-raises" true) os 68 1 176 ⟨476, 0, 476, 11⟩ (kn34 (w.withFollow "special-get-raises" true).params) 909 1586) = some (.next, 910, true, #[], {}, 1620, cE, ⟨477, 0, 477, 10⟩, ((kn35 (w.withFollow "special-get-raises" true).params) ++ (ks35 (w.withFollow "special-get-raises" true).params)).map fun p => some p.2) := by kernel_rfl
theorem r34 (w : World) (os : OsState) : see dyn (((kn35 w.params) ++ (ks35 w.params)).map (·.1)) (runAt w os 68 1 176 ⟨476, 0, 476, 11⟩ (kn34 w.params) 909 1586) = some (.next, 910, true, #[], {}, 1620, cE, ⟨477, 0, 477, 10⟩, ((kn35 w.params) ++ (ks35 w.params)).map fun p => some p.2) := by
  have e := World.withFollow_self w "special-get-raises"
  cases hb : w.params.followText "special-get-raises" <;> rw [hb] at e
  · have z := r34f w os; rw [e] at z; exact z
  · have z := r34t w os; rw [e] at z; exact z
theorem r35 (w os) : RS w os 69 2 29 ⟨477, 0, 477, 10⟩ (kn35 w.params) 910 1620 (kn36 w.params ++ ks36 w.params) 912 1630 ⟨479, 0, 479, 11⟩ := by kernel_rfl
theorem r36 (w os) : RS w os 71 1 731 ⟨479, 0, 479, 11⟩ (kn36 w.params) 912 1630 (kn37 w.params ++ ks37 w.params) 1039 1802 ⟨480, 0, 668, 16⟩ := by kernel_rfl
theorem r37 (w os) : RS w os 72 5 66 ⟨480, 0, 668, 16⟩ (kn37 w.params) 1039 1802 (kn38 w.params ++ ks38 w.params) 1046 1817 ⟨673, 0, 686, 22⟩ := by kernel_rfl
theorem r38 (w os) : RS w os 77 1 429 ⟨673, 0, 686, 22⟩ (kn38 w.params) 1046 1817 (kn39 w.params ++ ks39 w.params) 1108 1905 ⟨687, 0, 761, 28⟩ := by kernel_rfl
theorem r39 (w os) : RS w os 78 2 25 ⟨687, 0, 761, 28⟩ (kn39 w.params) 1108 1905 (kn40 w.params ++ ks40 w.params) 1109 1913 ⟨763, 0, 763, 9⟩ := by kernel_rfl
theorem r40 (w os) : RS w os 80 1 392 ⟨763, 0, 763, 9⟩ (kn40 w.params) 1109 1913 (kn41 w.params ++ ks41 w.params) 1165 1991 ⟨764, 0, 815, 35⟩ := by kernel_rfl
theorem r41 (w os) : RS w os 81 2 19 ⟨764, 0, 815, 35⟩ (kn41 w.params) 1165 1991 (kn42 w.params ++ ks42 w.params) 1165 1995 ⟨817, 0, 817, 10⟩ := by kernel_rfl
theorem r42 (w os) : RS w os 83 1 733 ⟨817, 0, 817, 10⟩ (kn42 w.params) 1165 1995 (kn43 w.params ++ ks43 w.params) 1298 2150 ⟨818, 0, 888, 35⟩ := by kernel_rfl
theorem r43 (w os) : RS w os 84 13 394 ⟨818, 0, 888, 35⟩ (kn43 w.params) 1298 2150 (kn44 w.params ++ ks44 w.params) 1378 2276 ⟨971, 0, 986, 51⟩ := by kernel_rfl
noncomputable def topGoO (den : Code → Sem Fin) (stp : (Code → Sem Fin) → Program → World → Shared → Thread → Step) (okS : Nat → Option Value → Thread → Bool) (p : Program) (w : World) (n₀ : Nat) (ann : Option Value) (m : Nat) (os : OsState) : Nat → OS → Thread → Option (OS × Thread)
  | 0, s, t => some (s, t)
  | n + 1, s, t => match through t with
    | true => none
    | false => match okS n₀ ann t with
      | false => none
      | true => (stepO den stp p w m os s t).bind fun r => topGoO den stp okS p w n₀ ann m os n r.1 r.2
theorem topGoO_of {tb : String → Option Builtin} {p : Program} {w : World} {n₀ : Nat} {ann : Option Value} {m : Nat} {os : OsState} {h₀ : Heap} : ∀ (n : Nat) {s s' : OS} {t t' : Thread} {h : Heap}, topGoO (denote tb) step stepOk p w n₀ ann m os n s t = some (s', t') → Ab s.T s.n s.C m h₀ h →
    ∃ h', Ab s'.T s'.n s'.C m h₀ h' ∧ topGo tb p w n₀ ann n ⟨h, s.gens, s.drawn, s.toks, os⟩ t = some (⟨h', s'.gens, s'.drawn, s'.toks, os⟩, t') := by
  intro n
  induction n with
  | zero => intro s s' t t' h e A; cases e; exact ⟨h, A, rfl⟩
  | succ n ih =>
    intro s s' t t' h e A
    unfold topGoO at e
    unfold topGo
    revert e
    cases through t with
    | true => intro e; cases e
    | false =>
      cases stepOk n₀ ann t with
      | false => intro e; cases e
      | true =>
        intro e
        refine bindR e fun r hs e => ?_
        obtain ⟨h₂, A₂, e₂⟩ := stepO_spec hs A
        rw [e₂]
        exact ih e A₂
noncomputable def Kn (l : List (Addr × Obj)) (h : Heap) : Prop := ∀ p ∈ l, h.objs[p.1]? = some p.2
theorem OT.of_mem_aux : ∀ (l : List (Addr × Obj)) (t : OT) (a : Nat) (o : Obj), (l.foldl (fun t p => OT.put p.2 14 t p.1) t).get a = some o → (a, o) ∈ l ∨ t.get a = some o
  | [], _, _, _, h => .inr h
  | p :: l, t, a, o, h => by
    rcases OT.of_mem_aux l _ a o h with q | q
    · exact .inl (.tail _ q)
    · rcases OT.get_put _ _ _ _ _ _ q with ⟨rfl, rfl⟩ | ⟨_, q⟩
      · exact .inl (.head _)
      · exact .inr q
theorem OT.of_mem {l : List (Addr × Obj)} {a : Nat} {o : Obj} (h : (OT.of l).get a = some o) : (a, o) ∈ l := (OT.of_mem_aux l .nil a o h).elim id (fun q => by cases q)
theorem Kn.ab {l : List (Addr × Obj)} {h : Heap} {n : Nat} (k : Kn l h) (s : h.objs.size = n) : Ab (OT.of l) n [] n h h :=
  ⟨s, Nat.le_refl _, rfl, fun a o e => k (a, o) (OT.of_mem e), fun _ _ _ => rfl⟩
theorem Kn.get {l : List (Addr × Obj)} {T : OT} {n m : Nat} {C : List Addr} {h₀ h : Heap} (A : Ab T n C m h₀ h) (e : (l.map (·.1)).map T.get = l.map fun p => some p.2) : Kn l h := by
  induction l with
  | nil => intro p hp; cases hp
  | cons x l ih =>
    simp only [List.map_cons, List.cons.injEq] at e
    intro p hp
    rcases List.mem_cons.mp hp with rfl | hp
    · exact A.get _ _ e.1
    · exact ih e.2 p hp
theorem Kn.app {l l' : List (Addr × Obj)} {h : Heap} (k : Kn l h) (k' : Kn l' h) : Kn (l ++ l') h := fun p hp => (List.mem_append.mp hp).elim (k p) (k' p)
theorem Kn.left {l l' : List (Addr × Obj)} {h : Heap} (k : Kn (l ++ l') h) : Kn l h := fun p hp => k p (List.mem_append_left _ hp)
theorem Kn.right {l l' : List (Addr × Obj)} {h : Heap} (k : Kn (l ++ l') h) : Kn l' h := fun p hp => k p (List.mem_append_right _ hp)
theorem Kn.keep {l : List (Addr × Obj)} {h h' : Heap} {n : Nat} {D : List Addr} (k : Kn l h) (s : h.objs.size = n) (kp : ∀ a, a < n → a ∉ D → h'.objs[a]? = h.objs[a]?) (e : (l.map (·.1)).all (fun a => !D.elem a) = true) : Kn l h' := by
  intro p hp
  have q := List.all_eq_true.mp e p.1 (List.mem_map_of_mem hp)
  have z := k p hp
  rw [kp p.1 (by rw [← s]; exact lt_of_get z) (fun m => by rw [List.elem_iff.mpr m] at q; cases q)]
  exact z
theorem all_dyn {C D : List Addr} (e : C.all D.elem = true) {a : Addr} (h : a ∉ D) : a ∉ C := fun q => h (List.elem_iff.mp (List.all_eq_true.mp e a q))
theorem piece_of {w : World} {os : OsState} {i n st : Nat} {p0 p1 : Pos} {l l' : List (Addr × Obj)} {n0 n1 t0 t1 : Nat} {h : Heap}
    (e : RS w os i n st p0 l n0 t0 l' n1 t1 p1) (hs : h.objs.size = n0) (hk : Kn l h) :
    ∃ h', h'.objs.size = n1 ∧ Kn l' h' ∧ (∀ a, a < n0 → a ∉ dyn → h'.objs[a]? = h.objs[a]?) ∧
      segRun treeTable pw w 11 (some (.ref 6)) 1 st ⟨h, #[], {}, t0, os⟩ (piecesOf (sts i n) mEnv cE p0 [topFrame ⟨0,0,0,0⟩]) = some (.next, ⟨h', #[], {}, t1, os⟩, cE, p1) := by
  unfold RS see at e
  split at e
  · rename_i f s c q hr
    simp only [Option.some.injEq, Prod.mk.injEq] at e
    obtain ⟨rfl, rfl, eC, eg, ed, rfl, rfl, rfl, eo⟩ := e
    unfold runAt at hr
    rw [← dnF_eq, ← stF_eq, ← okF_eq] at hr
    obtain ⟨h', A, r⟩ := segRunO_of _ hr (hk.ab hs)
    refine ⟨h', A.size, Kn.get A eo, fun a ha hn => A.keep a ha (all_dyn eC hn), ?_⟩
    rw [eg, ed] at r
    exact r
  · cases e
noncomputable def b0 (P : Params) : List (Addr × Obj) := [(0, boot_o_0 P), (1, boot_o_1 P), (2, boot_o_2 P), (3, boot_o_3 P), (4, boot_o_4 P), (5, boot_o_5 P), (6, boot_o_6 P), (7, boot_o_7 P), (8, boot_o_8 P), (9, boot_o_9 P), (10, boot_o_10 P)]
noncomputable def seeGo (as : List Addr) (r : Option (OS × Thread)) : Option (Nat × Array GenState × Drawn × Nat × Thread × List (Option Obj)) := match r with
  | some (s, t) => some (s.n, s.gens, s.drawn, s.toks, t, as.map s.T.get)
  | none => none
theorem rpre (w : World) (os : OsState) : seeGo ((kn0 w.params).map (·.1)) (topGoO dnF (@stF) okF pw w 11 (some (.ref 6)) 11 os 12 ⟨OT.of (b0 w.params), 11, [], #[], boot_drawn, boot_toks⟩ (topStub pw)) =
    some (15, #[], {}, 187, ⟨dnF cE, cE, ⟨0,0,0,0⟩, [topFrame ⟨0,0,0,0⟩]⟩, (kn0 w.params).map fun p => some p.2) := by kernel_rfl
theorem boot_kn (P : Params) : Kn (b0 P) (boot_heap P) := by
  intro p hp
  simp only [b0, List.mem_cons, List.mem_nil_iff, or_false] at hp
  rcases hp with rfl | rfl | rfl | rfl | rfl | rfl | rfl | rfl | rfl | rfl | rfl <;> rfl
theorem boot_size (P : Params) : (boot_heap P).objs.size = 11 := by kernel_rfl
theorem pre_of (w : World) (os : OsState) : ∃ h, h.objs.size = 15 ∧ Kn (kn0 w.params) h ∧
    topGo treeTable pw w 11 (some (.ref 6)) 12 ⟨boot_heap w.params, #[], boot_drawn, boot_toks, os⟩ (topStub pw) = some (⟨h, #[], {}, 187, os⟩, ⟨denote treeTable cE, cE, ⟨0,0,0,0⟩, [topFrame ⟨0,0,0,0⟩]⟩) := by
  have e := rpre w os
  unfold seeGo at e
  split at e
  · rename_i s t hr
    simp only [Option.some.injEq, Prod.mk.injEq] at e
    obtain ⟨e1, eg, ed, et, rfl, eo⟩ := e
    rw [← dnF_eq, ← stF_eq, ← okF_eq] at hr
    obtain ⟨h', A, r⟩ := topGoO_of _ hr ((boot_kn w.params).ab (boot_size w.params))
    refine ⟨h', A.size.trans e1, Kn.get A eo, ?_⟩
    rw [eg, ed, et] at r
    exact r
  · cases e
theorem rblock (w : World) (s : Shared) : segRun treeTable pw w 11 (some (.ref 6)) 1 1 s (blockOf (behindTheImports pw) mEnv cE ⟨0,0,0,0⟩ [topFrame ⟨0,0,0,0⟩]) = some (.next, s, cE, ⟨0,0,0,0⟩) := by kernel_rfl
theorem rfin (w : World) (h : Heap) (t : Nat) (os : OsState) (pos : Pos) : topRun treeTable pw w 11 (some (.ref 6)) 2 ⟨h, #[], {}, t, os⟩ (restOf [] mEnv cE pos [topFrame ⟨0,0,0,0⟩]) = some ⟨h, #[], {}, t, os⟩ := by kernel_rfl
noncomputable abbrev ksA0 (P : Params) : List (Addr × Obj) := []
noncomputable def ksA1 (P : Params) : List (Addr × Obj) := ks1 P ++ ksA0 P
noncomputable def ksA2 (P : Params) : List (Addr × Obj) := ks2 P ++ ksA1 P
noncomputable def ksA3 (P : Params) : List (Addr × Obj) := ks3 P ++ ksA2 P
noncomputable def ksA4 (P : Params) : List (Addr × Obj) := ks4 P ++ ksA3 P
noncomputable def ksA5 (P : Params) : List (Addr × Obj) := ks5 P ++ ksA4 P
noncomputable def ksA6 (P : Params) : List (Addr × Obj) := ks6 P ++ ksA5 P
noncomputable def ksA7 (P : Params) : List (Addr × Obj) := ks7 P ++ ksA6 P
noncomputable def ksA8 (P : Params) : List (Addr × Obj) := ks8 P ++ ksA7 P
noncomputable def ksA9 (P : Params) : List (Addr × Obj) := ks9 P ++ ksA8 P
noncomputable def ksA10 (P : Params) : List (Addr × Obj) := ks10 P ++ ksA9 P
noncomputable def ksA11 (P : Params) : List (Addr × Obj) := ks11 P ++ ksA10 P
noncomputable def ksA12 (P : Params) : List (Addr × Obj) := ks12 P ++ ksA11 P
noncomputable def ksA13 (P : Params) : List (Addr × Obj) := ks13 P ++ ksA12 P
noncomputable def ksA14 (P : Params) : List (Addr × Obj) := ks14 P ++ ksA13 P
noncomputable def ksA15 (P : Params) : List (Addr × Obj) := ks15 P ++ ksA14 P
noncomputable def ksA16 (P : Params) : List (Addr × Obj) := ks16 P ++ ksA15 P
noncomputable def ksA17 (P : Params) : List (Addr × Obj) := ks17 P ++ ksA16 P
noncomputable def ksA18 (P : Params) : List (Addr × Obj) := ks18 P ++ ksA17 P
noncomputable def ksA19 (P : Params) : List (Addr × Obj) := ks19 P ++ ksA18 P
noncomputable def ksA20 (P : Params) : List (Addr × Obj) := ks20 P ++ ksA19 P
noncomputable def ksA21 (P : Params) : List (Addr × Obj) := ks21 P ++ ksA20 P
noncomputable def ksA22 (P : Params) : List (Addr × Obj) := ks22 P ++ ksA21 P
noncomputable def ksA23 (P : Params) : List (Addr × Obj) := ks23 P ++ ksA22 P
noncomputable def ksA24 (P : Params) : List (Addr × Obj) := ks24 P ++ ksA23 P
noncomputable def ksA25 (P : Params) : List (Addr × Obj) := ks25 P ++ ksA24 P
noncomputable def ksA26 (P : Params) : List (Addr × Obj) := ks26 P ++ ksA25 P
noncomputable def ksA27 (P : Params) : List (Addr × Obj) := ks27 P ++ ksA26 P
noncomputable def ksA28 (P : Params) : List (Addr × Obj) := ks28 P ++ ksA27 P
noncomputable def ksA29 (P : Params) : List (Addr × Obj) := ks29 P ++ ksA28 P
noncomputable def ksA30 (P : Params) : List (Addr × Obj) := ks30 P ++ ksA29 P
noncomputable def ksA31 (P : Params) : List (Addr × Obj) := ks31 P ++ ksA30 P
noncomputable def ksA32 (P : Params) : List (Addr × Obj) := ks32 P ++ ksA31 P
noncomputable def ksA33 (P : Params) : List (Addr × Obj) := ks33 P ++ ksA32 P
noncomputable def ksA34 (P : Params) : List (Addr × Obj) := ks34 P ++ ksA33 P
noncomputable def ksA35 (P : Params) : List (Addr × Obj) := ks35 P ++ ksA34 P
noncomputable def ksA36 (P : Params) : List (Addr × Obj) := ks36 P ++ ksA35 P
noncomputable def ksA37 (P : Params) : List (Addr × Obj) := ks37 P ++ ksA36 P
noncomputable def ksA38 (P : Params) : List (Addr × Obj) := ks38 P ++ ksA37 P
noncomputable def ksA39 (P : Params) : List (Addr × Obj) := ks39 P ++ ksA38 P
noncomputable def ksA40 (P : Params) : List (Addr × Obj) := ks40 P ++ ksA39 P
noncomputable def ksA41 (P : Params) : List (Addr × Obj) := ks41 P ++ ksA40 P
noncomputable def ksA42 (P : Params) : List (Addr × Obj) := ks42 P ++ ksA41 P
noncomputable def ksA43 (P : Params) : List (Addr × Obj) := ks43 P ++ ksA42 P
noncomputable def ksA44 (P : Params) : List (Addr × Obj) := ks44 P ++ ksA43 P
theorem body_is : behindTheImports pw = sts 0 4 ++ (sts 4 1 ++ (sts 5 1 ++ (sts 6 1 ++ (sts 7 1 ++ (sts 8 1 ++ (sts 9 1 ++ (sts 10 1 ++ (sts 11 1 ++ (sts 12 1 ++ (sts 13 1 ++ (sts 14 1 ++ (sts 15 1 ++ (sts 16 1 ++ (sts 17 1 ++ (sts 18 1 ++ (sts 19 1 ++ (sts 20 1 ++ (sts 21 1 ++ (sts 22 1 ++ (sts 23 1 ++ (sts 24 1 ++ (sts 25 2 ++ (sts 27 1 ++ (sts 28 1 ++ (sts 29 9 ++ (sts 38 1 ++ (sts 39 7 ++ (sts 46 1 ++ (sts 47 1 ++ (sts 48 9 ++ (sts 57 1 ++ (sts 58 9 ++ (sts 67 1 ++ (sts 68 1 ++ (sts 69 2 ++ (sts 71 1 ++ (sts 72 5 ++ (sts 77 1 ++ (sts 78 2 ++ (sts 80 1 ++ (sts 81 2 ++ (sts 83 1 ++ (sts 84 13 ++ []))))))))))))))))))))))))))))))))))))))))))) := by kernel_rfl
noncomputable def fuelR : Nat := 94 + (221 + (214 + (291 + (296 + (291 + (293 + (295 + (297 + (295 + (295 + (293 + (291 + (292 + (297 + (293 + (293 + (293 + (300 + (284 + (280 + (279 + (238 + (214 + (262 + (107 + (41 + (195 + (386 + (637 + (230 + (382 + (146 + (252 + (176 + (29 + (731 + (66 + (429 + (25 + (392 + (19 + (733 + (394 + 2)))))))))))))))))))))))))))))))))))))))))))
noncomputable def Go (w : World) (os : OsState) (n t : Nat) (l lA : List (Addr × Obj)) (body : List Stmt) (fuel : Nat) (p : Pos) : Prop := ∀ h : Heap, h.objs.size = n → Kn l h → Kn lA h →
  ∃ h', h'.objs.size = 1378 ∧ Kn (kn44 w.params) h' ∧ Kn (ksA44 w.params) h' ∧ topRun treeTable pw w 11 (some (.ref 6)) fuel ⟨h, #[], {}, t, os⟩ (restOf body mEnv cE p [topFrame ⟨0,0,0,0⟩]) = some ⟨h', #[], {}, 2276, os⟩
theorem go_step {w : World} {os : OsState} {i n st : Nat} {p0 p1 : Pos} {l k s lA : List (Addr × Obj)} {n0 n1 t0 t1 : Nat} {rest : List Stmt} {fuel : Nat}
    (e : RS w os i n st p0 l n0 t0 (k ++ s) n1 t1 p1) (ck : (lA.map (·.1)).all (fun a => !dyn.elem a) = true) (z : Go w os n1 t1 k (s ++ lA) rest fuel p1) : Go w os n0 t0 l lA (sts i n ++ rest) (st + fuel) p0 := by
  intro h hs hk ha
  obtain ⟨h1, s1, k1, p1, e1⟩ := piece_of e hs hk
  obtain ⟨h', a, b, c, d⟩ := z h1 s1 k1.left (Kn.app k1.right (ha.keep hs p1 ck))
  exact ⟨h', a, b, c, piece_app e1 d⟩
theorem go_all (w : World) (os : OsState) : Go w os 15 187 (kn0 w.params) (ksA0 w.params) (behindTheImports pw) fuelR ⟨0,0,0,0⟩ := by
  rw [body_is]
  exact go_step (r0 w os) (by kernel_rfl) (go_step (r1 w os) (by kernel_rfl) (go_step (r2 w os) (by kernel_rfl) (go_step (r3 w os) (by kernel_rfl) (go_step (r4 w os) (by kernel_rfl) (go_step (r5 w os) (by kernel_rfl) (go_step (r6 w os) (by kernel_rfl) (go_step (r7 w os) (by kernel_rfl) (go_step (r8 w os) (by kernel_rfl) (go_step (r9 w os) (by kernel_rfl) (go_step (r10 w os) (by kernel_rfl) (go_step (r11 w os) (by kernel_rfl) (go_step (r12 w os) (by kernel_rfl) (go_step (r13 w os) (by kernel_rfl) (go_step (r14 w os) (by kernel_rfl) (go_step (r15 w os) (by kernel_rfl) (go_step (r16 w os) (by kernel_rfl) (go_step (r17 w os) (by kernel_rfl) (go_step (r18 w os) (by kernel_rfl) (go_step (r19 w os) (by kernel_rfl) (go_step (r20 w os) (by kernel_rfl) (go_step (r21 w os) (by kernel_rfl) (go_step (r22 w os) (by kernel_rfl) (go_step (r23 w os) (by kernel_rfl) (go_step (r24 w os) (by kernel_rfl) (go_step (r25 w os) (by kernel_rfl) (go_step (r26 w os) (by kernel_rfl) (go_step (r27 w os) (by kernel_rfl) (go_step (r28 w os) (by kernel_rfl) (go_step (r29 w os) (by kernel_rfl) (go_step (r30 w os) (by kernel_rfl) (go_step (r31 w os) (by kernel_rfl) (go_step (r32 w os) (by kernel_rfl) (go_step (r33 w os) (by kernel_rfl) (go_step (r34 w os) (by kernel_rfl) (go_step (r35 w os) (by kernel_rfl) (go_step (r36 w os) (by kernel_rfl) (go_step (r37 w os) (by kernel_rfl) (go_step (r38 w os) (by kernel_rfl) (go_step (r39 w os) (by kernel_rfl) (go_step (r40 w os) (by kernel_rfl) (go_step (r41 w os) (by kernel_rfl) (go_step (r42 w os) (by kernel_rfl) (go_step (r43 w os) (by kernel_rfl) (fun h s k a => ⟨h, s, k, a, rfin w h _ os _⟩))))))))))))))))))))))))))))))))))))))))))))
theorem top_run (w : World) (os : OsState) : ∃ h, h.objs.size = 1378 ∧ Kn (kn44 w.params) h ∧ Kn (ksA44 w.params) h ∧
    topRun treeTable pw w 11 (some (.ref 6)) (12 + (1 + fuelR)) ⟨boot_heap w.params, #[], boot_drawn, boot_toks, os⟩ (topStub pw) = some ⟨h, #[], {}, 2276, os⟩ := by
  obtain ⟨h0, s0, k0, e0⟩ := pre_of w os
  obtain ⟨h, a, b, c, d⟩ := go_all w os h0 s0 k0 (fun p hp => nomatch hp)
  exact ⟨h, a, b, c, go_top e0 (piece_block (rblock w _) d)⟩
section
set_option maxHeartbeats 0
abbrev rw0 := PySem.Challenge.rw_pb0465_01
noncomputable abbrev rp : Program := rw0.prog
theorem and2 {a b : Bool} (x : a = true) (y : b = true) : (a && b) = true := by rw [x, y]; rfl
theorem v1 : sreFenced rp.main = true := (congrFun Fast.te11788848310118352699 rp.main).trans (by kernel_rfl)
theorem v2 : (moduleNames rp.main.body).isEmpty = true := (congrArg List.isEmpty (congrFun Fast.te9807087744658564304 rp.main.body)).trans (by kernel_rfl)
theorem v3 : namesResolve rp = true := (congrFun Fast.te8377067652309620493 rp).trans (by kernel_rfl)
theorem v4 : rp.boundNames.all (fun n => !worldNames.contains n) = true := (congrArg (fun l => List.all l fun n => !worldNames.contains n) (congrFun Fast.te18344453789297297638 rp)).trans (by kernel_rfl)
theorem v5 : importedModules rp.main.body = [] := (congrFun Fast.te5923862056798008813 _).trans (by kernel_rfl)
theorem va : readsOut rp rp.main.body "vars" = false := (congrFun (congrFun (congrFun Fast.te13343964577679436407 rp) rp.main.body) _).trans (by kernel_rfl)
theorem vb : readsOut rp rp.main.body "dir" = false := (congrFun (congrFun (congrFun Fast.te13343964577679436407 rp) rp.main.body) _).trans (by kernel_rfl)
theorem vc : readsOut rp rp.main.body "locals" = false := (congrFun (congrFun (congrFun Fast.te13343964577679436407 rp) rp.main.body) _).trans (by kernel_rfl)
theorem v6 : (["vars", "dir", "locals"] : List Str).filter (readsOut rp rp.main.body) = [] := by
  rw [List.filter_cons_of_neg (by rw [va]; decide), List.filter_cons_of_neg (by rw [vb]; decide), List.filter_cons_of_neg (by rw [vc]; decide)]; rfl
theorem v7 : noRoadLSs { strict := false, foot := none, bare := [] } rp.main.body = true := (congrFun (congrFun Fast.te8326940854005059898 _) _).trans (by kernel_rfl)
theorem v8 : namesMeet rp rp.main.body (fun _ n => attrL n) = true := (congrFun (congrFun (congrFun Fast.te17119622794617984870 _) _) _).trans (by rw [show attrL = _ from Fast.te17868728402115742887]; kernel_rfl)
theorem v9 : looksOpen rp = true := and2 (and2 (and2 (and2 (and2 v1 (Bool.or_eq_true_iff.mpr (.inl v2))) v3) v4) (by rw [v5, v6]; exact v7)) v8
theorem t1 : rw0.row.wellSaid = true := and2 (and2 (and2 (and2 (and2 (and2 (and2 (and2 (and2 (and2 (and2 (and2 (and2 (and2 (and2 v9 (by kernel_rfl)) (by kernel_rfl)) (by kernel_rfl)) (by kernel_rfl)) (by kernel_rfl)) (by kernel_rfl)) (by kernel_rfl)) (by kernel_rfl)) (by kernel_rfl)) (by kernel_rfl)) (by kernel_rfl)) (by kernel_rfl)) (by kernel_rfl)) (by kernel_rfl)) (by kernel_rfl)
theorem t2 : decide (rw0.foot ≤ (behindTheImports rw0.prog).length) = true := by kernel_rfl
theorem t3 : rw0.footing.all footLine = true := by rw [Fast.te10501279942588096481]; kernel_rfl
theorem t4 : (noClassBlock rw0.prog rw0.footing) = true := (congrFun (congrFun Fast.te8179353310426384613 _) _).trans (by kernel_rfl)
theorem t5 : rw0.most.all (fun n => decide (63 ≤ n)) = true := by kernel_rfl
theorem t6 : rw0.bound.all (fun n => decide (2 ^ 63 ≤ n)) = true := by kernel_rfl
theorem t7 : noRoadLSs { strict := true, foot := some rw0.bound', writes := rw0.writes, may := rw0.may } rw0.footing = true := (congrFun (congrFun Fast.te8326940854005059898 _) _).trans (by kernel_rfl)
theorem t8 : (defStands rw0.about rw0.above) = true := (congrFun (congrFun Fast.te9558739934217749035 _) _).trans (by kernel_rfl)
theorem t9 : rw0.namesIt = true := (congrFun Fast.te16286561074155671207 _).trans (by kernel_rfl)
theorem t10 : (["type", "isinstance", "issubclass", "getattr", "hasattr"] : List Str).all (fun n => rw0.about != [n]) = true := by kernel_rfl
theorem t11 : rw0.bound'.all (fun n => !builtinNamed n || rw0.about == [n] || !rw0.reads n) = true := by rw [Fast.named_eq]; kernel_rfl
theorem t12 : (!rw0.writes || (rw0.prog.main.body.flatMap importedNames).all fun n => !rw0.reads n) = true := by kernel_rfl
theorem t13 : (rw0.prog.main.body.flatMap importedNames).all (fun n => !rw0.reads n || (drawsOf n rw0.prog.main.body).all fun mn => mn.2 != ("attrgetter" : Str) && mn.2 != ("methodcaller" : Str)) = true := by kernel_rfl
theorem t14 : namesMeet rw0.prog rw0.footing (fun sc n => (!(["type", "isinstance", "issubclass", "getattr", "hasattr"] : List Str).contains n || sc.names.lookup n == some .globalImplicit) &&
    (rw0.may != some n || sc.kind == .module || sc.names.lookup n == some .globalImplicit)) = true := (congrFun (congrFun (congrFun Fast.te17119622794617984870 _) _) _).trans (by kernel_rfl)
theorem t15 : rw0.own.contains rw0.name = true := by kernel_rfl
theorem t16 : (rw0.own.eraseDups.length == rw0.own.length) = true := by kernel_rfl
theorem t17 : rw0.own.all (fun n => !builtinNamed n) = true := by rw [Fast.named_eq]; kernel_rfl
theorem t18 : namesMeet rw0.prog rw0.above (fun _ n => !rw0.own.contains n) = true := (congrFun (congrFun (congrFun Fast.te17119622794617984870 _) _) _).trans (by kernel_rfl)
theorem t19 : namesMeet rw0.prog rw0.footing (fun sc n => sc.kind == .module || sc.names.lookup n != some .globalExplicit) = true := (congrFun (congrFun (congrFun Fast.te17119622794617984870 _) _) _).trans (by kernel_rfl)
theorem ws : rw0.wellSaid = true := and2 (and2 (and2 (and2 (and2 (and2 (and2 (and2 (and2 (and2 (and2 (and2 (and2 (and2 (and2 (and2 (and2 (and2 t1 t2) t3) t4) t5) t6) t7) t8) t9) t10) t11) t12) t13) t14) t15) t16) t17) t18) t19
noncomputable abbrev wH (m : Module) (l : List Stmt) : Bool := TablesWhole.wSs TablesWhole.holds m.scope ⟨m.scope, [], [], [], none⟩ m.scope l
theorem wH_app (m : Module) (a b : List Stmt) : wH m (a ++ b) = (wH m a && wH m b) := by
  induction a with
  | nil => rfl
  | cons s a ih => exact (congrArg (TablesWhole.wS TablesWhole.holds m.scope ⟨m.scope, [], [], [], none⟩ m.scope s && ·) ih).trans (Bool.and_assoc ..).symm
theorem wMod {m : Module} (n : Nat) (h : TablesWhole.wSs TablesWhole.gather m.scope ⟨m.scope, [], [], [], none⟩ m.scope m.body = []) (h1 : TablesWhole.noTwice m.scope = true) (h2 : wH m (m.body.take n) = true) (h3 : wH m (m.body.drop n) = true) : TablesWhole.wModule TablesWhole.holds m = true := by
  unfold TablesWhole.wModule
  rw [h]
  exact and2 h1 (and2 ((congrArg (wH m) (List.take_append_drop n m.body).symm).trans ((wH_app ..).trans (and2 h2 h3))) rfl)
theorem wPr {p : Program} (h : TablesWhole.wModule TablesWhole.holds p.main = true) (h1 : p.modules = []) (h2 : p.parses = []) (h3 : p.harvested = []) : p.tablesWhole = true := by
  unfold Program.tablesWhole TablesWhole.wProgram
  rw [h1, h2, h3, h]; rfl
theorem w0 : TablesWhole.wSs TablesWhole.gather rp.main.scope ⟨rp.main.scope, [], [], [], none⟩ rp.main.scope rp.main.body = [] := by kernel_rfl
theorem w1 : wH rp.main (rp.main.body.take 60) = true := by kernel_rfl
theorem w2 : wH rp.main (rp.main.body.drop 60) = true := by kernel_rfl
theorem w3 : TablesWhole.noTwice rp.main.scope = true := by kernel_rfl
theorem w4 : rp.tablesWhole = true := wPr (wMod 60 w0 w3 w1 w2) (by kernel_rfl) (by kernel_rfl) (by kernel_rfl)
end
noncomputable def qv : Program := { pw with main := { pw.main with body := sts 96 1 } }
noncomputable def lo : List Str := (pw.boundNames).filter fun n => n != "law"
noncomputable abbrev KL (P : Params) : List (Addr × Obj) := kn44 P ++ ksA44 P
theorem get_kn {L : List (Addr × Obj)} {h : Heap} (k : Kn L h) {a : Addr} {o : Obj} (e : L.lookup a = some o) (al : alive o = some o) : h.get? a = some o := by
  have hm : (a, o) ∈ L := by
    clear k al
    induction L with
    | nil => cases e
    | cons p r ih =>
      obtain ⟨b, x⟩ := p
      simp only [List.lookup] at e
      split at e
      · rename_i q; cases e; rw [beq_iff_eq.mp q]; exact .head _
      · exact .tail _ (ih e)
  rw [get?_of (k _ hm)]; exact al
noncomputable def oLaw (P : Params) : Obj := fnO (stAt 96) "law" .none (.str "law_pb0465_01" 2150) 1376
noncomputable def Lk (P : Params) : List (Addr × Obj) := [0, 1, 2, 3, 4, 1374, 1376, 1377].filterMap fun a => ((KL P).lookup a).map fun o => (a, o)
noncomputable def filler : Obj := { cls := .none, data := .freed }
noncomputable def hk (P : Params) : Heap := ⟨((List.range 1378).map fun i => ((Lk P).lookup i).getD filler).toArray, {}⟩
theorem hk_ok (P : Params) : ([0, 1, 2, 3, 4, 1374, 1376, 1377] : List Addr).map (hk P).get? = ([0, 1, 2, 3, 4, 1374, 1376, 1377] : List Addr).map (fun a => (KL P).lookup a) := by kernel_rfl
theorem al_ok (P : Params) : ([0, 1, 2, 3, 4, 1374, 1376, 1377] : List Addr).map (fun a => ((KL P).lookup a).bind alive) = ([0, 1, 2, 3, 4, 1374, 1376, 1377] : List Addr).map (fun a => (KL P).lookup a) := by kernel_rfl
theorem so_ok (P : Params) : ([0, 1, 2, 3, 4, 1374, 1376, 1377] : List Addr).map (fun a => ((KL P).lookup a).isSome) = [true, true, true, true, true, true, true, true] := by kernel_rfl
noncomputable def Same (h h' : Heap) : Prop := ∀ a ∈ ([0, 1, 2, 3, 4, 1374, 1376, 1377] : List Addr), h.get? a = h'.get? a
theorem same_of {P : Params} {h : Heap} (k : Kn (KL P) h) : Same h (hk P) := by
  intro a ha
  have e1 : (hk P).get? a = (KL P).lookup a := List.map_inj_left.mp (hk_ok P) a ha
  have e2 : ((KL P).lookup a).bind alive = (KL P).lookup a := List.map_inj_left.mp (al_ok P) a ha
  have e3 : ((KL P).lookup a).isSome = true := by
    have z := so_ok P
    have : ∀ x ∈ ([0, 1, 2, 3, 4, 1374, 1376, 1377] : List Addr).map (fun a => ((KL P).lookup a).isSome), x = true := by rw [z]; simp
    exact this _ (List.mem_map_of_mem ha)
  obtain ⟨o, ho⟩ := Option.isSome_iff_exists.mp e3
  rw [e1, ho]
  rw [ho] at e2
  exact get_kn k ho e2
section
variable {h h' : Heap}
theorem isNs_c {a : Addr} (e : h.get? a = h'.get? a) : h.isNs a = h'.isNs a := by unfold Heap.isNs; rw [e]
theorem nsMap_c {a : Addr} (e : h.get? a = h'.get? a) (x : Str) : h.nsMap a x = h'.nsMap a x := by unfold Heap.nsMap; rw [e]
theorem nsKeys_c {a : Addr} (e : h.get? a = h'.get? a) : h.nsKeys a = h'.nsKeys a := by unfold Heap.nsKeys; rw [e]
theorem nsPairs_c {a : Addr} (e : h.get? a = h'.get? a) : h.nsPairs a = h'.nsPairs a := by unfold Heap.nsPairs; rw [e]
end
section
variable {P : Params} {h : Heap} (S : Same h (hk P))
include S
theorem s0 : h.get? 0 = (hk P).get? 0 := S 0 (by simp)
theorem s1 : h.get? 1 = (hk P).get? 1 := S 1 (by simp)
theorem s2 : h.get? 2 = (hk P).get? 2 := S 2 (by simp)
theorem s3 : h.get? 3 = (hk P).get? 3 := S 3 (by simp)
theorem s4 : h.get? 4 = (hk P).get? 4 := S 4 (by simp)
theorem s1374 : h.get? 1374 = (hk P).get? 1374 := S 1374 (by simp)
theorem s1376 : h.get? 1376 = (hk P).get? 1376 := S 1376 (by simp)
theorem s1377 : h.get? 1377 = (hk P).get? 1377 := S 1377 (by simp)
end
theorem law_at (P : Params) : (hk P).nsMap mainGlobals "law" = some (.ref 1377) := by kernel_rfl
theorem blt_at (P : Params) : (hk P).nsMap mainGlobals "__builtins__" = some (.ref 4) := by kernel_rfl
theorem lawO (P : Params) : (hk P).get? 1377 = some (oLaw P) := by kernel_rfl
noncomputable def fdLaw : FuncData := { name := fName (stAt 96), qualname := "law", params := fArgs (stAt 96), body := .stmts (fBody (stAt 96)), scope := fScope (stAt 96), globals := 3, closure := [], defaults := .none, kwdefaults := .none, pyModule := .str "law_pb0465_01" 2150, code := .ref 1376, builtins := 0 }
theorem oLaw_data (P : Params) : (oLaw P).data = .func fdLaw := rfl
theorem tab_at (P : Params) : (hk P).tab0At 1376 = some 1374 := by kernel_rfl
section
variable {P : Params} {h : Heap} (S : Same h (hk P))
include S
theorem fnAt_c : h.fnAt mainGlobals "law" = (hk P).fnAt mainGlobals "law" := by
  unfold Heap.fnAt
  rw [nsMap_c (a := mainGlobals) (s3 S), law_at]
  dsimp only
  rw [s1377 S]
theorem fnAt_k : h.fnAt mainGlobals "law" = some (1377, oLaw P, fdLaw) := by
  unfold Heap.fnAt
  rw [nsMap_c (a := mainGlobals) (s3 S), law_at]
  dsimp only
  rw [s1377 S, lawO]
  rfl
theorem rec_c (q : Str) : h.codeRecOk (.ref 1376) q = (hk P).codeRecOk (.ref 1376) q := by
  unfold Heap.codeRecOk
  dsimp only
  rw [s1376 S]
end
theorem same_self (P : Params) : Same (hk P) (hk P) := fun _ _ => rfl
section
variable {P : Params} {h : Heap} (S : Same h (hk P))
include S
theorem shape_c : h.shapeAt mainGlobals "law" = (hk P).shapeAt mainGlobals "law" := by
  unfold Heap.shapeAt
  rw [fnAt_k S, fnAt_k (same_self P)]
  show some _ = some _
  dsimp only [fdLaw]
  rw [rec_c S]
theorem tab0At_c : h.tab0At 1376 = (hk P).tab0At 1376 := by
  have e : (hk P).get? 1376 = some { cls := .type "code", data := .fields #[.str "law" 2270, .str "law" 2271, .str "/claim/cut.py" 2272, .int 971 0, .int 1 0, .int 0 0, .int 0 0, .int 3 0, .ref 1373, .bool true, .int 181 0, .ref 1374, .none, .none, .none, .ref 1375, .int 2273 0, .int 971 0, .str "/claim/cut.py" 2274] } := by kernel_rfl
  unfold Heap.tab0At
  rw [s1376 S, e]
  show (if _ then (match h.get? 1374 with | _ => _) else _) = (if _ then (match (hk P).get? 1374 with | _ => _) else _)
  rw [s1374 S]
theorem tab0_c : h.tab0Ok "law" = (hk P).tab0Ok "law" := by
  unfold Heap.tab0Ok
  rw [fnAt_k S, fnAt_k (same_self P)]
  show (h.tab0At 1376).isSome = ((hk P).tab0At 1376).isSome
  rw [tab0At_c S]
theorem bmain_c : h.bmainOk = (hk P).bmainOk := by
  unfold Heap.bmainOk
  rw [nsMap_c (a := mainGlobals) (s3 S), blt_at]
  dsimp only
  rw [s4 S]
theorem seer_c : h.noSeerOk = (hk P).noSeerOk := by
  unfold Heap.noSeerOk
  rw [isNs_c (a := cStatics) (s2 S), nsMap_c (a := cStatics) (s2 S), nsMap_c (a := cStatics) (s2 S), isNs_c (a := sysModules) (s1 S), nsMap_c (a := sysModules) (s1 S)]
theorem lim_c : h.noLimitOk = (hk P).noLimitOk := by
  unfold Heap.noLimitOk
  rw [isNs_c (a := cStatics) (s2 S), nsMap_c (a := cStatics) (s2 S)]
theorem dig_c : h.noDigitsOk = (hk P).noDigitsOk := by
  unfold Heap.noDigitsOk
  rw [isNs_c (a := cStatics) (s2 S), nsMap_c (a := cStatics) (s2 S)]
theorem blt_c : h.bltView = (hk P).bltView := by
  unfold Heap.bltView
  rw [nsPairs_c (a := builtinsNs) (s0 S)]
theorem keys_c (a b c d : List Str) : h.keysOk a b c d = (hk P).keysOk a b c d := by
  unfold Heap.keysOk
  rw [nsKeys_c (a := mainGlobals) (s3 S)]
theorem acc_c : h.accountedOkI [] = (hk P).accountedOkI [] := by
  unfold Heap.accountedOkI
  rw [isNs_c (a := cStatics) (s2 S), nsKeys_c (a := cStatics) (s2 S)]
  simp only [List.any_nil, Bool.or_false, Bool.false_and, List.contains_nil, Bool.and_false]
end
theorem q_recs : (recsOf qv).map (·.name) = (["law"] : List Str) := by kernel_rfl
theorem q_owns : ownsOf qv = [] := by kernel_rfl
theorem q_lits : litsOf qv = [] := by kernel_rfl
theorem q_clss (l : List Str) : clssOf qv l = [] := by kernel_rfl
theorem q_vals : valNames qv = [] := by kernel_rfl
theorem q_imp : importsNone qv = true := by kernel_rfl
theorem q_drecs : drecsOf qv = [] := by kernel_rfl
theorem q_plains (l : List Str) : plainsOf qv l = [] := by kernel_rfl
theorem q_dclss (l : List Str) : dclssOf qv l = [] := by kernel_rfl
theorem q_wdefs : wdefsOf qv = [] := by kernel_rfl
theorem q_wlits : wlitsOf qv = [] := by kernel_rfl
theorem q_wclss (l : List Str) : wclssOf qv l = [] := by kernel_rfl
theorem q_mods : importedModules pw.main.body = [] := by kernel_rfl
theorem tabs_c {P : Params} {h : Heap} (S : Same h (hk P)) (os : OsState) : tabsOk qv ⟨h, #[], {}, 2276, os⟩ = tabsOk qv ⟨hk P, #[], {}, 2276, os⟩ := by
  have e : ∀ h : Heap, (recsOf qv).all (fun d => h.tab0Ok d.name) = ((recsOf qv).map (·.name)).all h.tab0Ok := fun h => by rw [List.all_map]; rfl
  have v : ∀ h : Heap, valsOk qv h = true := fun h => by unfold valsOk; rw [q_vals]; rfl
  unfold tabsOk
  dsimp only
  rw [e, e, v, v, q_recs, q_imp, bmain_c S, seer_c S]
  simp only [List.all_cons, List.all_nil, tab0_c S]
theorem seen_c {P : Params} {h : Heap} (S : Same h (hk P)) (os : OsState) : seen ["law"] [] [] ⟨h, #[], {}, 2276, os⟩ = seen ["law"] [] [] ⟨hk P, #[], {}, 2276, os⟩ := by
  unfold seen
  dsimp only
  rw [isNs_c (a := mainGlobals) (s3 S), isNs_c (a := builtinsNs) (s0 S), lim_c S, dig_c S]
  simp only [List.map_cons, List.map_nil, shape_c S, List.all_nil]
theorem open_c {P : Params} {h : Heap} (S : Same h (hk P)) (os : OsState) : openSeen qv lo [] (fun _ => true) true ⟨h, #[], {}, 2276, os⟩ = openSeen qv lo [] (fun _ => true) true ⟨hk P, #[], {}, 2276, os⟩ := by
  unfold openSeen
  dsimp only
  rw [q_recs, q_owns, seen_c S, blt_c S, keys_c S, acc_c S, isNs_c (a := mainGlobals) (s3 S), isNs_c (a := builtinsNs) (s0 S), tabs_c S]
  unfold tablesOk pinSeenD plainSeenE plainSeenD wideSeen clsSeenW
  rw [q_vals, q_drecs, q_plains, q_dclss, q_wdefs, q_wlits, q_wclss]
  rfl
theorem open_k (P : Params) (os : OsState) : openSeen qv lo [] (fun _ => true) true ⟨hk P, #[], {}, 2276, os⟩ = openGood qv lo := by kernel_rfl
noncomputable def asK : List Addr := [2, 3, 12, 50, 64, 573, 586, 0, 1, 4, 13, 49, 63, 572, 585, 1304, 1303, 1311, 1310, 1318, 1317, 1325, 1324, 1332, 1331, 1339, 1338, 1346, 1345, 1351, 1350, 1358, 1357, 1365, 1364, 1372, 1371, 1377, 1376, 1374, 1178, 1177, 1185, 1184, 1192, 1191, 1199, 1198, 1206, 1205, 1213, 1212, 1220, 1219, 1227, 1226, 1234, 1233, 1241, 1240, 1248, 1247, 1255, 1254, 1262, 1261, 1269, 1268, 1276, 1275, 1283, 1282, 1290, 1289, 1293, 1292, 1122, 1121, 1129, 1128, 1136, 1135, 1143, 1142, 1150, 1149, 1157, 1156, 1160, 1159, 1108, 1059, 1058, 1067, 1066, 1060, 1079, 1078, 1103, 1102, 1045, 1044, 925, 924, 933, 932, 926, 940, 939, 947, 946, 982, 981, 989, 988, 1024, 1023, 1034, 1033, 910, 911, 909, 908, 907, 906, 846, 845, 853, 852, 860, 859, 867, 866, 874, 873, 879, 878, 882, 881, 798, 797, 806, 805, 813, 812, 818, 817, 825, 824, 799, 700, 699, 707, 706, 714, 713, 721, 720, 728, 727, 735, 734, 742, 741, 749, 748, 756, 755, 763, 762, 770, 769, 777, 776, 787, 786, 644, 643, 651, 650, 658, 657, 665, 664, 682, 681, 616, 615, 623, 622, 630, 629, 610, 611, 609, 608, 602, 601, 605, 604, 585, 572, 544, 543, 551, 550, 554, 553, 520, 519, 525, 524, 528, 527, 494, 493, 501, 500, 504, 503, 478, 477, 452, 451, 426, 425, 298, 297, 272, 271, 246, 245, 220, 219, 184, 183, 191, 190, 194, 193, 168, 167, 142, 141, 106, 105, 113, 112, 116, 115, 80, 79, 87, 86, 90, 89, 63, 49, 28, 27]
theorem asK_ok (P : Params) : (KL P).map (·.1) = asK := by kernel_rfl
theorem asK_al (P : Params) : asK.map (fun a => ((KL P).lookup a).bind alive) = asK.map (fun a => (KL P).lookup a) := by kernel_rfl
theorem asK_some (P : Params) : asK.all (fun a => ((KL P).lookup a).isSome) = true := by kernel_rfl
theorem all_of {P : Params} {h : Heap} (k : Kn (KL P) h) : asK.map h.get? = asK.map fun a => (KL P).lookup a := by
  refine List.map_inj_left.mpr fun a ha => ?_
  have e2 : ((KL P).lookup a).bind alive = (KL P).lookup a := List.map_inj_left.mp (asK_al P) a ha
  obtain ⟨o, ho⟩ := Option.isSome_iff_exists.mp (List.all_eq_true.mp (asK_some P) a ha)
  rw [ho] at e2 ⊢
  exact get_kn k ho e2
noncomputable def Top465 (w : World) (h : Heap) : Prop := asK.map h.get? = asK.map fun a => (KL w.params).lookup a
theorem lookup_mem {α β : Type} [BEq α] [LawfulBEq α] {a : α} {b : β} {l : List (α × β)} (e : l.lookup a = some b) : a ∈ l.map (·.1) := by
  induction l with
  | nil => exact nomatch e
  | cons p l ih =>
    obtain ⟨x, y⟩ := p
    cases q : a == x with
    | true => rw [beq_iff_eq.mp q]; exact .head _
    | false =>
      rw [List.lookup, q] at e
      exact .tail _ (ih e)
theorem Top465.get {w : World} {h : Heap} (T : Top465 w h) {a : Addr} {o : Obj} (e : (KL w.params).lookup a = some o) : h.get? a = some o := by
  have ha : a ∈ asK := by rw [← asK_ok w.params]; exact lookup_mem e
  rw [← e]; exact List.map_inj_left.mp T a ha
theorem Top465.keeps {w : World} {h h' : Heap} (T : Top465 w h) (k : ∀ b o, h.get? b = some o → h'.get? b = some o) : Top465 w h' := by
  refine List.map_inj_left.mpr fun a ha => ?_
  obtain ⟨o, ho⟩ := Option.isSome_iff_exists.mp (List.all_eq_true.mp (asK_some w.params) a ha)
  have z := List.map_inj_left.mp T a ha
  rw [ho] at z ⊢
  exact k a o z
theorem boot1 (P : Params) : ((boot_heap P).isNs mainGlobals && (#[] : Array GenState).size == 0) = true := by kernel_rfl
theorem boot2 (P : Params) : (boot_heap P).nsMap mainGlobals "__annotations__" = some (.ref 6) := by kernel_rfl
noncomputable def lq : List Nat → List Nat → Bool
  | [], r => r.isEmpty
  | a :: l, r => (match r with | [] => false | b :: r => Nat.beq a b && lq l r)
theorem lq_eq {l r : List Nat} (h : lq l r = true) : l = r := by
  induction l generalizing r with
  | nil => exact (List.isEmpty_iff.mp h).symm
  | cons a l ih => cases r with
    | nil => exact Bool.noConfusion (show false = true from h)
    | cons b r =>
      obtain ⟨x, y⟩ := Bool.and_eq_true_iff.mp (show (Nat.beq a b && lq l r) = true from h)
      rw [Nat.eq_of_beq_eq_true x, ih y]
noncomputable def sq (a b : Str) : Bool := lq a.cps.toList b.cps.toList
theorem sq_eq {a b : Str} (h : sq a b = true) : a = b := by
  obtain ⟨⟨a⟩⟩ := a
  obtain ⟨⟨b⟩⟩ := b
  have := lq_eq h
  dsimp only at this
  rw [this]
noncomputable def bnL : List Str := (["_wall", "__name__", "row_of", "rows_of", "Node", "Expr", "Literal", "Name", "Variable", "Unary", "Binary", "Between", "InList", "InSelect", "Exists", "Scalar", "Case", "Call", "Cast", "Collate", "IsNull", "Match", "Insert", "Update", "Delete", "PagebaseError", "SqlError", "ParseError", "QUOTES", "BLANKS", "FIGURES", "HEX_FIGURES", "LETTERS", "NAME_SIGNS", "SIGNS_OF_TWO", "SIGNS_OF_ONE", "LIKE_SIGNS", "MOST_VARIABLE", "GREATEST", "RESERVED", "JOINING", "folded", "begins_name", "goes_on_name", "Word", "Scanner", "read_words", "QUOTED_ALWAYS", "is_bare", "write_name", "write_names", "write_value", "write_type", "ChangeWriter", "read_type", "read_size", "read_names", "LOWEST", "NOT_LEVEL", "EQUAL_LEVEL", "LESS_LEVEL", "SIGN_LEVELS", "KEY_LEVELS", "BEHIND_NOT", "AHEAD_SIGNS", "ExpressionReader", "COLLATE_LEVEL", "AHEAD_LEVEL", "ALONE_LEVEL", "level_of", "ExpressionWriter", "CONFLICTS", "ChangeReader", "MOST_DEPTH", "WordStream", "_law_pool", "_law_take", "_law_one", "_law_name", "_law_value", "_law_where", "_law_conflict", "_law_insert", "_law_update", "_law_delete", "_law_read", "law"] : List String).map Str.ofString
theorem bn_is : pw.boundNames = bnL := by kernel_rfl
theorem nb1 (P : Params) : ((hk P).nsKeys mainGlobals).all (fun k => (startupNames ++ bnL).any fun x => sq x k) = true := by kernel_rfl
theorem nb2 (P : Params) : (hk P).isNs mainGlobals = true := by kernel_rfl
theorem nb (P : Params) : namesBound pw (hk P) = true := by
  unfold namesBound
  rw [nb2, Bool.true_and]
  refine List.all_eq_true.mpr fun k hk => ?_
  obtain ⟨x, hx, e⟩ := List.any_eq_true.mp (List.all_eq_true.mp (nb1 P) k hk)
  rw [sq_eq e, ← bn_is] at hx
  rcases List.mem_append.mp hx with q | q
  · rw [List.contains_iff_mem.mpr q]; rfl
  · rw [List.contains_iff_mem.mpr q, Bool.or_true]
theorem st_k (P : Params) : staticsOk [] (boot_heap P) (hk P) = true := by kernel_rfl
theorem lk_k (P : Params) : laidKept (boot_heap P) (hk P) = true := by kernel_rfl
theorem chk_k (P : Params) : (staticsOk [] (boot_heap P) (hk P) && namesBound pw (hk P) && laidKept (boot_heap P) (hk P)) = true := by rw [st_k, nb, lk_k]; rfl
theorem chk_c {P : Params} {h : Heap} (S : Same h (hk P)) : (staticsOk [] (boot_heap P) h && namesBound pw h && laidKept (boot_heap P) h) = (staticsOk [] (boot_heap P) (hk P) && namesBound pw (hk P) && laidKept (boot_heap P) (hk P)) := by
  unfold staticsOk namesBound laidKept
  rw [isNs_c (a := cStatics) (s2 S), nsKeys_c (a := cStatics) (s2 S), isNs_c (a := mainGlobals) (s3 S), nsKeys_c (a := mainGlobals) (s3 S), show h.nsMap cStatics = (hk P).nsMap cStatics from funext fun x => nsMap_c (s2 S) x, show h.nsMap mainGlobals = (hk P).nsMap mainGlobals from funext fun x => nsMap_c (s3 S) x]
theorem opening_is : opening pw = plainProg pw.main.scope.names := by kernel_rfl
theorem fence_is (s : Shared) : fenceModules? pw s = some s := by kernel_rfl
theorem fuel_le : Nat.ble (12 + (1 + fuelR)) 30000 = true := by kernel_rfl
theorem leftO : LeftO pw qv lo (fun _ => true) (fun s => asK.map s.heap.get?) (fun w => asK.map fun a => (KL w.params).lookup a) 30000 := fun w => by
  obtain ⟨⟨h, gs, d, k, os⟩, e, e'⟩ := Option.map_eq_some_iff.mp (boot_open (p := pw) (N := 30000) opening_is (by decide) fence_is w)
  obtain ⟨rfl, rfl, rfl, rfl⟩ : h = boot_heap w.params ∧ gs = #[] ∧ d = boot_drawn ∧ k = boot_toks := by simpa using e'
  obtain ⟨h₁, sz, k1, k2, r⟩ := top_run w os
  have K : Kn (KL w.params) h₁ := k1.app k2
  have S := same_of K
  have r := topRun_mono (30000 - (12 + (1 + fuelR))) _ _ _ _ r
  rw [show 12 + (1 + fuelR) + (30000 - (12 + (1 + fuelR))) = 30000 by have := Nat.le_of_ble_eq_true fuel_le; omega] at r
  have c := (chk_c S).trans (chk_k w.params)
  have g : gensDone (⟨h₁, #[], {}, 2276, os⟩ : Shared) = true := rfl
  have e2 : (staticsOk (importedModules pw.main.body) (boot_heap w.params) h₁ && namesBound pw h₁ && gensDone ⟨h₁, #[], {}, 2276, os⟩ && laidKept (boot_heap w.params) h₁) = true := by
    rw [q_mods, g, Bool.and_true]; exact c
  have t : topFrom treeTable pw w 30000 ⟨boot_heap w.params, #[], boot_drawn, boot_toks, os⟩ = some ⟨h₁, #[], {}, 2276, os⟩ := by
    unfold topFrom
    dsimp only
    rw [boot1]
    dsimp only
    rw [boot_size, boot2, r]
    dsimp only [Option.bind]
    rw [e2]
  unfold openEnds
  rw [e, Option.bind_some, t, Option.map_some, q_mods, open_c S os, open_k w.params os]
  exact congrArg (fun x => some (openGood qv lo, x)) (all_of K)
set_option maxHeartbeats 0 in
theorem head (call : WalkO qv lo (fun _ _ => True) Top465 rw0.row.toRowW ⟨"law", fArgs (stAt 96), fBody (stAt 96), fScope (stAt 96), ⟨971, 0, 986, 51⟩⟩ [] fun f vs => PySem.call f vs) : rw0.Holds := by
  refine holds_law ws fun said => ?_
  refine holds_open (r := rw0.row) (q := qv) (loose := lo) (Xt := fun _ => true) (XP := fun _ _ => True) (YP := Top465) (N := 30000) leftO (fun w s e => e) (fun w h h' T k => T.keeps k) (fun _ _ => trivial) (fun _ _ _ _ _ => trivial) (by kernel_rfl) (by kernel_rfl) (by kernel_rfl) (fun s e => recFacts_nil rfl) (by rfl) said (by decide +kernel) ⟨rfl, rfl, rfl, rfl, rfl, w4⟩ ?hw call
  case hw => w_witness2
inductive Dat where
  | none | bool (b : Bool) | int (y : Bool) (i : Int) | str (y : Bool) (s : Str) | byt (b : Array UInt8)
  | top (v : Value) | tup (l : List Dat) | lst (y : Bool) (l : List Dat) | inst (C : Addr) (fs : List (Str × Dat)) | rng (n : Int)
inductive SV where
  | d (x : Dat) | inst (C : Addr) (k : Nat) | lst (k : Nat) | tup (l : List SV)
inductive En where
  | loc (l : List (Str × SV)) | flds (l : List (Str × SV)) | lst (l : List Dat) | cell (v : Option SV) | dead
noncomputable abbrev St := List En
theorem lq_refl (l : List Nat) : lq l l = true := by
  induction l with
  | nil => rfl
  | cons a l ih => exact Bool.and_eq_true_iff.mpr ⟨Nat.beq_refl a, ih⟩
theorem sq_refl (a : Str) : sq a a = true := lq_refl _
theorem sq_iff {a b : Str} : sq a b = true ↔ a = b := ⟨sq_eq, fun e => e ▸ sq_refl a⟩
theorem nn {γ : Type} {g : γ} {B : Prop} (h : (none : Option γ) = some g) : B := by cases h
theorem fT {B : Prop} (h : false = true) : B := Bool.noConfusion h
theorem andT {a b : Bool} (h : (a && b) = true) : a = true ∧ b = true := Bool.and_eq_true_iff.mp h
noncomputable def uO {β γ : Type} (o : Option β) (k : β → Option γ) : Option γ := match o with
  | some x => k x
  | none => none
noncomputable def uW {γ : Type} (b : Bool) (k : Option γ) : Option γ := match b with
  | true => k
  | false => none
theorem uO.r {γ : Type} {g : γ} {β : Type} {o : Option β} {k : β → Option γ} {B : Prop} (h : uO o k = some g) (H : ∀ x, k x = some g → o = some x → B) : B := by
  cases o with
  | none => exact nn h
  | some x => exact H x h rfl
theorem uW.r {γ : Type} {g : γ} {b : Bool} {k : Option γ} {B : Prop} (h : uW b k = some g) (H : k = some g → b = true → B) : B := by
  cases b with
  | false => exact nn h
  | true => exact H h rfl
theorem ifC {α : Type} {b : Bool} {x y z : α} {B : Prop} (h : (bif b then x else y) = z) (h1 : b = true → x = z → B) (h2 : b = false → y = z → B) : B := by
  cases b with
  | true => exact h1 rfl h
  | false => exact h2 rfl h
theorem sq_ne {a b : Str} (h : sq a b = false) : a ≠ b := fun e => by rw [e, sq_refl] at h; exact Bool.noConfusion h
theorem sq_beq (a b : Str) : sq a b = (a == b) := by
  rw [Bool.eq_iff_iff, sq_iff, beq_iff_eq]
theorem beq_sq (a b : Str) : (b == a) = sq a b := by
  rw [Bool.eq_iff_iff, sq_iff, beq_iff_eq]; exact eq_comm
noncomputable def lk {α : Type} : List (Str × α) → Str → Option α
  | [], _ => none
  | (n, v) :: r, x => bif sq n x then some v else lk r x
theorem lk_hd {α : Type} {n x : Str} {v : α} {r : List (Str × α)} (h : n = x) : lk ((n, v) :: r) x = some v := by show (bif sq n x then _ else _) = _; rw [h, sq_refl]; rfl
theorem lk_tl {α : Type} {n x : Str} {v : α} {r : List (Str × α)} (h : sq n x = false) : lk ((n, v) :: r) x = lk r x := by show (bif sq n x then _ else _) = _; rw [h]; rfl
noncomputable def pt {α : Type} : List (Str × α) → Str → α → List (Str × α)
  | [], x, v => [(x, v)]
  | (n, w) :: r, x, v => bif sq n x then (n, v) :: r else (n, w) :: pt r x v
theorem lk_pt {α : Type} (x y : Str) (v : α) (l : List (Str × α)) : lk (pt l x v) y = if y = x then some v else lk l y := by
  have one : ∀ r : Option α, (bif sq x y then some v else r) = if y = x then some v else r := fun r => by
    cases h : sq x y with
    | true => rw [if_pos (sq_eq h).symm]; rfl
    | false => rw [if_neg (sq_ne h).symm]; rfl
  induction l with
  | nil => exact one _
  | cons p r ih =>
    show lk (bif sq p.1 x then (p.1, v) :: r else p :: pt r x v) y = if y = x then some v else (bif sq p.1 y then some p.2 else lk r y)
    cases h : sq p.1 x with
    | true => rw [← one]; show (bif sq p.1 y then some v else lk r y) = _; rw [sq_eq h]; cases sq x y <;> rfl
    | false =>
      show (bif sq p.1 y then some p.2 else lk (pt r x v) y) = _
      rw [ih]
      cases h2 : sq p.1 y with
      | true => exact (if_neg (sq_eq h2 ▸ sq_ne h)).symm
      | false => rfl
noncomputable abbrev ZH := Addr → Option Obj
mutual
inductive VD (Z : ZH) : Dat → Value → Prop
  | none : VD Z .none .none
  | bool {b} : VD Z (.bool b) (.bool b)
  | int {y i t} : VD Z (.int y i) (.int i t)
  | str {y s t} : VD Z (.str y s) (.str s t)
  | byt {b t} : VD Z (.byt b) (.bytes b t)
  | top {v} : handedIn v = true → VD Z (.top v) v
  | tup {l a xs ep} : Z a = some ⟨.type "tuple", Option.none, .seq xs ep, #[]⟩ → VDs Z l xs.toList → VD Z (.tup l) (.ref a)
  | lst {y l a xs ep} : Z a = some ⟨.type "list", Option.none, .seq xs ep, #[]⟩ → VDs Z l xs.toList → VD Z (.lst y l) (.ref a)
  | inst {C fs x dx es n} : Z x = some ⟨.ref C, some dx, .plain, #[]⟩ → Z dx = some (dictOf es n) → VDf Z fs es → VD Z (.inst C fs) (.ref x)
  | rng {n a t u v} : Z a = some ⟨.type "range", Option.none, .fields #[.int 0 t, .int n u, .int 1 v], #[]⟩ → VD Z (.rng n) (.ref a)
inductive VDs (Z : ZH) : List Dat → List Value → Prop
  | nil : VDs Z [] []
  | cons {x l v vs} : VD Z x v → VDs Z l vs → VDs Z (x :: l) (v :: vs)
inductive VDf (Z : ZH) : List (Str × Dat) → List DictEntry → Prop
  | nil : VDf Z [] []
  | cons {n x l hs t v es} : VD Z x v → VDf Z l es → VDf Z ((n, x) :: l) (⟨hs, .str n t, v⟩ :: es)
end
noncomputable def ZLe (Z Z' : ZH) : Prop := ∀ a o, Z a = some o → Z' a = some o
theorem VDs.ind {Z : ZH} {M : List Dat → List Value → Prop} (n : M [] []) (c : ∀ {x l v vs}, VD Z x v → VDs Z l vs → M l vs → M (x :: l) (v :: vs)) : ∀ {l vs}, VDs Z l vs → M l vs := by
  intro l
  induction l with
  | nil => intro vs h; cases h; exact n
  | cons x l ih => intro vs h; cases h with | cons a b => exact c a b (ih b)
theorem VDf.ind {Z : ZH} {M : List (Str × Dat) → List DictEntry → Prop} (n : M [] []) (c : ∀ {n x l hs t v es}, VD Z x v → VDf Z l es → M l es → M ((n, x) :: l) (⟨hs, .str n t, v⟩ :: es)) : ∀ {l es}, VDf Z l es → M l es := by
  intro l
  induction l with
  | nil => intro vs h; cases h; exact n
  | cons x l ih => intro vs h; cases h with | cons a b => exact c a b (ih b)
theorem VD.mono {Z Z' : ZH} (h : ZLe Z Z') {x v} (r : VD Z x v) : VD Z' x v :=
  VD.rec (motive_1 := fun x v _ => VD Z' x v) (motive_2 := fun l vs _ => VDs Z' l vs) (motive_3 := fun l es _ => VDf Z' l es) .none .bool .int .str .byt (fun e => .top e) (fun a _ b => .tup (h _ _ a) b) (fun a _ b => .lst (h _ _ a) b)
    (fun a b _ c => .inst (h _ _ a) (h _ _ b) c) (fun a => .rng (h _ _ a)) .nil (fun _ _ a b => .cons a b) .nil (fun _ _ a b => .cons a b) r
theorem VDs.mono {Z Z' : ZH} (h : ZLe Z Z') {l vs} (r : VDs Z l vs) : VDs Z' l vs := r.ind .nil fun a _ b => .cons (a.mono h) b
theorem VDf.mono {Z Z' : ZH} (h : ZLe Z Z') {l es} (r : VDf Z l es) : VDf Z' l es := r.ind .nil fun a _ b => .cons (a.mono h) b
structure Wd where
  ρ : List Addr
  Z : ZH
mutual
inductive VR (W : Wd) : SV → Value → Prop
  | d {x v} : VD W.Z x v → VR W (.d x) v
  | inst {C k x dx} : W.Z x = some ⟨.ref C, some dx, .plain, #[]⟩ → W.ρ[k]? = some dx → VR W (.inst C k) (.ref x)
  | lst {k a} : W.ρ[k]? = some a → VR W (.lst k) (.ref a)
  | tup {l a xs ep} : W.Z a = some ⟨.type "tuple", Option.none, .seq xs ep, #[]⟩ → VRs W l xs.toList → VR W (.tup l) (.ref a)
inductive VRs (W : Wd) : List SV → List Value → Prop
  | nil : VRs W [] []
  | cons {x l v vs} : VR W x v → VRs W l vs → VRs W (x :: l) (v :: vs)
end
inductive VRf (W : Wd) : List (Str × SV) → List DictEntry → Prop
  | nil : VRf W [] []
  | cons {n x l hs t v es} : VR W x v → VRf W l es → VRf W ((n, x) :: l) (⟨hs, .str n t, v⟩ :: es)
structure WLe (W W' : Wd) : Prop where
  ρ : ∃ t, W'.ρ = W.ρ ++ t
  Z : ZLe W.Z W'.Z
theorem WLe.refl (W : Wd) : WLe W W := ⟨⟨[], by simp⟩, fun _ _ e => e⟩
theorem WLe.trans {a b c : Wd} (x : WLe a b) (y : WLe b c) : WLe a c := by
  obtain ⟨t, e⟩ := x.ρ
  obtain ⟨t', e'⟩ := y.ρ
  exact ⟨⟨t ++ t', by rw [e', e, List.append_assoc]⟩, fun a o h => y.Z a o (x.Z a o h)⟩
theorem WLe.at {W W' : Wd} (h : WLe W W') {k : Nat} {a : Addr} (e : W.ρ[k]? = some a) : W'.ρ[k]? = some a := by
  obtain ⟨t, e'⟩ := h.ρ
  rw [e', List.getElem?_append_left (List.getElem?_eq_some_iff.mp e).1]; exact e
theorem VRs.ind {W : Wd} {M : List SV → List Value → Prop} (n : M [] []) (c : ∀ {x l v vs}, VR W x v → VRs W l vs → M l vs → M (x :: l) (v :: vs)) : ∀ {l vs}, VRs W l vs → M l vs := by
  intro l
  induction l with
  | nil => intro vs h; cases h; exact n
  | cons x l ih => intro vs h; cases h with | cons a b => exact c a b (ih b)
theorem VR.mono {W W' : Wd} (h : WLe W W') {x v} (r : VR W x v) : VR W' x v :=
  VR.rec (motive_1 := fun x v _ => VR W' x v) (motive_2 := fun l vs _ => VRs W' l vs) (fun a => .d (a.mono h.Z)) (fun a b => .inst (h.Z _ _ a) (h.at b)) (fun a => .lst (h.at a)) (fun a _ b => .tup (h.Z _ _ a) b) .nil (fun _ _ a b => .cons a b) r
theorem VRs.mono {W W' : Wd} (h : WLe W W') {l vs} (r : VRs W l vs) : VRs W' l vs := r.ind .nil fun a _ b => .cons (a.mono h) b
theorem VRf.mono {W W' : Wd} (h : WLe W W') {l es} (r : VRf W l es) : VRf W' l es := by
  induction r with
  | nil => exact .nil
  | cons a _ b => exact .cons (a.mono h) b
noncomputable def vdI (Z : ZH) : Dat → Value → Prop
  | .none, v => ∃ _ : True, v = .none
  | .bool b, v => ∃ _ : True, v = .bool b
  | .int _ i, v => ∃ t, v = .int i t
  | .str _ s, v => ∃ t, v = .str s t
  | .byt b, v => ∃ t, v = .bytes b t
  | .top x, v => ∃ _ : handedIn x = true, v = x
  | .tup l, v => ∃ a xs ep, Z a = some ⟨.type "tuple", Option.none, .seq xs ep, #[]⟩ ∧ VDs Z l xs.toList ∧ v = .ref a
  | .lst _ l, v => ∃ a xs ep, Z a = some ⟨.type "list", Option.none, .seq xs ep, #[]⟩ ∧ VDs Z l xs.toList ∧ v = .ref a
  | .inst C fs, v => ∃ x dx es n, Z x = some ⟨.ref C, some dx, .plain, #[]⟩ ∧ Z dx = some (dictOf es n) ∧ VDf Z fs es ∧ v = .ref x
  | .rng n, v => ∃ a t u w, Z a = some ⟨.type "range", Option.none, .fields #[.int 0 t, .int n u, .int 1 w], #[]⟩ ∧ v = .ref a
theorem VD.i {Z : ZH} {x : Dat} {v : Value} : VD Z x v → vdI Z x v
  | .none => ⟨trivial, rfl⟩
  | .bool => ⟨trivial, rfl⟩
  | .int => ⟨_, rfl⟩
  | .str => ⟨_, rfl⟩
  | .byt => ⟨_, rfl⟩
  | .top h => ⟨h, rfl⟩
  | .tup a b => ⟨_, _, _, a, b, rfl⟩
  | .lst a b => ⟨_, _, _, a, b, rfl⟩
  | .inst a b c => ⟨_, _, _, _, a, b, c, rfl⟩
  | .rng a => ⟨_, _, _, _, a, rfl⟩
theorem VR.dE {W : Wd} {x : Dat} {v : Value} {motive : VR W (.d x) v → Prop} (t : VR W (.d x) v) (d : ∀ r : VD W.Z x v, motive (.d r)) : motive t := by
  cases t with | d r => exact d r
theorem VD.handed {Z : ZH} : ∀ {x v}, VD Z x v → handedIn v = true
  | _, _, .rng .. => rfl
  | _, _, .none => rfl
  | _, _, .bool => rfl
  | _, _, .int => rfl
  | _, _, .str => rfl
  | _, _, .byt => rfl
  | _, _, .top e => e
  | _, _, .tup .. => rfl
  | _, _, .lst .. => rfl
  | _, _, .inst .. => rfl
theorem VR.handed {W : Wd} : ∀ {x v}, VR W x v → handedIn v = true
  | _, _, .d a => a.handed
  | _, _, .inst .. => rfl
  | _, _, .lst .. => rfl
  | _, _, .tup .. => rfl
inductive ER (W : Wd) (fl : List Addr) (h : Heap) (a : Addr) : En → Prop
  | loc {l m} : W.Z a = none → h.Ns a m → (∀ x s, lk l x = some s → ∃ v, m x = some v ∧ VR W s v) → ER W fl h a (.loc l)
  | flds {l es n} : W.Z a = none → a ∉ fl → h.get? a = some (dictOf es n) → VRf W l es → es.length ≤ 100 → ER W fl h a (.flds l)
  | lst {l xs ep} : W.Z a = none → h.get? a = some ⟨.type "list", none, .seq xs ep, #[]⟩ → VDs W.Z l xs.toList → ER W fl h a (.lst l)
  | cellN : W.Z a = none → h.IsCell a none → ER W fl h a (.cell none)
  | cell {s v} : W.Z a = none → h.IsCell a (some v) → VR W s v → ER W fl h a (.cell (some s))
  | dead : ER W fl h a .dead
theorem VRs.ic {W : Wd} {v : SV} {l : List SV} {as : List Value} : VRs W (v :: l) as → ∃ a r, as = a :: r ∧ VR W v a ∧ VRs W l r
  | .cons a b => ⟨_, _, rfl, a, b⟩
theorem VRs.i1 {W : Wd} {v : SV} {as : List Value} (h : VRs W [v] as) : ∃ a, as = [a] ∧ VR W v a := by
  obtain ⟨a, r, rfl, ra, rs⟩ := h.ic
  cases rs with | nil => exact ⟨a, rfl, ra⟩
theorem VRs.i2 {W : Wd} {v w : SV} {as : List Value} (h : VRs W [v, w] as) : ∃ a b, as = [a, b] ∧ VR W v a ∧ VR W w b :=
  let ⟨a, _, e, ra, rs⟩ := h.ic; let ⟨b, e', rb⟩ := rs.i1; ⟨a, b, e' ▸ e, ra, rb⟩
theorem VRs.i0 {W : Wd} {as : List Value} : VRs W [] as → as = []
  | .nil => rfl
theorem VR.li {W : Wd} {k : Nat} {v : Value} : VR W (.lst k) v → ∃ a, v = .ref a ∧ W.ρ[k]? = some a
  | .lst h => ⟨_, rfl, h⟩
theorem VR.ii {W : Wd} {C k : Nat} {v : Value} : VR W (.inst C k) v → ∃ x dx, v = .ref x ∧ W.Z x = some ⟨.ref C, some dx, .plain, #[]⟩ ∧ W.ρ[k]? = some dx
  | .inst g h => ⟨_, _, rfl, g, h⟩
theorem VR.di {W : Wd} {x : Dat} {v : Value} : VR W (.d x) v → VD W.Z x v
  | .d r => r
theorem VR.i {W : Wd} {x : Dat} {v : Value} (r : VR W (.d x) v) : vdI W.Z x v := r.di.i
theorem ER.li {W : Wd} {fl : List Addr} {h : Heap} {a : Addr} {l : List Dat} : ER W fl h a (.lst l) → ∃ xs ep, W.Z a = none ∧ h.get? a = some ⟨.type "list", none, .seq xs ep, #[]⟩ ∧ VDs W.Z l xs.toList
  | .lst z g v => ⟨_, _, z, g, v⟩
theorem ER.fi {W : Wd} {fl : List Addr} {h : Heap} {a : Addr} {l : List (Str × SV)} : ER W fl h a (.flds l) → ∃ es n, W.Z a = none ∧ a ∉ fl ∧ h.get? a = some (dictOf es n) ∧ VRf W l es ∧ es.length ≤ 100
  | .flds z f g v l => ⟨_, _, z, f, g, v, l⟩
structure Inv (h₀ : Heap) (fl : List Addr) (σ : St) (W : Wd) (h : Heap) : Prop where
  base : ∀ a o, h₀.get? a = some o → W.Z a = some o
  zk : ∀ a o, W.Z a = some o → h.get? a = some o
  len : W.ρ.length = σ.length
  nodup : W.ρ.Nodup
  low : ∀ a ∈ W.ρ, h₀.objs.size ≤ a ∧ a < h.objs.size
  ent : ∀ (i : Nat) (e : En), σ[i]? = some e → ∃ a, W.ρ[i]? = some a ∧ ER W fl h a e
  frz : ∀ a ∈ fl, W.Z a = none
  stk : ∀ a ∈ fl, ∃ m, h.Ns a m
  gr : h₀.objs.size ≤ h.objs.size
structure Step (fl : List Addr) (W : Wd) (h : Heap) (W' : Wd) (h' : Heap) : Prop where
  ρ : ∃ t, W'.ρ = W.ρ ++ t ∧ ∀ a ∈ t, h.objs.size ≤ a
  Z : ZLe W.Z W'.Z
  new : ∀ a o, W'.Z a = some o → W.Z a = some o ∨ a ∈ W.ρ ∨ h.objs.size ≤ a
  keep : ∀ b o, h.get? b = some o → b ∉ W.ρ → b ∉ fl → h'.get? b = some o
  slots : ∀ b o, h.get? b = some o → b ∉ W.ρ → b ∈ fl → ∃ sl, h'.get? b = some { o with slots := sl }
  size : h.objs.size ≤ h'.objs.size
theorem Step.refl (fl : List Addr) (W : Wd) (h : Heap) : Step fl W h W h :=
  ⟨⟨[], by simp, fun _ x => nomatch x⟩, fun _ _ e => e, fun _ _ e => .inl e, fun _ _ e _ _ => e, fun _ o e _ _ => ⟨o.slots, e⟩, Nat.le_refl _⟩
theorem Step.trans {fl : List Addr} {W W' W'' : Wd} {h h' h'' : Heap} (x : Step fl W h W' h') (y : Step fl W' h' W'' h'') : Step fl W h W'' h'' := by
  obtain ⟨t, e, l⟩ := x.ρ
  obtain ⟨t', e', l'⟩ := y.ρ
  have nm : ∀ b o, h.get? b = some o → b ∉ W.ρ → b ∉ W'.ρ := fun b o hb n q => by
    rw [e] at q
    rcases List.mem_append.mp q with q | q
    · exact n q
    · exact absurd (Heap.lt_size hb) (Nat.not_lt.mpr (l b q))
  refine ⟨⟨t ++ t', by rw [e', e, List.append_assoc], fun a m => ?_⟩, fun a o z => y.Z a o (x.Z a o z), fun a o z => ?_, fun b o hb n f => y.keep b o (x.keep b o hb n f) (nm b o hb n) f, fun b o hb n f => ?_, Nat.le_trans x.size y.size⟩
  · rcases List.mem_append.mp m with m | m
    · exact l a m
    · exact Nat.le_trans x.size (l' a m)
  · rcases y.new a o z with q | q | q
    · exact x.new a o q
    · rw [e] at q
      rcases List.mem_append.mp q with q | q
      · exact .inr (.inl q)
      · exact .inr (.inr (l a q))
    · exact .inr (.inr (Nat.le_trans x.size q))
  · obtain ⟨sl, hs⟩ := x.slots b o hb n f
    obtain ⟨sl', hs'⟩ := y.slots b _ hs (nm b o hb n) f
    exact ⟨sl', hs'⟩
theorem Step.le {fl : List Addr} {W W' : Wd} {h h' : Heap} (x : Step fl W h W' h') : WLe W W' := by
  obtain ⟨t, e, _⟩ := x.ρ
  exact ⟨⟨t, e⟩, x.Z⟩
theorem ER.move {W W' : Wd} {fl fl' : List Addr} {h h' : Heap} {a : Addr} {e : En} (r : ER W fl h a e) (hW : WLe W W') (hz : W.Z a = none → W'.Z a = none) (hf : a ∉ fl → a ∉ fl')
    (hh : W.Z a = none → ∀ o, h.get? a = some o → h'.get? a = some o) : ER W' fl' h' a e := by
  cases r with
  | loc z n m =>
    exact .loc (hz z) (n.at' fun o e => hh z o e) fun x s e => let ⟨v, q, r⟩ := m x s e; ⟨v, q, r.mono hW⟩
  | flds z f g v l => exact .flds (hz z) (hf f) (hh z _ g) (v.mono hW) l
  | lst z g v => exact .lst (hz z) (hh z _ g) (v.mono hW.Z)
  | cellN z g => exact .cellN (hz z) (let ⟨o, ho, hd⟩ := g; ⟨o, hh z o ho, hd⟩)
  | cell z g v => exact .cell (hz z) (let ⟨o, ho, hd⟩ := g; ⟨o, hh z o ho, hd⟩) (v.mono hW)
  | dead => exact .dead
section
variable {h₀ h h' : Heap} {fl : List Addr} {σ : St} {W : Wd}
theorem Inv.keeps (I : Inv h₀ fl σ W h) (k : ∀ b o, h.get? b = some o → h'.get? b = some o) (sz : h.objs.size ≤ h'.objs.size) : Inv h₀ fl σ W h' ∧ Step fl W h W h' :=
  ⟨⟨I.base, fun a o e => k a o (I.zk a o e), I.len, I.nodup, fun a m => ⟨(I.low a m).1, Nat.lt_of_lt_of_le (I.low a m).2 sz⟩,
    fun i e q => let ⟨a, x, r⟩ := I.ent i e q; ⟨a, x, r.move (.refl W) id id fun _ o g => k a o g⟩, I.frz, fun a m => let ⟨n, g⟩ := I.stk a m; ⟨n, g.keeps k⟩, Nat.le_trans I.gr sz⟩,
   ⟨⟨[], by simp, fun _ x => nomatch x⟩, fun _ _ e => e, fun _ _ e => .inl e, fun b o e _ _ => k b o e, fun b o e _ _ => ⟨o.slots, k b o e⟩, sz⟩⟩
noncomputable def zput (Z : ZH) (a : Addr) (o : Obj) : ZH := fun b => if b = a then some o else Z b
theorem zput_self (Z : ZH) (a : Addr) (o : Obj) : zput Z a o a = some o := if_pos rfl
theorem zput_ne {Z : ZH} {a b : Addr} {o : Obj} (n : b ≠ a) : zput Z a o b = Z b := if_neg n
theorem zput_le {Z : ZH} {a : Addr} {o : Obj} (n : Z a = none) : ZLe Z (zput Z a o) := fun b o' e => by
  by_cases q : b = a
  · rw [q, n] at e; cases e
  · rw [zput_ne q, e]
theorem Inv.fresh (I : Inv h₀ fl σ W h) {a : Addr} (ha : h.objs.size ≤ a) : W.Z a = none ∧ a ∉ W.ρ ∧ a ∉ fl := by
  refine ⟨?_, fun m => absurd (I.low a m).2 (Nat.not_lt.mpr ha), fun m => ?_⟩
  · cases q : W.Z a with
    | none => rfl
    | some o => exact absurd (Heap.lt_size (I.zk a o q)) (Nat.not_lt.mpr ha)
  · obtain ⟨_, g⟩ := I.stk a m
    exact absurd g.lt (Nat.not_lt.mpr ha)
theorem Inv.cold (I : Inv h₀ fl σ W h) {o : Obj} {a : Addr} (ha : h.objs.size ≤ a) (ho : h'.get? a = some o) (k : ∀ b o, h.get? b = some o → h'.get? b = some o) (sz : h.objs.size ≤ h'.objs.size) :
    Inv h₀ fl σ ⟨W.ρ, zput W.Z a o⟩ h' ∧ Step fl W h ⟨W.ρ, zput W.Z a o⟩ h' := by
  obtain ⟨z, r, f⟩ := I.fresh ha
  obtain ⟨J, S⟩ := I.keeps k sz
  have le : WLe W ⟨W.ρ, zput W.Z a o⟩ := ⟨⟨[], by simp⟩, zput_le z⟩
  refine ⟨⟨fun b o' e => le.Z b o' (I.base b o' e), fun b o' e => ?_, I.len, I.nodup, J.low, fun i e q => ?_, fun b m => ?_, J.stk, J.gr⟩, ⟨⟨[], by simp, fun _ x => nomatch x⟩, le.Z, fun b o' e => ?_, S.keep, S.slots, sz⟩⟩
  · by_cases q : b = a
    · subst q; rw [show (⟨W.ρ, zput W.Z b o⟩ : Wd).Z b = some o from zput_self ..] at e; cases e; exact ho
    · rw [show (⟨W.ρ, zput W.Z a o⟩ : Wd).Z b = W.Z b from zput_ne q] at e; exact J.zk b o' e
  · obtain ⟨b, x, rr⟩ := I.ent i e q
    have hb : b ∈ W.ρ := List.mem_of_getElem? x
    exact ⟨b, x, rr.move le (fun z' => by rw [show (⟨W.ρ, zput W.Z a o⟩ : Wd).Z b = W.Z b from zput_ne fun q => r (q ▸ hb)]; exact z') id fun _ o g => k b o g⟩
  · rw [show (⟨W.ρ, zput W.Z a o⟩ : Wd).Z b = W.Z b from zput_ne fun q => f (q ▸ m)]; exact I.frz b m
  · by_cases q : b = a
    · exact .inr (.inr (q ▸ ha))
    · rw [show (⟨W.ρ, zput W.Z a o⟩ : Wd).Z b = W.Z b from zput_ne q] at e; exact .inl e
theorem Inv.icy (I : Inv h₀ fl σ W h) {o : Obj} {a : Addr} (ho : h.get? a = some o) (z : W.Z a = none) (r : a ∉ W.ρ) (f : a ∉ fl) : Inv h₀ fl σ ⟨W.ρ, zput W.Z a o⟩ h := by
  have le : WLe W ⟨W.ρ, zput W.Z a o⟩ := ⟨⟨[], by simp⟩, zput_le z⟩
  refine ⟨fun b o' e => le.Z b o' (I.base b o' e), fun b o' e => ?_, I.len, I.nodup, I.low, fun i e q => ?_, fun b m => ?_, I.stk, I.gr⟩
  · by_cases q : b = a
    · subst q; rw [show (⟨W.ρ, zput W.Z b o⟩ : Wd).Z b = some o from zput_self ..] at e; cases e; exact ho
    · rw [show (⟨W.ρ, zput W.Z a o⟩ : Wd).Z b = W.Z b from zput_ne q] at e; exact I.zk b o' e
  · obtain ⟨b, x, rr⟩ := I.ent i e q
    have hb : b ∈ W.ρ := List.mem_of_getElem? x
    exact ⟨b, x, rr.move le (fun z' => by rw [show (⟨W.ρ, zput W.Z a o⟩ : Wd).Z b = W.Z b from zput_ne fun q => r (q ▸ hb)]; exact z') id fun _ o g => g⟩
  · rw [show (⟨W.ρ, zput W.Z a o⟩ : Wd).Z b = W.Z b from zput_ne fun q => f (q ▸ m)]; exact I.frz b m
theorem Inv.push (I : Inv h₀ fl σ W h) {e : En} {a : Addr} (ha : h.objs.size ≤ a) (hs : a < h'.objs.size) (k : ∀ b o, h.get? b = some o → h'.get? b = some o)
    (he : ∀ W', W' = ⟨W.ρ ++ [a], W.Z⟩ → WLe W W' → ER W' fl h' a e) :
    Inv h₀ fl (σ ++ [e]) ⟨W.ρ ++ [a], W.Z⟩ h' ∧ Step fl W h ⟨W.ρ ++ [a], W.Z⟩ h' := by
  obtain ⟨z, r, f⟩ := I.fresh ha
  have sz : h.objs.size ≤ h'.objs.size := Nat.le_trans ha (Nat.le_of_lt hs)
  obtain ⟨J, S⟩ := I.keeps k sz
  have le : WLe W ⟨W.ρ ++ [a], W.Z⟩ := ⟨⟨[a], rfl⟩, fun _ _ e => e⟩
  refine ⟨⟨I.base, J.zk, by simp [I.len], ?_, fun b m => ?_, fun i e' q => ?_, I.frz, J.stk, J.gr⟩, ⟨⟨[a], rfl, fun b m => by rw [List.mem_singleton.mp m]; exact ha⟩, fun _ _ e => e, fun _ _ e => .inl e, S.keep, S.slots, sz⟩⟩
  · exact List.nodup_append.mpr ⟨I.nodup, by simp, fun b m c m' => by rw [List.mem_singleton.mp m']; rintro rfl; exact r m⟩
  · rcases List.mem_append.mp m with m | m
    · exact J.low b m
    · rw [List.mem_singleton.mp m]; exact ⟨Nat.le_trans I.gr ha, hs⟩
  · by_cases hi : i < σ.length
    · rw [List.getElem?_append_left hi] at q
      obtain ⟨b, x, rr⟩ := I.ent i e' q
      exact ⟨b, le.at x, rr.move le id id fun _ o g => k b o g⟩
    · rw [List.getElem?_append_right (Nat.not_lt.mp hi)] at q
      have : i = σ.length := by
        have := (List.getElem?_eq_some_iff.mp q).1
        simp at this; omega
      subst this
      simp at q
      subst q
      exact ⟨a, by rw [← I.len]; simp, he _ rfl le⟩
theorem Inv.put (I : Inv h₀ fl σ W h) {e : En} {a : Addr} {k : Nat} (hk : W.ρ[k]? = some a) (hs : Heap.SameBut a h h') (hz : W.Z a = none) (hd : a ∈ fl → ∃ m, h'.Ns a m)
    (he : ER W fl h' a e) : Inv h₀ fl (σ.set k e) W h' ∧ Step fl W h W h' := by
  have ne : ∀ b o, W.Z b = some o → b ≠ a := fun b o e q => by rw [q, hz] at e; cases e
  refine ⟨⟨I.base, fun b o e => (hs.2 b (ne b o e)).trans (I.zk b o e), by simp [I.len], I.nodup, fun b m => ⟨(I.low b m).1, by rw [hs.1]; exact (I.low b m).2⟩, fun i e' q => ?_, I.frz, fun b m => ?_, by rw [hs.1]; exact I.gr⟩,
    ⟨⟨[], by simp, fun _ x => nomatch x⟩, fun _ _ e => e, fun _ _ e => .inl e, fun b o e n _ => (hs.2 b fun q => n (q ▸ List.mem_of_getElem? hk)).trans e,
      fun b o e n _ => ⟨o.slots, (hs.2 b fun q => n (q ▸ List.mem_of_getElem? hk)).trans e⟩, Nat.le_of_eq hs.1.symm⟩⟩
  · by_cases q' : i = k
    · subst q'
      have hl : i < σ.length := by have := (List.getElem?_eq_some_iff.mp q).1; simpa using this
      rw [List.getElem?_set_self hl] at q
      cases q
      exact ⟨a, hk, he⟩
    · rw [List.getElem?_set_ne (Ne.symm q')] at q
      obtain ⟨b, x, rr⟩ := I.ent i e' q
      refine ⟨b, x, rr.move (.refl W) id id fun _ o g => (hs.2 b fun q => q' ?_).trans g⟩
      subst q
      exact (List.getElem?_inj (List.getElem?_eq_some_iff.mp x).1 I.nodup).mp (x.trans hk.symm)
  · by_cases q : b = a
    · subst q; exact hd m
    · obtain ⟨n, g⟩ := I.stk b m
      exact ⟨n, g.sameBut hs q⟩
theorem Inv.freeze (I : Inv h₀ fl σ W h) {a : Addr} {k : Nat} {o : Obj} (hk : W.ρ[k]? = some a) (ho : h.get? a = some o) (hz : W.Z a = none) (hf : a ∉ fl) :
    Inv h₀ fl (σ.set k .dead) ⟨W.ρ, zput W.Z a o⟩ h ∧ Step fl W h ⟨W.ρ, zput W.Z a o⟩ h := by
  have le : WLe W ⟨W.ρ, zput W.Z a o⟩ := ⟨⟨[], by simp⟩, zput_le hz⟩
  have hm : a ∈ W.ρ := List.mem_of_getElem? hk
  refine ⟨⟨fun b o' e => le.Z b o' (I.base b o' e), fun b o' e => ?_, by simp [I.len], I.nodup, I.low, fun i e' q => ?_, fun b m => ?_, I.stk, I.gr⟩,
    ⟨⟨[], by simp, fun _ x => nomatch x⟩, le.Z, fun b o' e => ?_, fun _ _ e _ _ => e, fun _ o e _ _ => ⟨o.slots, e⟩, Nat.le_refl _⟩⟩
  · by_cases q : b = a
    · subst q; rw [show (⟨W.ρ, zput W.Z b o⟩ : Wd).Z b = some o from zput_self ..] at e; cases e; exact ho
    · rw [show (⟨W.ρ, zput W.Z a o⟩ : Wd).Z b = W.Z b from zput_ne q] at e; exact I.zk b o' e
  · by_cases q' : i = k
    · subst q'
      have hl : i < σ.length := by have := (List.getElem?_eq_some_iff.mp q).1; simpa using this
      rw [List.getElem?_set_self hl] at q
      cases q
      exact ⟨a, hk, .dead⟩
    · rw [List.getElem?_set_ne (Ne.symm q')] at q
      obtain ⟨b, x, rr⟩ := I.ent i e' q
      refine ⟨b, x, rr.move le (fun z' => ?_) id fun _ o g => g⟩
      rw [show (⟨W.ρ, zput W.Z a o⟩ : Wd).Z b = W.Z b from zput_ne fun q => q' ?_]
      · exact z'
      subst q
      exact (List.getElem?_inj (List.getElem?_eq_some_iff.mp x).1 I.nodup).mp (x.trans hk.symm)
  · rw [show (⟨W.ρ, zput W.Z a o⟩ : Wd).Z b = W.Z b from zput_ne fun q => hf (q ▸ m)]; exact I.frz b m
  · by_cases q : b = a
    · exact .inr (.inl (q ▸ hm))
    · rw [show (⟨W.ρ, zput W.Z a o⟩ : Wd).Z b = W.Z b from zput_ne q] at e; exact .inl e
theorem Inv.touch (I : Inv h₀ fl σ W h) {b : Addr} (hs : Heap.SameBut b h h') (hz : W.Z b = none) (hr : b ∉ W.ρ) (hf : b ∉ fl) : Inv h₀ fl σ W h' := by
  have k : ∀ c, c ≠ b → ∀ o, h.get? c = some o → h'.get? c = some o := fun c n o e => (hs.2 c n).trans e
  exact ⟨I.base, fun a o e => k a (fun q => by rw [q, hz] at e; cases e) o (I.zk a o e), I.len, I.nodup, fun a m => ⟨(I.low a m).1, by rw [hs.1]; exact (I.low a m).2⟩,
    fun i e q => let ⟨a, x, r⟩ := I.ent i e q; ⟨a, x, r.move (.refl W) id id fun _ o g => k a (fun q => hr (q ▸ List.mem_of_getElem? x)) o g⟩, I.frz,
    fun a m => let ⟨n, g⟩ := I.stk a m; ⟨n, g.sameBut hs fun q => hf (q ▸ m)⟩, by rw [hs.1]; exact I.gr⟩
theorem Inv.drop (I : Inv h₀ fl σ W h) (k : Nat) : Inv h₀ fl (σ.set k .dead) W h :=
  ⟨I.base, I.zk, by simp [I.len], I.nodup, I.low, fun i e q => by
    by_cases q' : i = k
    · subst q'
      have hl : i < σ.length := by have := (List.getElem?_eq_some_iff.mp q).1; simpa using this
      rw [List.getElem?_set_self hl] at q
      cases q
      exact ⟨W.ρ[i]'(by rw [I.len]; exact hl), List.getElem?_eq_getElem _, .dead⟩
    · rw [List.getElem?_set_ne (Ne.symm q')] at q
      exact I.ent i e q, I.frz, I.stk, I.gr⟩
theorem Inv.down {fl' : List Addr} (I : Inv h₀ fl' σ W h) (s : ∀ a ∈ fl, a ∈ fl') : Inv h₀ fl σ W h :=
  ⟨I.base, I.zk, I.len, I.nodup, I.low, fun i e q => let ⟨a, x, r⟩ := I.ent i e q; ⟨a, x, r.move (.refl W) id (fun n m => n (s a m)) fun _ _ g => g⟩, fun a m => I.frz a (s a m), fun a m => I.stk a (s a m), I.gr⟩
theorem Inv.up (I : Inv h₀ fl σ W h) {L : Addr} {k : Nat} {l : List (Str × SV)} (hk : W.ρ[k]? = some L) (he : σ[k]? = some (.loc l)) : Inv h₀ (L :: fl) σ W h := by
  obtain ⟨a, x, r⟩ := I.ent k _ he
  rw [hk] at x; cases x
  cases r with
  | loc z n m =>
    refine ⟨I.base, I.zk, I.len, I.nodup, I.low, fun i e q => ?_, fun b m => ?_, fun b m => ?_, I.gr⟩
    · obtain ⟨b, x, rr⟩ := I.ent i e q
      by_cases q' : b = L
      · subst q'
        have : i = k := (List.getElem?_inj (List.getElem?_eq_some_iff.mp x).1 I.nodup).mp (x.trans hk.symm)
        subst this
        rw [he] at q; cases q
        exact ⟨b, x, .loc z n m⟩
      · exact ⟨b, x, rr.move (.refl W) id (fun n m => (List.mem_cons.mp m).elim q' n) fun _ _ g => g⟩
    · rcases List.mem_cons.mp m with rfl | m
      · exact z
      · exact I.frz b m
    · rcases List.mem_cons.mp m with rfl | m
      · exact ⟨_, n⟩
      · exact I.stk b m
theorem Step.down {W' : Wd} {fl' : List Addr} (S : Step fl' W h W' h') (s : ∀ a ∈ fl, a ∈ fl') (n : ∀ a ∈ fl', a ∈ fl ∨ h.objs.size ≤ a) : Step fl W h W' h' :=
  ⟨S.ρ, S.Z, S.new, fun b o e r f => S.keep b o e r fun m => (n b m).elim f fun q => absurd (Heap.lt_size e) (Nat.not_lt.mpr q), fun b o e r f => S.slots b o e r (s b f), S.size⟩
end
structure Base (w : World) (h₀ : Heap) (mg mb : Str → Option Value) : Prop where
  K : Frag.In (KL w.params) h₀
  g : h₀.Ns mainGlobals mg
  b : h₀.Ns builtinsNs mb
  builtins : ∀ x : Str, x ≠ "__name__" → mb x = bootBuiltins x
  nolimit : h₀.NoLimit
structure Exn where
  cls : Addr
  fs : List (Str × Dat)
inductive CR where
  | ok (v : SV) (σ : St)
  | exc (x : Exn)
structure AOk (A : Around) (fl : List Addr) (envs : List Env) (d : Nat) : Prop where
  handled : A.handled = none
  depth : A.depth + 3 * d < 900
  units : A.units + 30 * d + 30 < cLine
  frames : A.frames = some envs
  fl : envs.map (·.frame) = fl.map some
  kinds : ∀ e ∈ envs, e.scope.kind ≠ .module
inductive TbS (base : Heap) (ea : Addr) (h : Heap) (vs : Array Value) : Prop
  | inl (a : vs[1]? = some .none)
  | inr (T : Addr) (oT : Obj) (ts : Array Value) (f3 : Value) (a : vs[1]? = some (.ref T)) (b : base.get? T = none) (c : T ≠ ea) (d : h.get? T = some oT) (e : oT.data = .fields ts) (f : ts[3]? = some f3)
inductive ExSt (base : Heap) (envs : List Env) (C : Addr) (dx ea : Addr) (h : Heap) : Prop
  | mk (a : base.StaysIn h) (b : base.get? ea = none) (c : h.FunFrames base envs) (oe : Obj) (vs : Array Value) (d : h.get? ea = some oe) (e : oe.cls = .ref C) (f : oe.dict = some dx) (g : oe.data = .fields vs) (i : TbS base ea h vs)
inductive ExUp (envs : List Env) (fl : List Addr) (W : Wd) (h : Heap) (x : Exn) (e : Value) (h' : Heap) : Prop
  | mk (ea : Addr) (base : Heap) (dx : Addr) (es : List DictEntry) (n : Nat) (a : e = .ref ea) (b : ExSt base envs x.cls dx ea h') (c : base.get? dx = some (dictOf es n)) (d : VDf base.get? x.fs es)
    (f : ∀ b o, W.Z b = some o → base.get? b = some o) (g : ∀ b o, h.get? b = some o → b ∉ W.ρ → b ∉ fl → base.get? b = some o)
structure Exd (envs : List Env) (fl : List Addr) (W : Wd) (h : Heap) (x : Exn) (e : Value) (h' : Heap) : Prop where
  up : ExUp envs fl W h x e h'
  slots : ∀ b o, h.get? b = some o → b ∉ W.ρ → b ∈ fl → ∃ sl, h'.get? b = some { o with slots := sl }
  ns : ∀ a ∈ fl, ∃ m, h'.Ns a m
  size : h.objs.size ≤ h'.objs.size
theorem Exd.back {envs : List Env} {fl : List Addr} {W W' : Wd} {h h' h'' : Heap} {x : Exn} {e : Value} (S : Step fl W h W' h') (X : Exd envs fl W' h' x e h'') : Exd envs fl W h x e h'' := by
  obtain ⟨t, et, lt⟩ := S.ρ
  have nm : ∀ b o, h.get? b = some o → b ∉ W.ρ → b ∉ W'.ρ := fun b o hb n q => by
    rw [et] at q
    rcases List.mem_append.mp q with q | q
    · exact n q
    · exact absurd (Heap.lt_size hb) (Nat.not_lt.mpr (lt b q))
  obtain ⟨ea, base, dx, es, n, h1, h2, h4, h5, h6, h7⟩ := X.up
  refine ⟨⟨ea, base, dx, es, n, h1, h2, h4, h5, fun b o z => h6 b o (S.Z b o z), fun b o g r f => h7 b o (S.keep b o g r f) (nm b o g r) f⟩, fun b o g r f => ?_, X.ns, Nat.le_trans S.size X.size⟩
  obtain ⟨sl, hs⟩ := S.slots b o g r f
  obtain ⟨sl', hs'⟩ := X.slots b _ hs (nm b o g r) f
  exact ⟨sl', hs'⟩
noncomputable def Rest (s s' : Shared) : Prop := s'.gens = s.gens ∧ s'.os = s.os
theorem Rest.refl (s : Shared) : Rest s s := ⟨rfl, rfl⟩
theorem Rest.trans {a b c : Shared} (x : Rest a b) (y : Rest b c) : Rest a c := ⟨y.1.trans x.1, y.2.trans x.2⟩
structure Cx where
  w : World
  h₀ : Heap
noncomputable abbrev Cx.M (c : Cx) : Model := model pw c.w
structure Pl where
  A : Around
  fl : List Addr
  envs : List Env
section
inductive SR where
  | ok (fl : Option SV) (σ : St)
  | exc (x : Exn)
inductive Hint where
  | b (v : Bool) | x (v : Dat) | call (ix : List Nat) (n : Nat) (r : CR) | st (n : Nat) (r : SR) | eq (v : Bool)
structure S where
  σ : St
  hs : List Hint
inductive Oc (α : Type) where
  | ok (a : α) (s : S)
  | exc (x : Exn)
noncomputable abbrev Res (α : Type) := Option (List Prop × Oc α)
noncomputable def okL : List Prop → Prop
  | [] => True
  | p :: l => p ∧ okL l
theorem okL_app : ∀ {l r : List Prop}, okL (l ++ r) → okL l ∧ okL r
  | [], _, h => ⟨trivial, h⟩
  | _ :: _, _, h => ⟨⟨h.1, (okL_app h.2).1⟩, (okL_app h.2).2⟩
variable {α β : Type}
noncomputable def ret (a : α) (s : S) : Res α := some ([], .ok a s)
noncomputable def bnd : Res α → (α → S → Res β) → Res β
  | none, _ => none
  | some (P, .exc x), _ => some (P, .exc x)
  | some (P, .ok a s), k => match k a s with
    | none => none
    | some (P', o) => some (P ++ P', o)
noncomputable def bnk : Res α → (α → S → Res β) → Res β
  | some (P, .ok a s), k => match k a s with
    | none => none
    | some (P', o) => some (P ++ P', o)
  | _, _ => none
noncomputable def siz (y : Bool) (t : Str) (s : S) : Res Unit := match y with
  | false => match Nat.ble t.cps.toList.length 100000 with | true => ret () s | false => none
  | true => some ([t.length ≤ 100000], .ok () s)
noncomputable def owe (P : Prop) (s : S) : Res Unit := some ([P], .ok () s)
noncomputable def owb (y b : Bool) (P : Prop) (s : S) : Res Unit := match y with
  | false => match b with | true => ret () s | false => none
  | true => owe P s
noncomputable def opt (x : Option α) (s : S) : Res α := match x with | none => none | some a => ret a s
noncomputable def dec (y : Bool) (b : Bool) (s : S) : Res Bool := match y with
  | false => ret b s
  | true => match s.hs with
    | .b v :: hs => some ([b = v], .ok v ⟨s.σ, hs⟩)
    | _ => none
noncomputable def itm (y : Bool) (o : Option Dat) (s : S) : Res SV := match y with
  | false => match o with | some d => ret (.d d) s | none => none
  | true => match s.hs with
    | .x v :: hs => some ([o = some v], .ok (.d v) ⟨s.σ, hs⟩)
    | _ => none
noncomputable def nth : List α → Nat → Option α
  | [], _ => none
  | a :: _, 0 => some a
  | _ :: l, n + 1 => nth l n
theorem nth_eq : ∀ (l : List α) (n : Nat), nth l n = l[n]?
  | [], _ => rfl
  | _ :: _, 0 => rfl
  | _ :: l, n + 1 => (nth_eq l n).trans (List.getElem?_cons_succ).symm
noncomputable def len : List α → Nat
  | [] => 0
  | _ :: l => len l + 1
theorem len_eq : ∀ l : List α, len l = l.length
  | [] => rfl
  | _ :: l => congrArg (· + 1) (len_eq l)
noncomputable def gi (l : List Dat) (i : Int) : Option Dat := match i with | .ofNat n => nth l n | .negSucc _ => none
structure SE where
  d : Nat
  fa : Addr
  nm : List (Str × NameKind)
  fr : Nat
  cl : List (Str × Nat)
  tr : Bool
structure FI where
  ps : List Str
  df : List Dat
  body : List Stmt
  nm : List (Str × NameKind)
structure CI where
  ini : Addr
  sld : Bool
structure Tb where
  G : Str → Option Dat
  F : Addr → Option FI
  C : Addr → Option CI
  Mt : Addr → Str → Option Addr
  Fd : Addr → Str → Bool
  Iz : Value → Value → Option Bool
  D : Addr → Option (List (Str × Dat))
  con : Addr → Bool
  stl : Nat → Bool
  CK : Nat → Addr → List SV → St → CR → Prop
  SK : Nat → SE → Stmt → St → SR → Prop
  kp : Addr → Bool
  X : Str → Option (Addr × List Str)
inductive Fw where
  | next | ret (v : SV)
structure Rec where
  e : SE → Expr → S → Res SV
  es : SE → List Expr → S → Res (List SV)
  t : SE → Expr → S → Res Bool
  bo : SE → BoolOp → List Expr → S → Res SV
  ta : SE → BoolOp → List Expr → S → Res Bool
  ss : SE → List Stmt → S → Res Fw
  ap : Nat → SV → List SV → S → Res SV
  wh : SE → Expr → List Stmt → S → Res Fw
  fo : SE → Str → List Dat → List Stmt → S → Res Fw
  cm : SE → Expr → Expr → List Expr → List Dat → S → Res (List Dat)
noncomputable def constD : Const → Option Dat
  | .none => some .none
  | .bool b => some (.bool b)
  | .int i => some (.int false i)
  | .str x => some (.str false x)
  | .bytes b => some (.byt b.toArray)
  | _ => none
noncomputable def closed : List SV → Option (List Dat)
  | [] => some []
  | v :: l => match v with
    | .d x => uO (closed l) fun r => some (x :: r)
    | _ => none
noncomputable def tupV (vs : List SV) : SV := match closed vs with
  | some ds => .d (.tup ds)
  | none => .tup vs
noncomputable def truth (v : SV) : Option Bool := match v with
  | .d x => (match x with | .bool b => some b | .none => some false | _ => none)
  | _ => none
noncomputable def put (s : S) (k : Nat) (e : En) : S := ⟨s.σ.set k e, s.hs⟩
noncomputable def new (s : S) (e : En) : S := ⟨s.σ ++ [e], s.hs⟩
noncomputable def nm (x : Str) (y : String) : Bool := sq x (Str.ofString y)
mutual
noncomputable def eqB : Dat → Dat → Bool
  | .none, y => (match y with | .none => true | _ => false)
  | .bool a, y => (match y with | .bool b => (match a with | true => b | false => !b) | _ => false)
  | .int _ a, y => (match y with | .int _ b => decide (a = b) | _ => false)
  | .str _ a, y => (match y with | .str _ b => sq a b | _ => false)
  | .byt a, y => (match y with | .byt b => lq (a.toList.map (·.toNat)) (b.toList.map (·.toNat)) | _ => false)
  | .tup a, y => (match y with | .tup b => eqBs a b | _ => false)
  | .top _, _ => false
  | .lst _ _, _ => false
  | .inst _ _, _ => false
  | .rng _, _ => false
noncomputable def eqBs : List Dat → List Dat → Bool
  | [], y => (match y with | [] => true | _ :: _ => false)
  | a :: l, y => (match y with | b :: r => eqB a b && eqBs l r | [] => false)
end
noncomputable def all2 (f : Dat → Dat → Bool) : List Dat → List Dat → Bool
  | [], _ => true
  | a :: l, y => (match y with | b :: r => f a b && all2 f l r | [] => true)
noncomputable def plainD : Dat → Bool
  | .none => true | .int .. => true | .str .. => true | .tup _ => true
  | _ => false
noncomputable def eqOk : Nat → Dat → Dat → Bool
  | 0, _, _ => false
  | n + 1, x, y => match x with
    | .tup a => (match y with | .tup b => all2 (eqOk n) a b | y => plainD y)
    | .bool _ => (match y with | .bool _ => true | _ => false)
    | .byt _ => (match y with | .byt _ => true | .tup _ => true | _ => false)
    | .none => plainD y
    | .int .. => plainD y
    | .str .. => plainD y
    | _ => false
mutual
noncomputable def symD : Dat → Bool
  | .int y _ => y
  | .str y _ => y
  | .tup l => symDs l
  | _ => false
noncomputable def symDs : List Dat → Bool
  | [] => false
  | a :: l => symD a || symDs l
end
noncomputable def isNone : SV → Bool
  | .d .none => true
  | _ => false
noncomputable def memS (a : Str) : List Dat → Option (Bool × Bool)
  | [] => some (false, false)
  | .str y b :: l => uO (memS a l) fun w => some (sq a b || w.1, y || w.2)
  | _ :: _ => none
noncomputable def keyS (a : Str) : List (Str × Dat) → Bool
  | [] => false
  | (b, _) :: l => sq a b || keyS a l
noncomputable def uS {γ : Type} (o : SV) (k : Bool → Str → Option γ) : Option γ := match o with
  | .d x => (match x with | .str y t => k y t | _ => none)
  | _ => none
noncomputable def uI {γ : Type} (o : SV) (k : Bool → Int → Option γ) : Option γ := match o with
  | .d x => (match x with | .int y t => k y t | _ => none)
  | _ => none
noncomputable def uB {γ : Type} (o : SV) (k : Array UInt8 → Option γ) : Option γ := match o with
  | .d x => (match x with | .byt b => k b | _ => none)
  | _ => none
noncomputable def uD {γ : Type} (o : SV) (k : Dat → Option γ) : Option γ := match o with
  | .d x => k x
  | _ => none
noncomputable def uL {γ : Type} (o : SV) (σ : St) (k : Nat → List Dat → Option γ) : Option γ := match o with
  | .lst i => (match nth σ i with | some e => (match e with | .lst l => k i l | _ => none) | none => none)
  | _ => none
noncomputable def uT {γ : Type} (T : Tb) (o : SV) (k : List (Str × Dat) → Option γ) : Option γ := match o with
  | .d x => (match x with | .top v => (match v with | .ref a => (match T.D a with | some l => k l | none => none) | _ => none) | _ => none)
  | _ => none
noncomputable def a0 {γ : Type} (vs : List SV) (k : Option γ) : Option γ := match vs with
  | [] => k
  | _ :: _ => none
noncomputable def a1 {γ : Type} (vs : List SV) (k : SV → Option γ) : Option γ := match vs with
  | [] => none
  | a :: vs => a0 vs (k a)
noncomputable def a2 {γ : Type} (vs : List SV) (k : SV → SV → Option γ) : Option γ := match vs with
  | [] => none
  | a :: vs => a1 vs (k a)
noncomputable def a12 {γ : Type} (vs : List SV) (k : SV → Option γ) (k2 : SV → SV → Option γ) : Option γ := match vs with
  | [] => none
  | a :: vs => (match vs with
    | [] => k a
    | b :: vs => a0 vs (k2 a b))
noncomputable def uN {γ : Type} (b : Bool) (k : Option γ) : Option γ := match b with
  | false => k
  | true => none
noncomputable def uE {γ : Type} (σ : St) (i : Nat) (kL : List (Str × SV) → Option γ) (kC : Option SV → Option γ) : Option γ := match nth σ i with
  | some e => (match e with | .loc l => kL l | .cell v => kC v | _ => none)
  | none => none
noncomputable def n0 {α γ : Type} (l : List α) (k : Option γ) : Option γ := match l with
  | [] => k
  | _ :: _ => none
noncomputable def nC {α γ : Type} (l : List α) (k : α → List α → Option γ) : Option γ := match l with
  | [] => none
  | a :: r => k a r
noncomputable def oN {α γ : Type} (o : Option α) (k : Option γ) : Option γ := match o with
  | none => k
  | some _ => none
noncomputable def nameV (T : Tb) (se : SE) (x : Str) (s : S) : Option SV := uO (lk se.nm x) fun k => match k with
  | .local => uE s.σ se.fr (fun l => lk l x) fun _ => none
  | .cell => uO (lk se.cl x) fun k => uE s.σ k (fun _ => none) fun v => v
  | .globalImplicit => uO (T.G x) fun d => some (.d d)
  | _ => none
noncomputable def hI (s : S) (k : Bool → Int → List Hint → Res β) : Res β := match s.hs with
  | [] => none
  | h :: hs => (match h with
    | .x d => (match d with | .int q j => k q j hs | _ => none)
    | _ => none)
noncomputable def hS (s : S) (k : Bool → Str → List Hint → Res β) : Res β := match s.hs with
  | [] => none
  | h :: hs => (match h with
    | .x d => (match d with | .str q j => k q j hs | _ => none)
    | _ => none)
noncomputable def hE (s : S) (k : Bool → List Hint → Res β) (e : Res β) : Res β := match s.hs with
  | [] => e
  | h :: hs => (match h with
    | .eq v => k v hs
    | _ => e)
noncomputable def uA {γ : Type} (o : SV) (σ : St) (kI : Bool → Int → Option γ) (kS : Bool → Str → Option γ) (kL : Nat → List Dat → Option γ) : Option γ := match o with
  | .d x => (match x with | .int y i => kI y i | .str y t => kS y t | _ => none)
  | .lst i => uL (.lst i) σ kL
  | _ => none
noncomputable def i2 {γ : Type} (a b : SV) (k : Bool → Bool → Int → Int → Option γ) : Option γ := uI a fun y i => uI b fun z j => k y z i j
noncomputable def uC {γ : Type} (T : Tb) (o : SV) (σ : St) (kL : Nat → List Dat → Option γ) (kl : Bool → List Dat → Option γ) (kt : List Dat → Option γ) (ks : Bool → Str → Option γ) (kT : List (Str × Dat) → Option γ) : Option γ := match o with
  | .d x => (match x with | .lst y l => kl y l | .tup l => kt l | .str y t => ks y t | .top v => uT T (.d (.top v)) kT | _ => none)
  | .lst i => uL (.lst i) σ kL
  | _ => none
noncomputable def uM {γ : Type} (o : SV) (σ : St) (kI : Addr → Nat → List (Str × SV) → Option γ) (kD : Addr → List (Str × Dat) → Option γ) : Option γ := match o with
  | .d x => (match x with | .inst C l => kD C l | _ => none)
  | .inst C i => (match nth σ i with | some e => (match e with | .flds l => kI C i l | _ => none) | none => none)
  | _ => none
end
section
variable {α β : Type}
noncomputable def flip : Bool → Bool → Bool
  | true, b => !b
  | false, b => b
noncomputable def eqT (l r : List Dat) (neg : Bool) (s : S) : Res Bool := hE s (fun v hs => some ([eqOk 8 (.tup l) (.tup r) = true, flip neg (eqBs l r) = v], .ok v ⟨s.σ, hs⟩))
  (uW (eqOk 8 (.tup l) (.tup r)) (dec (symDs l || symDs r) (flip neg (eqBs l r)) s))
noncomputable def eqS (x y : Dat) (neg : Bool) (s : S) : Res Bool := match x with
  | .str y1 a => (match y with | .str y2 b => dec (y1 || y2) (flip neg (sq a b)) s | _ => none)
  | .int y1 a => (match y with | .int y2 b => dec (y1 || y2) (flip neg (decide (a = b))) s | _ => none)
  | .tup l => (match y with | .tup r => eqT l r neg s | _ => none)
  | _ => none
noncomputable def isDat : SV → Bool
  | .d (.top _) => false
  | _ => true
noncomputable def subS (a b : Str) : Bool := match a.cps.toList with
  | [c] => b.cps.toList.any fun x => Nat.beq x c
  | _ => false
noncomputable def isOne (a : Str) : Bool := match a.cps.toList with | [_] => true | _ => false
noncomputable def inS (T : Tb) (a b : SV) (neg : Bool) (s : S) : Res Bool := uS a fun y x => uC T b s.σ (fun _ _ => none) (fun _ _ => none) (fun l => uO (memS x l) fun r => dec (y || r.2) (flip neg r.1) s)
  (fun z t => uW (isOne x) (dec (y || z) (flip neg (subS x t)) s)) (fun l => dec y (flip neg (keyS x l)) s)
noncomputable def cmp (T : Tb) (op : CmpOp) (a b : SV) (s : S) : Res Bool := match op with
  | .Is => uW (isNone b) (uW (isDat a) (ret (isNone a) s))
  | .IsNot => uW (isNone b) (uW (isDat a) (ret (!isNone a) s))
  | .Eq => uD a fun x => uD b fun y => eqS x y false s
  | .NotEq => uD a fun x => uD b fun y => eqS x y true s
  | .In => inS T a b false s
  | .NotIn => inS T a b true s
  | .Lt => i2 a b fun y z i j => dec (y || z) (decide (i < j)) s
  | .LtE => i2 a b fun y z i j => dec (y || z) (decide (i ≤ j)) s
  | .Gt => i2 a b fun y z i j => dec (y || z) (decide (i > j)) s
  | .GtE => i2 a b fun y z i j => dec (y || z) (decide (i ≥ j)) s
noncomputable def small (j : Int) : Bool := decide (0 < j) && decide (j < 2 ^ 60)
noncomputable def bin (op : Operator) (a b : SV) (s : S) : Res SV := match op with
  | .Add => uA a s.σ (fun y i => uI b fun z j => ret (.d (.int (y || z) (i + j))) s) (fun y t => uS b fun z u => bnd (siz (y || z) (t ++ u) s) fun _ s => ret (.d (.str (y || z) (t ++ u))) s)
      fun _ l => uL b s.σ fun _ r => bnd (owe (l.length + r.length ≤ 100000) s) fun _ s => ret (.lst (len s.σ)) (new s (.lst (l ++ r)))
  | .Sub => i2 a b fun y z i j => ret (.d (.int (y || z) (i - j))) s
  | .Mult => i2 a b fun y z i j => bnd (owe (IntMulOk i j) s) fun _ s => ret (.d (.int (y || z) (i * j))) s
  | .Mod => i2 a b fun y z i j => bnd (owb z (small j) (0 < j ∧ j < 2 ^ 60) s) fun _ s => ret (.d (.int (y || z) (i % j))) s
  | .FloorDiv => i2 a b fun y z i j => bnd (owb z (small j) (0 < j ∧ j < 2 ^ 60) s) fun _ s => ret (.d (.int (y || z) (i / j))) s
  | .Pow => i2 a b fun _ _ i j => uW (decide (i = 10)) (uW (decide (j = 18)) (ret (.d (.int false 1000000000000000000)) s))
  | _ => none
noncomputable def strAt (x : Str) (i : Int) : Option Str := match i with
  | .ofNat n => match nth x.cps.toList n with | some c => some ⟨#[c]⟩ | none => none
  | .negSucc _ => none
noncomputable def itmS (y : Bool) (o : Option Str) (s : S) : Res SV := match y with
  | false => uO o fun c => ret (.d (.str false c)) s
  | true => hS s fun w u hs => some ([o = some u], .ok (.d (.str w u)) ⟨s.σ, hs⟩)
noncomputable def sub (T : Tb) (o i : SV) (s : S) : Res SV := uC T o s.σ
  (fun _ l => uI i fun y i => bnd (owb y (decide (i < 2 ^ 60)) (i < 2 ^ 60) s) fun _ s => itm y (gi l i) s)
  (fun y l => uI i fun z i => bnd (owb z (decide (i < 2 ^ 60)) (i < 2 ^ 60) s) fun _ s => itm (y || z) (gi l i) s)
  (fun l => uI i fun z i => bnd (owb z (decide (i < 2 ^ 60)) (i < 2 ^ 60) s) fun _ s => itm z (gi l i) s)
  (fun y x => uI i fun z i => bnd (owb z (decide (i < 2 ^ 60)) (i < 2 ^ 60) s) fun _ s => itmS (y || z) (strAt x i) s)
  (fun l => uS i fun y x => uW (!y) (uO (lk l x) fun v => ret (.d v) s))
noncomputable def strR (y : Bool) (t : Str) (s : S) : Res SV := match y with
  | false => bnd (siz false t s) fun _ s => ret (.d (.str false t)) s
  | true => hS s fun z u hs => some ([t = u, t.length ≤ 100000], .ok (.d (.str z u)) ⟨s.σ, hs⟩)
noncomputable def sInt (o : Option SV) : Option (Bool × Option Int) := match o with
  | none => some (false, none)
  | some v => uI v fun y i => some (y, some i)
noncomputable def slc (o : SV) (lo up : Option SV) (s : S) : Res SV := uS o fun y x => uO (sInt lo) fun a => uO (sInt up) fun b => strR (y || a.1 || b.1) (Txt.slice x a.2 b.2) s
noncomputable def binds : List Str → List SV → List Dat → Option (List (Str × SV))
  | [], [], _ => some []
  | [], _ :: _, _ => none
  | x :: xs, v :: vs, df => uO (binds xs vs df) fun r => some ((x, v) :: r)
  | x :: xs, [], df => uW (Nat.beq (len xs + 1) (len df)) (some ((x :: xs).zip (df.map .d)))
noncomputable def cellNames : List (Str × NameKind) → List Str
  | [] => []
  | (x, .cell) :: r => x :: cellNames r
  | _ :: r => cellNames r
noncomputable def isLoc (nmz : List (Str × NameKind)) (x : Str) : Bool := match lk nmz x with | some .local => true | _ => false
noncomputable def numb : Nat → List Str → List (Str × Nat)
  | _, [] => []
  | n, x :: r => (x, n) :: numb (n + 1) r
noncomputable def kill : Nat → Nat → St → St
  | _, 0, σ => σ
  | k, n + 1, σ => kill (k + 1) n (σ.set k .dead)
noncomputable def few : List Str → Bool
  | [] => true
  | [_] => true
  | _ => false
noncomputable def retV : Fw → SV
  | .next => .d .none
  | .ret v => v
noncomputable def callF (R : Rec) (f : Addr) (i : FI) (d : Nat) (vs : List SV) (s : S) : Res SV := match d with
  | 0 => none
  | d + 1 => uO (binds i.ps vs i.df) fun bs => uW (few (cellNames i.nm))
    (bnd (R.ss ⟨d, f, i.nm, len s.σ, numb (len s.σ + 1) (cellNames i.nm), true⟩ i.body ⟨s.σ ++ (.loc (bs.filter fun b => isLoc i.nm b.1) :: (cellNames i.nm).map fun x => .cell (lk bs x)), s.hs⟩) fun fl s' =>
        ret (retV fl) ⟨kill (len s.σ) (len (cellNames i.nm) + 1) s'.σ, s'.hs⟩)
noncomputable def shut (σ : St) (v : SV) : Option (Dat × St) := match v with
  | .d x => some (x, σ)
  | .lst i => uL (.lst i) σ fun k l => some (.lst false l, σ.set k .dead)
  | _ => none
noncomputable def shuts (σ : St) : List (Str × SV) → Option (List (Str × Dat) × St)
  | [] => some ([], σ)
  | (x, v) :: r => uO (shut σ v) fun d => uO (shuts d.2 r) fun l => some ((x, d.1) :: l.1, l.2)
noncomputable def uFl {γ : Type} (σ : St) (i : Nat) (k : List (Str × SV) → Option γ) : Option γ := match nth σ i with
  | some e => (match e with | .flds l => k l | _ => none)
  | none => none
noncomputable def mk (R : Rec) (C : Addr) (i : CI) (fi : FI) (d : Nat) (vs : List SV) (s : S) : Res SV := match d with
  | 0 => none
  | d + 1 => bnd (callF R i.ini fi d (.inst C (len s.σ) :: vs) (new s (.flds []))) fun r s' => uW (isNone r) (match i.sld with
      | false => ret (.inst C (len s.σ)) s'
      | true => uFl s'.σ (len s.σ) fun l => uO (shuts s'.σ l) fun q => uFl q.2 (len s.σ) fun _ => ret (.d (.inst C q.1)) ⟨q.2.set (len s.σ) .dead, s'.hs⟩)
noncomputable def meth (T : Tb) (o : SV) (x : Str) (s : S) : Option Addr := uM o s.σ (fun C _ l => uO (T.Mt C x) fun f => match lk l x with | none => some f | some _ => none)
  fun C l => uO (T.Mt C x) fun f => match lk l x with | none => some f | some _ => none
noncomputable def getA (T : Tb) (o : SV) (x : Str) (s : S) : Option SV := uM o s.σ (fun C _ l => uW (T.Fd C x) (lk l x)) fun C l => uW (T.Fd C x) (uO (lk l x) fun d => some (.d d))
noncomputable def setA (T : Tb) (o : SV) (x : Str) (v : SV) (s : S) : Res Unit := uM o s.σ (fun C k l => uW (T.Fd C x) (uW (Nat.ble (len l) 50) (ret () (put s k (.flds (pt l x v)))))) fun _ _ => none
noncomputable def setN (se : SE) (x : Str) (v : SV) (s : S) : Res Unit := uO (lk se.nm x) fun k => match k with
  | .local => uE s.σ se.fr (fun l => ret () (put s se.fr (.loc (pt l x v)))) fun _ => none
  | .cell => uO (lk se.cl x) fun k => uE s.σ k (fun _ => none) fun _ => ret () (put s k (.cell (some v)))
  | _ => none
noncomputable def natI {γ : Type} (i : Int) (k : Nat → Option γ) : Option γ := match i with
  | .ofNat n => k n
  | .negSucc _ => none
noncomputable def setI (o i v : SV) (s : S) : Res Unit := uL o s.σ fun k l => uI i fun y n => uD v fun x => uW (!y) (natI n fun n => uW (Nat.blt n (len l)) (uW (Nat.blt n 1000) (ret () (put s k (.lst (l.set n x))))))
end
section
variable {α β : Type}
noncomputable def cat : List Dat → Option (Bool × List Str)
  | [] => some (false, [])
  | .str y x :: l => uO (cat l) fun w => some (y || w.1, x :: w.2)
  | _ :: _ => none
noncomputable def flat : Dat → Bool
  | .int _ _ => true
  | .str _ _ => true
  | _ => false
noncomputable def toPy : Dat → PyData
  | .int _ i => .int i
  | .str _ x => .str x
  | _ => .none
noncomputable def joinS (x : Str) : List Str → Str
  | [] => ⟨#[]⟩
  | [a] => a
  | a :: b :: l => a ++ x ++ joinS x (b :: l)
noncomputable def listOf (v : SV) (s : S) : Option (List Dat) := match v with
  | .d (.lst _ l) => some l
  | .lst k => match nth s.σ k with | some (.lst l) => some l | _ => none
  | _ => none
inductive BM where
  | upper | lower | isascii | find | lstrip | replace | join | append | get | hex
noncomputable def bid : BM → String
  | .upper => "str.upper" | .lower => "str.lower" | .isascii => "str.isascii" | .find => "str.find" | .lstrip => "str.lstrip" | .replace => "str.replace" | .join => "str.join"
  | .append => "list.append" | .get => "dict.get" | .hex => "bytes.hex"
noncomputable def pick : List (String × BM) → Str → Option BM
  | [], _ => none
  | (n, m) :: r, x => bif nm x n then some m else pick r x
noncomputable def alQ {β : Type} (P : String → β → Prop) : List (String × β) → Prop
  | [] => True
  | p :: l => P p.1 p.2 ∧ alQ P l
theorem pick_r {x : Str} {m : BM} {P : String → BM → Prop} {l : List (String × BM)} (h : pick l x = some m) (H : alQ P l) : ∃ n, x = Str.ofString n ∧ P n m := by
  induction l with
  | nil => exact nn h
  | cons a r ih => exact ifC h (fun q e => ⟨_, sq_eq q, Option.some.inj e ▸ H.1⟩) fun _ h => ih h H.2
noncomputable def strMs : List (String × BM) := [("upper", .upper), ("lower", .lower), ("isascii", .isascii), ("find", .find), ("lstrip", .lstrip), ("replace", .replace), ("join", .join)]
noncomputable def bmet (T : Tb) (o : SV) (x : Str) (s : S) : Option BM := uC T o s.σ (fun _ _ => pick [("append", .append)] x) (fun _ _ => none) (fun _ => none) (fun _ _ => pick strMs x) (fun _ => pick [("get", .get)] x) |>.or (uB o fun _ => pick [("hex", .hex)] x)
noncomputable def hexS (b : Array UInt8) : Option Str := bif lq (b.toList.map (·.toNat)) [] then some (Str.ofString "") else uW (lq (b.toList.map (·.toNat)) [0, 175]) (some (Str.ofString "00af"))
noncomputable def jok (y : Bool) (t : Str) (r : List Str) (s : S) : Res Unit := match y with
  | false => match JoinOk t r with | true => ret () s | false => none
  | true => owe (JoinOk t r = true) s
noncomputable def find3 (y w : Bool) (r : Int) (s : S) : Res SV := match y with
  | false => ret (.d (.int w r)) s
  | true => hI s fun q j hs => some ([r = j], .ok (.d (.int q j)) ⟨s.σ, hs⟩)
noncomputable def tyM (T : Tb) (m : BM) (o : SV) (vs : List SV) (s : S) : Res SV := match m with
  | .upper => a0 vs (uS o fun y t => bnd (siz y (Txt.upper t) s) fun _ s => ret (.d (.str y (Txt.upper t))) s)
  | .lower => a0 vs (uS o fun y t => bnd (siz y (Txt.lower t) s) fun _ s => ret (.d (.str y (Txt.lower t))) s)
  | .isascii => a0 vs (uS o fun y t => bnd (dec y (Txt.isascii t) s) fun b s => ret (.d (.bool b)) s)
  | .find => a12 vs (fun a => uS o fun y t => uS a fun z u => ret (.d (.int (y || z) (Txt.find t u))) s)
      (fun a b => uS o fun y t => uS a fun z u => uI b fun w i => find3 y (z || w) (Txt.find3 t u i) s)
  | .lstrip => a1 vs fun a => uS o fun y t => uS a fun z u => bnd (siz y t s) fun _ s => ret (.d (.str (y || z) (Txt.lstripChars t u))) s
  | .join => a1 vs fun a => uS o fun y t => uO (listOf a s) fun l => uO (cat l) fun zr => bnd (jok (y || zr.1) t zr.2 s) fun _ s => ret (.d (.str (y || zr.1) (Txt.join t zr.2))) s
  | .append => a1 vs fun a => uD a fun v => uL o s.σ fun k l => bnd (owe (l.length ≤ 100000) s) fun _ s => ret (.d .none) (put s k (.lst (l ++ [v])))
  | .get => a2 vs fun a b => uT T o fun l => uS a fun y u => uD b fun v => uW (flat v) (itm y (some (match lk l u with | some w => w | none => v)) s)
  | .hex => a0 vs (uB o fun b => uO (hexS b) fun t => ret (.d (.str false t)) s)
  | .replace => none
noncomputable def tyOf : SV → Option Value
  | .d (.int ..) => some (.type "int")
  | .d (.bool _) => some (.type "bool")
  | .d (.str ..) => some (.type "str")
  | .d .none => some (.type "NoneType")
  | .d (.byt _) => some (.type "bytes")
  | .d (.inst D _) => some (.ref D)
  | _ => none
noncomputable def isas (T : Tb) (t : Value) : List Dat → Option Bool
  | [] => some false
  | .top c :: l => uO (T.Iz t c) fun b => bif b then some true else isas T t l
  | _ :: _ => none
noncomputable def isa (T : Tb) (t : Value) (c : Dat) : Option Bool := match c with
  | .top c => T.Iz t c
  | .tup l => isas T t l
  | _ => none
noncomputable def noNil : Dat → Bool
  | .tup [] => false
  | _ => true
noncomputable def b2 : Bool → Int
  | true => 1
  | false => 0
inductive BF where
  | len | ord | max | min | isin | int | str | range | tuple
noncomputable def pickB : List (String × BF) → String → Option BF
  | [], _ => none
  | (n, m) :: r, x => bif decide (x = n) then some m else pickB r x
theorem pickB_r {x : String} {b : BF} {P : String → BF → Prop} {l : List (String × BF)} (h : pickB l x = some b) (H : alQ P l) : P x b := by
  induction l with
  | nil => exact nn h
  | cons a r ih => exact ifC h (fun q e => of_decide_eq_true q ▸ Option.some.inj e ▸ H.1) fun _ h => ih h H.2
noncomputable def bfOf : Value → Option BF
  | .builtin i => pickB [("len", .len), ("ord", .ord), ("max", .max), ("min", .min), ("isinstance", .isin)] i
  | .type i => pickB [("int", .int), ("str", .str), ("range", .range), ("tuple", .tuple)] i
  | _ => none
noncomputable def bfN : BF → Value
  | .len => .builtin "len" | .ord => .builtin "ord" | .max => .builtin "max" | .min => .builtin "min" | .isin => .builtin "isinstance"
  | .int => .type "int" | .str => .type "str" | .range => .type "range" | .tuple => .type "tuple"
theorem bfOf_eq {v : Value} {b : BF} (h : bfOf v = some b) : v = bfN b := by
  cases v with
  | builtin i => exact pickB_r (P := fun i b => Value.builtin i = bfN b) h ⟨rfl, rfl, rfl, rfl, rfl, trivial⟩
  | type i => exact pickB_r (P := fun i b => Value.type i = bfN b) h ⟨rfl, rfl, rfl, rfl, trivial⟩
  | _ => exact nn h
noncomputable def lenF (T : Tb) (a : SV) (s : S) : Res SV := uC T a s.σ (fun _ l => bnd (owe (l.length ≤ 100000) s) fun _ s => ret (.d (.int false (len l))) s) (fun y l => bnd (owb y (Nat.ble (len l) 100000) (l.length ≤ 100000) s) fun _ s => ret (.d (.int y (len l))) s)
  (fun _ => none) (fun y x => bnd (siz y x s) fun _ s => ret (.d (.int y x.length)) s) fun _ => none
noncomputable def ordF (a : SV) (s : S) : Res SV := uS a fun y x => nC x.cps.toList fun c l => n0 l (ret (.d (.int y c)) s)
noncomputable def intF (a : SV) (s : S) : Res SV := uD a fun x => match x with
  | .int y i => ret (.d (.int y i)) s
  | .bool b => ret (.d (.int false (b2 b))) s
  | _ => none
noncomputable def strF (a : SV) (s : S) : Res SV := uI a fun y i => uN y (uW (Nat.blt i.natAbs (2 ^ 64)) (ret (.d (.str false (Str.ofString (toString i)))) s))
noncomputable def rngF (a : SV) (s : S) : Res SV := uI a fun _ i => ret (.d (.rng i)) s
noncomputable def tupF (a : SV) (s : S) : Res SV := uD a fun x => match x with
  | .lst y l => bnd (owb y (Nat.ble (len l) 100000) (l.length ≤ 100000) s) fun _ s => ret (.d (.tup l)) s
  | _ => none
noncomputable def isaF (T : Tb) (o a : SV) (s : S) : Res SV := uD a fun c => uO (tyOf o) fun t => uW (noNil c) (uO (isa T t c) fun b => ret (.d (.bool b)) s)
noncomputable def intB (a b : SV) (s : S) : Res SV := uS a fun y x => uN y (uI b fun z b => uN z (uW (decide (b = 10)) (uW (Nat.ble x.cps.toList.length 640) (uO (PySem.intText? x) fun n => ret (.d (.int false n)) s))))
noncomputable def blt1 (T : Tb) (f : BF) (a : SV) (s : S) : Res SV := match f with
  | .len => lenF T a s | .ord => ordF a s | .int => intF a s | .str => strF a s | .range => rngF a s | .tuple => tupF a s | .max => none | .min => none | .isin => none
noncomputable def blt2 (T : Tb) (f : BF) (a b : SV) (s : S) : Res SV := match f with
  | .max => i2 a b fun y z i j => ret (.d (.int (y || z) (max i j))) s
  | .min => i2 a b fun y z i j => ret (.d (.int (y || z) (min i j))) s
  | .isin => isaF T a b s
  | .int => intB a b s
  | .len => none | .ord => none | .str => none | .range => none | .tuple => none
noncomputable def blt (T : Tb) (f : BF) (vs : List SV) (s : S) : Res SV := nC vs fun a vs => match vs with
  | [] => blt1 T f a s
  | b :: vs => n0 vs (blt2 T f a b s)
end
section
variable {α β : Type}
noncomputable def noSup : Expr → Bool
  | .Call (.Name _ _) [] [] _ => false
  | _ => true
noncomputable def plainArg : Expr → Bool
  | .Starred _ _ => false
  | _ => true
noncomputable def plainArgs : List Expr → Bool
  | [] => true
  | e :: l => plainArg e && plainArgs l
noncomputable def posOf (k : Nat) : List Nat → Option Nat
  | [] => none
  | a :: l => cond (Nat.beq a k) (some 0) (uO (posOf k l) fun n => some (n + 1))
mutual
noncomputable def shrV (ix : List Nat) : SV → Option SV
  | .d x => some (.d x)
  | .inst C k => uO (posOf k ix) fun n => some (.inst C n)
  | .lst k => uO (posOf k ix) fun n => some (.lst n)
  | .tup l => uO (shrVs ix l) fun r => some (.tup r)
noncomputable def shrVs (ix : List Nat) : List SV → Option (List SV)
  | [] => some []
  | v :: l => uO (shrV ix v) fun a => uO (shrVs ix l) fun r => some (a :: r)
end
noncomputable def shrF (ix : List Nat) : List (Str × SV) → Option (List (Str × SV))
  | [] => some []
  | p :: l => uO (shrV ix p.2) fun a => uO (shrF ix l) fun r => some ((p.1, a) :: r)
noncomputable def shrE (ix : List Nat) : En → Option En
  | .flds l => uO (shrF ix l) fun r => some (.flds r)
  | .lst l => some (.lst l)
  | _ => none
noncomputable def shrS (ix : List Nat) (σ : St) : List Nat → Option St
  | [] => some []
  | k :: l => uO (nth σ k) fun e => uO (shrE ix e) fun a => uO (shrS ix σ l) fun r => some (a :: r)
noncomputable def toBig (ix : List Nat) (n m k : Nat) : Nat := match nth ix k with | some j => j | none => n + (k - m)
mutual
noncomputable def grwV (ix : List Nat) (n m : Nat) : SV → SV
  | .d x => .d x
  | .inst C k => .inst C (toBig ix n m k)
  | .lst k => .lst (toBig ix n m k)
  | .tup l => .tup (grwVs ix n m l)
noncomputable def grwVs (ix : List Nat) (n m : Nat) : List SV → List SV
  | [] => []
  | v :: l => grwV ix n m v :: grwVs ix n m l
end
noncomputable def grwF (ix : List Nat) (n m : Nat) : List (Str × SV) → List (Str × SV)
  | [] => []
  | p :: l => (p.1, grwV ix n m p.2) :: grwF ix n m l
noncomputable def grwE (ix : List Nat) (n m : Nat) : En → Option En
  | .flds l => some (.flds (grwF ix n m l))
  | .lst l => some (.lst l)
  | .dead => some .dead
  | _ => none
noncomputable def grwS (ix : List Nat) (n m : Nat) : St → Option St
  | [] => some []
  | e :: l => uO (grwE ix n m e) fun a => uO (grwS ix n m l) fun r => some (a :: r)
noncomputable def setAll : List Nat → St → St → St
  | [], _, σ => σ
  | k :: ix, l, σ => (match l with | [] => σ | e :: l => setAll ix l (σ.set k e))
noncomputable def memK (k : Nat) : List Nat → Bool
  | [] => false
  | a :: l => Nat.beq a k || memK k l
noncomputable def nodup : List Nat → Bool
  | [] => true
  | k :: l => !memK k l && nodup l
noncomputable def hC {β : Type} (s : S) (k : List Nat → Nat → CR → List Hint → Res β) : Res β := match s.hs with
  | [] => none
  | h :: hs => (match h with | .call ix n r => k ix n r hs | _ => none)
noncomputable def byR (T : Tb) (f : Addr) (ix : List Nat) (n : Nat) (vs' : List SV) (σ' : St) (s : S) (hs : List Hint) (r : CR) : Res SV := match r with
  | .exc x => some ([T.CK n f vs' σ' (.exc x)], .exc x)
  | .ok v σ'' => uO (grwS ix (len s.σ) (len ix) σ'') fun all => some ([T.CK n f vs' σ' (.ok v σ'')], .ok (grwV ix (len s.σ) (len ix) v) ⟨setAll ix (all.take (len ix)) s.σ ++ all.drop (len ix), hs⟩)
noncomputable def byC (T : Tb) (d : Nat) (f : Addr) (vs : List SV) (s : S) : Res SV := hC s fun ix n r hs => uW (Nat.ble n d) (uW (nodup ix) (uO (shrVs ix vs) fun vs' => uO (shrS ix s.σ ix) fun σ' => byR T f ix n vs' σ' s hs r))
noncomputable def uV {γ : Type} (o : SV) (kR : Addr → Option γ) (kV : Value → Option γ) : Option γ := match o with
  | .d x => (match x with | .top v => (match v with | .ref a => kR a | v => kV v) | _ => none)
  | _ => none
noncomputable def apF (T : Tb) (R : Rec) (d : Nat) (f : SV) (vs : List SV) (s : S) : Res SV := uV f
  (fun a => match T.con a with
    | true => byC T d a vs s
    | false => match T.F a with
      | some i => callF R a i d vs s
      | none => uO (T.C a) fun i => uO (T.F i.ini) fun fi => mk R a i fi d vs s)
  fun v => uO (bfOf v) fun b => blt T b vs s
noncomputable def okTop (T : Tb) : SV → Bool
  | .d (.top (.ref a)) => T.kp a
  | .d (.top (.builtin _)) => true
  | .d (.top (.type _)) => true
  | _ => false
noncomputable def signs (x : Str) : List Dat := x.cps.toList.map fun c => .str false ⟨#[c]⟩
noncomputable def upTo : Nat → Nat → List Dat
  | _, 0 => []
  | k, n + 1 => .int true k :: upTo (k + 1) n
noncomputable def itF (v : SV) (s : S) : Res (List Dat) := uD v fun x => match x with
  | .str y x => uN y (ret (signs x) s)
  | .lst y l => uN y (ret l s)
  | .rng n => uW (decide (0 ≤ n)) (uW (decide (n < 10000)) (ret (upTo 0 n.toNat) s))
  | _ => none
noncomputable def evIt (R : Rec) (se : SE) (e : Expr) (s : S) : Res (List Dat) := bnd (R.e se e s) itF
noncomputable def relab (se : SE) : List (Str × NameKind) → List (Str × NameKind)
  | [] => []
  | (x, .free) :: r => (x, match lk se.nm x with | some .cell => .cell | _ => .free) :: relab se r
  | p :: r => p :: relab se r
noncomputable def clos (se : SE) : List (Str × NameKind) → List (Str × Nat) → Option (List (Str × Nat))
  | [], a => some a
  | (x, .free) :: r, a => uO (lk se.cl x) fun k => clos se r ((x, k) :: a)
  | (_, .cell) :: _, _ => none
  | _ :: r, a => clos se r a
noncomputable def locOk (all : List (Str × NameKind)) : List (Str × NameKind) → Bool
  | [] => true
  | (x, .local) :: r => isLoc all x && locOk all r
  | _ :: r => locOk all r
noncomputable def scOk (sc : Scope) : Bool := match sc.kind with | .function => locOk sc.names sc.names | _ => false
noncomputable def noSet : Expr → Bool
  | .Set .. => false
  | _ => true
noncomputable def evLc (R : Rec) (se : SE) (t it elt : Expr) (ifs : List Expr) (sc : Scope) (s : S) : Res (Nat × List Dat) := uW (scOk sc) (uW (noSet it) (uO (clos se sc.names []) fun cl => bnd (evIt R se it s) fun l s => uW (Nat.ble (len l) 10000)
  (bnk (R.cm { se with nm := relab se sc.names, fr := len s.σ, cl := cl, tr := false } t elt ifs l (new s (.loc []))) fun r s' => uE s'.σ (len s.σ) (fun _ => ret (len s.σ, r) s') fun _ => none)))
noncomputable def evPt (R : Rec) (se : SE) (e : Option Expr) (s : S) : Res (Option SV) := match e with
  | none => ret none s
  | some e => bnd (R.e se e s) fun v s => ret (some v) s
inductive EK where
  | nm (x : Str) (p : Pos) | cs (c : Const) (j : Nat) (p : Pos) | at (o : Expr) (x : Str) (p : Pos) | tu (l : List Expr) (j : Nat) (p : Pos) | ca (f : Expr) (l : List Expr) (w : List Keyword) (p : Pos)
  | lc (elt : Expr) (gs : List Comprehension) (sc : Scope) (p : Pos) | se | ot
noncomputable def ek : Expr → EK
  | .Name x p => .nm x p
  | .Constant c j p => .cs c j p
  | .Attribute o x p => .at o x p
  | .Tuple l j p => .tu l j p
  | .Call f l w p => .ca f l w p
  | .ListComp elt gs sc q => .lc elt gs sc q
  | .Set .. => .se
  | _ => .ot
noncomputable def eNm {γ : Type} (e : Expr) (k : Str → Pos → Option γ) : Option γ := match ek e with
  | .nm x p => k x p
  | _ => none
noncomputable def eCs {γ : Type} (e : Expr) (k : Const → Nat → Pos → Option γ) : Option γ := match ek e with
  | .cs c j p => k c j p
  | _ => none
noncomputable def eAt {γ : Type} (e : Expr) (k : Expr → Str → Pos → Option γ) : Option γ := match ek e with
  | .at o x p => k o x p
  | _ => none
noncomputable def eTu {γ : Type} (e : Expr) (k : List Expr → Nat → Pos → Option γ) : Option γ := match ek e with
  | .tu l j p => k l j p
  | _ => none
noncomputable def eCa {γ : Type} (e : Expr) (k : Expr → List Expr → List Keyword → Pos → Option γ) : Option γ := match ek e with
  | .ca f l w p => k f l w p
  | _ => none
noncomputable def cS {γ : Type} (c : Const) (k : Str → Option γ) : Option γ := match c with
  | .str x => k x
  | _ => none
noncomputable def cB {γ : Type} (c : Const) (k : Bool → Option γ) : Option γ := match c with
  | .bool x => k x
  | _ => none
noncomputable def isAt (e : Expr) : Bool := match ek e with
  | .at .. => true
  | _ => false
noncomputable def gX {γ : Type} (gs : List Comprehension) (k : Expr → Expr → List Expr → Option γ) : Option γ := nC gs fun g gs => n0 gs (match g with | ⟨t, it, ifs, z⟩ => match z with
  | .ofNat n => (match n with | 0 => k t it ifs | _ + 1 => none)
  | .negSucc _ => none)
inductive Spc where
  | repl (a x u v : Str) | hex (x : Str) (e : Expr)
noncomputable def specR (l r : Expr) : Option Spc := eCs l fun c _ _ => cS c fun a => eCa r fun f l w pos => n0 w (eAt f fun o m ap => eNm o fun x _ => nC l fun e1 l => nC l fun e2 l => n0 l (eCs e1 fun c _ _ => cS c fun u => eCs e2 fun c _ _ => cS c fun v =>
  uW (nm m "replace") (uW (Nat.beq ap.endLine pos.line) (some (.repl a x u v)))))
noncomputable def specH (f : Expr) (l : List Expr) (w : List Keyword) (pos : Pos) : Option Spc := n0 w (eAt f fun o m ap => eNm o fun x _ => nC l fun e l => n0 l (uW (nm m "fromhex") (uW (Nat.beq ap.endLine pos.line) (uW (plainArg e) (some (.hex x e))))))
noncomputable def spec (e : Expr) : Option Spc := match e with
  | .BinOp l op r _ => (match op with | .Add => specR l r | _ => none)
  | .Call f l w pos => specH f l w pos
  | _ => none
noncomputable def hexB (x : Str) : Option (Array UInt8) := match lq x.cps.toList [] with
  | true => some #[]
  | false => match lq x.cps.toList [48, 48, 65, 70] with
    | true => some #[0, 175]
    | false => none
noncomputable def isBy (v : SV) : Bool := match v with
  | .d x => (match x with | .top v => (match v with | .type t => decide (t = "bytes") | _ => false) | _ => false)
  | _ => false
noncomputable def evSp (T : Tb) (R : Rec) (se : SE) (q : Spc) (s : S) : Res SV := match q with
  | .repl a x u v => uN (nm x "__debug__") (uW (isLoc se.nm x) (uN (sq u v) (uW (Nat.ble (len v.cps.toList) 10) (uO (nameV T se x s) fun w => uS w fun y t => uN y (bnd (siz false t s) fun _ s => bin .Add (.d (.str false a)) (.d (.str false (Txt.replace t u v))) s)))))
  | .hex x e => uN (nm x "__debug__") (uO (nameV T se x s) fun w => uW (isBy w) (bnd (R.e se e s) fun v s => uS v fun y t => uN y (uO (hexB t) fun b => ret (.d (.byt b)) s)))
noncomputable def evCa (T : Tb) (R : Rec) (se : SE) (f : Expr) (args : List Expr) (s : S) : Res SV := uW (plainArgs args) (bnd (R.e se f s) fun fv s => uW (okTop T fv) (bnd (R.es se args s) fun vs s => R.ap se.d fv vs s))
noncomputable def evMe (T : Tb) (R : Rec) (se : SE) (o : Expr) (x : Str) (ap : Pos) (args : List Expr) (pos : Pos) (s : S) : Res SV := uW (plainArgs args) (uW (Nat.blt (len args) 20) (uW (Nat.beq ap.endLine pos.line) (uW (noSup o)
  (bnd (R.e se o s) fun ov s => match meth T ov x s with
      | some f => bnd (R.es se args s) fun vs s => R.ap se.d (.d (.top (.ref f))) (ov :: vs) s
      | none => uO (bmet T ov x s) fun m => bnd (R.es se args s) fun vs s => tyM T m ov vs s))))
noncomputable def evCm1 (T : Tb) (R : Rec) (se : SE) (l : Expr) (ops : List CmpOp) (rs : List Expr) (s : S) : Res Bool := nC ops fun op ops => n0 ops (nC rs fun r rs => n0 rs (uW (noSet r) (bnd (R.e se l s) fun a s => bnd (R.e se r s) fun b s => cmp T op a b s)))
noncomputable def evSb (T : Tb) (R : Rec) (se : SE) (o i : Expr) (s : S) : Res SV := bnd (R.e se o s) fun ov s => bnd (R.e se i s) fun iv s => sub T ov iv s
noncomputable def evSl (R : Rec) (se : SE) (o : Expr) (lo up : Option Expr) (s : S) : Res SV := bnd (R.e se o s) fun ov s => bnd (evPt R se lo s) fun a s => bnd (evPt R se up s) fun b s => slc ov a b s
noncomputable def evG (T : Tb) (R : Rec) (se : SE) (e : Expr) (s : S) : Res SV := match e with
  | .Constant c _ _ => uO (constD c) fun d => ret (.d d) s
  | .Name x _ => uN (nm x "__debug__") (uO (nameV T se x s) fun v => ret v s)
  | .BoolOp op l _ => R.bo se op l s
  | .BinOp l op r _ => bnd (R.e se l s) fun a s => bnd (R.e se r s) fun b s => bin op a b s
  | .UnaryOp op x _ => (match op with
    | .Not => bnd (R.e se x s) fun a s => uO (truth a) fun b => ret (.d (.bool !b)) s
    | .USub => bnd (R.e se x s) fun a s => uI a fun y i => ret (.d (.int y (-i))) s
    | _ => none)
  | .IfExp t a b _ => bnd (R.t se t s) fun c s => match c with | true => R.e se a s | false => R.e se b s
  | .List l _ => uW (plainArgs l) (bnd (R.es se l s) fun vs s => uW (Nat.blt (len vs) 100) (uO (closed vs) fun ds => ret (.lst (len s.σ)) (new s (.lst ds))))
  | .Tuple l _ _ => uW (plainArgs l) (bnd (R.es se l s) fun vs s => uW (Nat.blt (len vs) 100) (ret (tupV vs) s))
  | .Compare l ops rs _ => bnd (evCm1 T R se l ops rs s) fun c s => ret (.d (.bool c)) s
  | .Attribute o x _ => uW (noSup o) (bnd (R.e se o s) fun ov s => uO (getA T ov x s) fun v => ret v s)
  | .Subscript o i _ => (match i with
    | .Slice lo up st _ => (match st with | none => evSl R se o lo up s | some _ => none)
    | i => evSb T R se o i s)
  | .ListComp elt gs sc _ => gX gs fun t it ifs => bnd (evLc R se t it elt ifs sc s) fun q s => ret (.d (.lst false q.2)) (put s q.1 .dead)
  | .Call f args w pos => n0 w (match isAt f with
    | true => eAt f fun o x ap => evMe T R se o x ap args pos s
    | false => evCa T R se f args s)
  | _ => none
noncomputable def evE (T : Tb) (R : Rec) (se : SE) (e : Expr) (s : S) : Res SV := match spec e with
  | some q => evSp T R se q s
  | none => evG T R se e s
noncomputable def evEs (R : Rec) (se : SE) (l : List Expr) (s : S) : Res (List SV) := match l with
  | [] => ret [] s
  | e :: r => bnd (R.e se e s) fun v s => bnd (R.es se r s) fun vs s => ret (v :: vs) s
noncomputable def evV (R : Rec) (se : SE) (e : Expr) (s : S) : Res Bool := bnd (R.e se e s) fun v s => uO (truth v) fun b => ret b s
noncomputable def evT (T : Tb) (R : Rec) (se : SE) (e : Expr) (s : S) : Res Bool := match e with
  | .UnaryOp op x p => (match op with | .Not => bnd (R.t se x s) fun b s => ret (!b) s | op => evV R se (.UnaryOp op x p) s)
  | .BoolOp op l _ => R.ta se op l s
  | .IfExp t a b _ => bnd (R.t se t s) fun c s => match c with | true => R.t se a s | false => R.t se b s
  | .Compare l ops rs _ => evCm1 T R se l ops rs s
  | e => evV R se e s
noncomputable def evBo (R : Rec) (se : SE) (op : BoolOp) (l : List Expr) (s : S) : Res SV := nC l fun e r => match r with
  | [] => R.e se e s
  | _ :: _ => bnd (R.e se e s) fun v s => uO (truth v) fun b => match op with
    | .And => (match b with | true => R.bo se op r s | false => ret v s)
    | .Or => (match b with | true => ret v s | false => R.bo se op r s)
noncomputable def evTa (R : Rec) (se : SE) (op : BoolOp) (l : List Expr) (s : S) : Res Bool := match l with
  | [] => ret (match op with | .And => true | .Or => false) s
  | e :: r => bnd (R.t se e s) fun b s => match op with
    | .And => (match b with | true => R.ta se op r s | false => ret false s)
    | .Or => (match b with | true => ret true s | false => R.ta se op r s)
end
section
variable {α β : Type}
noncomputable def setNs (se : SE) : List Expr → List SV → S → Res Unit
  | ts, vs, s => match ts with
    | [] => n0 vs (ret () s)
    | t :: ts => nC vs fun v vs => eNm t fun x _ => bnd (setN se x v s) fun _ s => setNs se ts vs s
noncomputable def nms : List Expr → List SV → Bool
  | [], vs => (match vs with | [] => true | _ :: _ => false)
  | t :: ts, vs => (match vs with | [] => false | _ :: vs => (eNm t fun _ _ => some ()).isSome && nms ts vs)
noncomputable def items : SV → Option (List SV)
  | .tup l => some l
  | .d x => (match x with | .tup l => some (l.map .d) | _ => none)
  | _ => none
noncomputable def target (se : SE) (t : Expr) (v : SV) (s : S) : Res Unit := match t with
  | .Name x _ => setN se x v s
  | .Tuple ts _ _ => uO (items v) fun l => uW (nms ts l) (setNs se ts l s)
  | _ => none
noncomputable def evIfs (R : Rec) (se : SE) : List Expr → S → Res Bool
  | [], s => ret true s
  | [c], s => R.t se c s
  | _, _ => none
noncomputable def evCm (R : Rec) (se : SE) (t elt : Expr) (ifs : List Expr) (l : List Dat) (s : S) : Res (List Dat) := match l with
  | [] => ret [] s
  | x :: r => bnd (target se t (.d x) s) fun _ s => bnd (evIfs R se ifs s) fun b s => match b with
    | true => bnd (R.e se elt s) fun v s => uD v fun y => bnd (R.cm se t elt ifs r s) fun ys s => ret (y :: ys) s
    | false => R.cm se t elt ifs r s
noncomputable def evFo (R : Rec) (se : SE) (x : Str) (l : List Dat) (body : List Stmt) (s : S) : Res Fw := match l with
  | [] => ret .next s
  | v :: r => bnd (setN se x (.d v) s) fun _ s => bnd (R.ss se body s) fun fl s => match fl with
    | .next => R.fo se x r body s
    | .ret v => ret (.ret v) s
noncomputable def evWh (R : Rec) (se : SE) (t : Expr) (body : List Stmt) (s : S) : Res Fw := bnd (R.t se t s) fun c s => match c with
  | false => ret .next s
  | true => bnd (R.ss se body s) fun fl s => match fl with
    | .next => R.wh se t body s
    | .ret v => ret (.ret v) s
noncomputable def hT {β : Type} (s : S) (k : Nat → SR → List Hint → Res β) : Res β := match s.hs with
  | [] => none
  | h :: hs => (match h with | .st n r => k n r hs | _ => none)
noncomputable def flS : Option SV → Fw
  | none => .next
  | some v => .ret v
noncomputable def byS (T : Tb) (se : SE) (st : Stmt) (s : S) : Res Fw := hT s fun n r hs => uW (Nat.ble n se.d) (match r with
  | .ok fl σ => some ([T.SK n se st s.σ (.ok fl σ)], .ok (flS fl) ⟨σ, hs⟩)
  | .exc x => some ([T.SK n se st s.σ (.exc x)], .exc x))
noncomputable def isComp : Expr → Bool
  | .ListComp .. => true
  | .SetComp .. => true
  | .DictComp .. => true
  | _ => false
noncomputable def swp (se : SE) (ts vs : List Expr) : Option (Str × Str) := nC ts fun t1 ts => nC ts fun t2 ts => n0 ts (nC vs fun a vs => nC vs fun b vs => n0 vs (eNm t1 fun x p => eNm t2 fun y q =>
  uW (isLoc se.nm x) (uW (isLoc se.nm y) (uN (sq x y) (uW (Nat.beq p.line q.line) (uW (plainArg a) (uW (plainArg b) (uN (foldedForSure 8 a && foldedForSure 8 b) (uN (constantsAlone 8 a && constantsAlone 8 b) (some (x, y))))))))))) 
noncomputable def usd (se : SE) (x : Str) (p q : Pos) (sc : Scope) : Bool :=
  isLoc se.nm x && Nat.beq p.line q.line && !(sc.names.any fun (n, k) => n == x && (k == .local || k == .cell))
noncomputable def isGlob (l : List (Str × NameKind)) (x : Str) : Bool := match lk l x with | some .globalImplicit => true | _ => false
noncomputable def tryOk (se : SE) (x n n' : Str) : Bool := sq n n' && (se.tr && (isLoc se.nm n && (isGlob se.nm x && (!(nm x "__debug__") && !(nm n "__debug__")))))
noncomputable def isTu (e : Expr) : Bool := match ek e with
  | .tu .. => true
  | _ => false
noncomputable def eLc {γ : Type} (e : Expr) (k : Expr → Expr → Expr → List Expr → Scope → Pos → Option γ) : Option γ := match ek e with
  | .lc elt gs sc q => gX gs fun t it ifs => k elt t it ifs sc q
  | _ => none
noncomputable def lcN (R : Rec) (se : SE) (x : Str) (t it elt : Expr) (ifs : List Expr) (sc : Scope) (s : S) : Res Fw := bnd (evLc R se t it elt ifs sc s) fun r s => bnd (setN se x (.d (.lst false r.2)) s) fun _ s => uE s.σ r.1 (fun _ => ret .next (put s r.1 .dead)) fun _ => none
noncomputable def asgN (T : Tb) (R : Rec) (se : SE) (x : Str) (px : Pos) (e : Expr) (s : S) : Res Fw := match isComp e with
  | false => bnd (R.e se e s) fun v s => bnd (setN se x v s) fun _ s => ret .next s
  | true => eLc e fun elt t it ifs sc q => uW (usd se x px q sc) (lcN R se x t it elt ifs sc s)
noncomputable def asgT (R : Rec) (se : SE) (ts : List Expr) (e : Expr) (s : S) : Res Fw := match isTu e with
  | true => eTu e fun vs k q => uO (swp se ts vs) fun xy => bnd (R.e se (.Tuple vs k q) s) fun v s => uO (items v) fun l => nC l fun a l => nC l fun b l => n0 l (bnd (setN se xy.2 b s) fun _ s => bnd (setN se xy.1 a s) fun _ s => ret .next s)
  | false => uN (isComp e) (bnd (R.e se e s) fun v s => uO (items v) fun l => uW (nms ts l) (bnd (setNs se ts l s) fun _ s => ret .next s))
noncomputable def uR {γ : Type} (o : SV) (k : Addr → Option γ) : Option γ := match o with
  | .d x => (match x with | .top v => (match v with | .ref a => k a | _ => none) | _ => none)
  | _ => none
noncomputable def uX {γ : Type} (T : Tb) (x : Str) (k : Addr → Str → Str → Option γ) : Option γ := uO (T.X x) fun c => nC c.2 fun f l => nC l fun g l => n0 l (k c.1 f g)
noncomputable def raiF (T : Tb) (R : Rec) (se : SE) (x : Str) (a b : Expr) (s : S) : Res Fw := uX T x fun C f g => uW (plainArg a) (uW (plainArg b) (uN (nm x "__debug__") (uO (nameV T se x s) fun v => uR v fun C' => uW (Nat.beq C C')
  (bnd (R.e se a s) fun u s => bnd (R.e se b s) fun v s => uD u fun u => uD v fun v => some ([], .exc ⟨C, [(f, u), (g, v)]⟩)))))
noncomputable def tryX (T : Tb) (se : SE) (x n n' a f : Str) (b : Bool) (P : List Prop) (C : Addr) (fs : List (Str × Dat)) (s : S) : Res Fw := uX T x fun C1 _ f2 => uO (T.G x) fun g => uR (.d g) fun C2 => uW (tryOk se x n n') (uO (lk fs f) fun d =>
  uW (Nat.beq C C1) (uW (Nat.beq C C2) (uW (sq f f2) (uW (flat d) (some (P, .ok (.ret (.d (.tup [.str false a, d, .bool b]))) ⟨s.σ.map fun _ => .dead, []⟩))))))
noncomputable def tryF (T : Tb) (R : Rec) (se : SE) (body : List Stmt) (x n n' a f : Str) (b : Bool) (s : S) : Res Fw := match R.ss se body s with
  | none => none
  | some r => (match r.2 with
    | .ok _ _ => some r
    | .exc X => tryX T se x n n' a f b r.1 X.cls X.fs s)
noncomputable def sRe {γ : Type} (st : Stmt) (k : Expr → Option γ) : Option γ := match st with
  | .Return e _ => uO e k
  | _ => none
noncomputable def hX {γ : Type} (hs : List ExceptHandler) (k : Str → Str → Stmt → Option γ) : Option γ := nC hs fun h hs => n0 hs (match h with | .ExceptHandler ty nm bd _ => uO ty fun ty => eNm ty fun x _ => uO nm fun n => nC bd fun st bd => n0 bd (k x n st))
noncomputable def eRt {γ : Type} (e : Expr) (k : Str → Str → Str → Bool → Option γ) : Option γ := eTu e fun l _ _ => nC l fun e1 l => nC l fun e2 l => nC l fun e3 l => n0 l (eCs e1 fun c _ _ => cS c fun a => eAt e2 fun o f _ => eNm o fun n' _ => eCs e3 fun c _ _ => cB c fun b => k a n' f b)
noncomputable def asgF (T : Tb) (R : Rec) (se : SE) (t e : Expr) (pos : Pos) (s : S) : Res Fw := match t with
  | .Name x px => (match T.stl pos.line with
    | true => byS T se (.Assign [.Name x px] e pos) s
    | false => asgN T R se x px e s)
  | .Attribute o x _ => uN (isComp e) (bnd (R.e se e s) fun v s => bnd (R.e se o s) fun ov s => bnd (setA T ov x v s) fun _ s => ret .next s)
  | .Subscript o i _ => uN (isComp e) (bnd (R.e se e s) fun v s => bnd (R.e se o s) fun ov s => bnd (R.e se i s) fun iv s => bnd (setI ov iv v s) fun _ s => ret .next s)
  | .Tuple ts _ _ => asgT R se ts e s
  | _ => none
noncomputable def evSt (T : Tb) (R : Rec) (se : SE) (st : Stmt) (s : S) : Res Fw := match st with
  | .Expr e _ => uN (isComp e) (bnd (R.e se e s) fun _ s => ret .next s)
  | .Return e _ => (match e with
    | some e => bnd (R.e se e s) fun v s => ret (.ret v) s
    | none => ret (.ret (.d .none)) s)
  | .Assign ts e pos => nC ts fun t ts => n0 ts (asgF T R se t e pos s)
  | .If t a b _ => bnd (R.t se t s) fun c s => match c with | true => R.ss se a s | false => R.ss se b s
  | .While t body els pos => n0 els (match T.stl pos.line with
    | true => byS T se (.While t body [] pos) s
    | false => R.wh se t body s)
  | .For tg it body els pos => n0 els (eNm tg fun x px => match T.stl pos.line with
    | true => byS T se (.For (.Name x px) it body [] pos) s
    | false => uW (noSet it) (bnd (evIt R se it s) fun l s => R.fo se x l body s))
  | .Raise e u _ => oN u (uO e fun e => eCa e fun f l w _ => n0 w (eNm f fun x _ => nC l fun a l => nC l fun b l => n0 l (raiF T R se x a b s)))
  | .Try body hs els fin _ => n0 els (n0 fin (hX hs fun x n st => sRe st fun e => eRt e fun a n' f b => tryF T R se body x n n' a f b s))
  | _ => none
noncomputable def evSs (T : Tb) (R : Rec) (se : SE) (l : List Stmt) (s : S) : Res Fw := match l with
  | [] => ret .next s
  | st :: r => bnd (evSt T R se st s) fun fl s => match fl with
    | .next => R.ss se r s
    | .ret v => ret (.ret v) s
noncomputable def step (T : Tb) (R : Rec) : Rec := ⟨evE T R, evEs R, evT T R, evBo R, evTa R, evSs T R, apF T R, evWh R, evFo R, evCm R⟩
noncomputable def rec0 : Rec := ⟨fun _ _ _ => none, fun _ _ _ => none, fun _ _ _ => none, fun _ _ _ _ => none, fun _ _ _ _ => none, fun _ _ _ => none, fun _ _ _ _ => none, fun _ _ _ _ => none, fun _ _ _ _ _ => none, fun _ _ _ _ _ _ => none⟩
noncomputable def run (T : Tb) : Nat → Rec
  | 0 => rec0
  | n + 1 => step T (run T n)
end
section
variable {α β τ υ : Type}
theorem lk_lookup {α : Type} (x : Str) (l : List (Str × α)) : lk l x = l.lookup x := by
  induction l with
  | nil => rfl
  | cons a r ih =>
    show (bif sq a.1 x then some a.2 else lk r x) = List.lookup x ((a.1, a.2) :: r)
    rw [List.lookup_cons, beq_sq, ih]; cases sq a.1 x <;> rfl
theorem bnd_inv {y : Res α} {k : α → S → Res β} {P : List Prop} {o : Oc β} (h : bnd y k = some (P, o)) (hp : okL P) :
    (∃ P1 x, y = some (P1, .exc x) ∧ okL P1 ∧ o = .exc x) ∨ (∃ P1 a s1 P2, y = some (P1, .ok a s1) ∧ okL P1 ∧ k a s1 = some (P2, o) ∧ okL P2) := by
  cases y with
  | none => cases h
  | some q =>
    obtain ⟨P1, q⟩ := q
    cases q with
    | exc x => cases h; exact .inl ⟨_, _, rfl, hp, rfl⟩
    | ok a s =>
      unfold bnd at h
      dsimp only at h
      cases e : k a s with
      | none => rw [e] at h; cases h
      | some q => rw [e] at h; cases h; exact .inr ⟨_, _, _, _, rfl, (okL_app hp).1, e, (okL_app hp).2⟩
theorem ret_inv {a : α} {s : S} {P : List Prop} {o : Oc α} (h : ret a s = some (P, o)) : o = .ok a s := by cases h; rfl
noncomputable def Post (c : Cx) (p : Pl) (rel : Wd → α → τ → Prop) (o : Oc α) (W : Wd) (s : Shared) (Q : τ → Shared → Prop) (E : Value → Shared → Prop) : Prop :=
  match o with
  | .ok a s' => ∀ sh' W' v, Step p.fl W s.heap W' sh'.heap → Inv c.h₀ p.fl s'.σ W' sh'.heap → Rest s sh' → rel W' a v → Q v sh'
  | .exc x => ∀ sh' e, Exd p.envs p.fl W s.heap x e sh'.heap → Rest s sh' → E e sh'
theorem Post.after {c : Cx} {p : Pl} {rel : Wd → α → τ → Prop} {o : Oc α} {W W' : Wd} {s s' : Shared} {Q : τ → Shared → Prop} {E : Value → Shared → Prop} (z : Post c p rel o W s Q E)
    (S : Step p.fl W s.heap W' s'.heap) (R : Rest s s') : Post c p rel o W' s' Q E := by
  cases o with
  | ok a q => exact fun sh' W'' v S' I' R' r' => z sh' W'' v (S.trans S') I' (R.trans R') r'
  | exc x => exact fun sh' e X R' => z sh' e (X.back S) (R.trans R')
noncomputable def Run (c : Cx) (p : Pl) (t : Sem τ) (rel : Wd → α → τ → Prop) (o : Oc α) (W : Wd) (s : Shared) : Prop :=
  ∀ (Q : τ → Shared → Prop) (E : Value → Shared → Prop), Post c p rel o W s Q E → wpAny c.M p.A t Q E s
theorem AOk.le {A : Around} {fl : List Addr} {envs : List Env} {d n : Nat} (K : AOk A fl envs d) (h : n ≤ d) : AOk A fl envs n :=
  ⟨K.handled, Nat.lt_of_le_of_lt (Nat.add_le_add_left (Nat.mul_le_mul_left 3 h) _) K.depth, Nat.lt_of_le_of_lt (Nat.add_le_add_right (Nat.add_le_add_left (Nat.mul_le_mul_left 30 h) _) _) K.units, K.frames, K.fl, K.kinds⟩
structure EnvOk (p : Pl) (se : SE) (env : Env) (W : Wd) : Prop where
  kind : env.scope.kind = .function
  names : env.scope.names = se.nm
  loc : W.ρ[se.fr]? = some env.locals
  glob : env.globals = mainGlobals
  blt : env.builtins = builtinsNs
  cells : ∀ x k, lk se.cl x = some k → ∃ a, env.cells.lookup x = some a ∧ W.ρ[k]? = some a
  frame : ∃ L, env.frame = some L ∧ p.fl.head? = some L
  own : se.tr = true → env.frame = some env.locals
theorem EnvOk.mono {p : Pl} {se : SE} {env : Env} {W W' : Wd} (h : WLe W W') (x : EnvOk p se env W) : EnvOk p se env W' :=
  ⟨x.kind, x.names, h.at x.loc, x.glob, x.blt, fun n k e => let ⟨a, y, z⟩ := x.cells n k e; ⟨a, y, h.at z⟩, x.frame, x.own⟩
theorem EnvOk.kindOf {p : Pl} {se : SE} {env : Env} {W : Wd} (x : EnvOk p se env W) (n : Str) : env.kindOf n = lk se.nm n := by
  unfold Env.kindOf; rw [x.names, lk_lookup]
noncomputable def Rt (c : Cx) (se : SE) (x : Res α) (σ : St) (t : Env → Sem τ) (rel : Wd → α → τ → Prop) : Prop :=
  ∀ P o, x = some (P, o) → okL P → ∀ p env W sh, AOk p.A p.fl p.envs se.d → EnvOk p se env W → Inv c.h₀ p.fl σ W sh.heap → Run c p (t env) rel o W sh
theorem bndR {c : Cx} {p : Pl} {se : SE} {env : Env} {W : Wd} {sh : Shared} {σ : St} {x : Res α} {k : α → S → Res β} {t : Env → Sem τ} {rel : Wd → α → τ → Prop} {rel2 : Wd → β → υ → Prop} {P : List Prop} {o : Oc β} {Q' : τ → Shared → Prop} {Q : υ → Shared → Prop} {E : Value → Shared → Prop}
    (h : bnd x k = some (P, o)) (hp : okL P) (r : Rt c se x σ t rel) (A : AOk p.A p.fl p.envs se.d) (V : EnvOk p se env W) (I : Inv c.h₀ p.fl σ W sh.heap) (z : Post c p rel2 o W sh Q E)
    (hk : ∀ P2 a s1 sh1 W1 v, k a s1 = some (P2, o) → okL P2 → WLe W W1 → Inv c.h₀ p.fl s1.σ W1 sh1.heap → rel W1 a v → Post c p rel2 o W1 sh1 Q E → Q' v sh1) : wpAny c.M p.A (t env) Q' E sh := by
  rcases bnd_inv h hp with ⟨P1, x, h1, p1, rfl⟩ | ⟨P1, a, s1, P2, h1, p1, h2, p2⟩
  · exact r _ _ h1 p1 p env W sh A V I _ _ z
  · exact r _ _ h1 p1 p env W sh A V I _ _ fun sh1 W1 v S1 I1 R1 r1 => hk _ _ _ _ _ _ h2 p2 S1.le I1 r1 (z.after S1 R1)
theorem runR {c : Cx} {p : Pl} {W : Wd} {sh : Shared} {x : Res α} {k : α → S → Res β} {t : Sem τ} {rel : Wd → α → τ → Prop} {rel2 : Wd → β → υ → Prop} {P : List Prop} {o : Oc β} {Q' : τ → Shared → Prop} {Q : υ → Shared → Prop} {E : Value → Shared → Prop}
    (h : bnd x k = some (P, o)) (hp : okL P) (r : ∀ P o, x = some (P, o) → okL P → Run c p t rel o W sh) (z : Post c p rel2 o W sh Q E)
    (hk : ∀ P2 a s1 sh1 W1 v, k a s1 = some (P2, o) → okL P2 → WLe W W1 → Inv c.h₀ p.fl s1.σ W1 sh1.heap → rel W1 a v → Post c p rel2 o W1 sh1 Q E → Q' v sh1) : wpAny c.M p.A t Q' E sh := by
  rcases bnd_inv h hp with ⟨P1, x, h1, p1, rfl⟩ | ⟨P1, a, s1, P2, h1, p1, h2, p2⟩
  · exact r _ _ h1 p1 _ _ z
  · exact r _ _ h1 p1 _ _ fun sh1 W1 v S1 I1 R1 r1 => hk _ _ _ _ _ _ h2 p2 S1.le I1 r1 (z.after S1 R1)
theorem bndS {c : Cx} {p : Pl} {W : Wd} {sh : Shared} {x : Res α} {k : α → S → Res β} {t : Sem τ} {rel : Wd → α → τ → Prop} {P : List Prop} {o : Oc β} {Q' : τ → Shared → Prop} {E : Value → Shared → Prop}
    (h : bnd x k = some (P, o)) (hp : okL P) (r : ∀ P o, x = some (P, o) → okL P → Run c p t rel o W sh) (hE : ∀ y, o = .exc y → ∀ sh' e, Exd p.envs p.fl W sh.heap y e sh'.heap → Rest sh sh' → E e sh')
    (hk : ∀ P2 a s1 sh1 W1 v, k a s1 = some (P2, o) → okL P2 → Step p.fl W sh.heap W1 sh1.heap → Inv c.h₀ p.fl s1.σ W1 sh1.heap → Rest sh sh1 → rel W1 a v → Q' v sh1) : wpAny c.M p.A t Q' E sh := by
  rcases bnd_inv h hp with ⟨P1, x, h1, p1, e⟩ | ⟨P1, a, s1, P2, h1, p1, h2, p2⟩
  · exact r _ _ h1 p1 _ _ (hE x e)
  · exact r _ _ h1 p1 _ _ fun sh1 W1 v S1 I1 R1 r1 => hk _ _ _ _ _ _ h2 p2 S1 I1 R1 r1
theorem Post.ret {c : Cx} {p : Pl} {rel : Wd → α → τ → Prop} {a : α} {s : S} {P : List Prop} {o : Oc α} {W : Wd} {sh : Shared} {Q : τ → Shared → Prop} {E : Value → Shared → Prop} {v : τ} (h : P465.ret a s = some (P, o)) (z : Post c p rel o W sh Q E) (I : Inv c.h₀ p.fl s.σ W sh.heap) (r : rel W a v) : Q v sh := by
  cases h; exact z sh W v (.refl ..) I (.refl _) r
noncomputable def FwR (W : Wd) : Fw → Flow → Prop
  | .next, f => f = .next
  | .ret v, f => ∃ x, f = .ret x ∧ VR W v x
noncomputable def EqR {γ : Type} (_ : Wd) (a b : γ) : Prop := a = b
noncomputable def ApOk (c : Cx) (d : Nat) (x : Res SV) (σ : St) (f : SV) (vs : List SV) : Prop :=
  ∀ P o, x = some (P, o) → okL P → ∀ p W sh fv as, AOk p.A p.fl p.envs d → Inv c.h₀ p.fl σ W sh.heap → VR W f fv → VRs W vs as → Run c p (call fv as) VR o W sh
inductive Noted (e : Value) (h : Heap) : Prop
  | mk (a : Addr) (o : Obj) (vs : Array Value) (T : Addr) (p : e = .ref a) (g : h.get? a = some o) (d : o.data = .fields vs) (t : vs[1]? = some (.ref T))
noncomputable def LpPost (c : Cx) (p : Pl) (rel : Wd → α → τ → Prop) (o : Oc α) (W : Wd) (s : Shared) (Q : τ → Shared → Prop) (E : Value → Shared → Prop) : Prop :=
  match o with
  | .ok a s' => ∀ sh' W' v, Step p.fl W s.heap W' sh'.heap → Inv c.h₀ p.fl s'.σ W' sh'.heap → Rest s sh' → rel W' a v → Q v sh'
  | .exc x => ∀ sh' e, Exd p.envs p.fl W s.heap x e sh'.heap → Noted e sh'.heap → Rest s sh' → E e sh'
noncomputable def WhOk (c : Cx) (se : SE) (x : Res Fw) (σ : St) (t : Env → Code) : Prop :=
  ∀ P o, x = some (P, o) → okL P → ∀ p env W sh, AOk p.A p.fl p.envs se.d → EnvOk p se env W → Inv c.h₀ p.fl σ W sh.heap →
    ∀ R : Result → Shared → Prop, LpPost c p FwR o W sh (fun f s' => R (.ok f) s') (fun e s' => R (.error e) s') → codeAny c.M p.A (t env) R sh
inductive ItOk (c : Cx) (p : Pl) (W : Wd) (h0 : Heap) (it : Value) (l : List Dat) (h : Heap) : Prop
  | mk (I : Addr) (fp : List Addr) (n : Nat) (P : Nat → Value → Prop) (St : Nat → Heap → Prop) (i : Nat) (e : it = .ref I) (w : Walks pw c.w p.A I fp [I] n P St) (s : St i h) (len : i + l.length = n)
    (vs : ∀ j v, P (i + j) v → j < l.length → ∃ d, l[j]? = some d ∧ VD W.Z d v) (lo : h0.objs.size ≤ I) (z : W.Z I = none) (r : I ∉ W.ρ) (f : I ∉ p.fl) (hi : I < h.objs.size)
    (fp : ∀ b ∈ fp, b = I ∨ ∃ o, W.Z b = some o) (go : ∀ i s v tg (Q : Unit → Shared → Prop) E, St i s.heap → Q () s → wpAny c.M p.A (letOwnedTupleGo tg (.ref I) v) Q E s)
noncomputable def FoOk (c : Cx) (se : SE) (x : Res Fw) (σ : St) (l : List Dat) (t : Value → Env → Code) : Prop :=
  ∀ P o, x = some (P, o) → okL P → ∀ p env W sh W0 sh0 it, AOk p.A p.fl p.envs se.d → EnvOk p se env W → Inv c.h₀ p.fl σ W sh.heap → Step p.fl W0 sh0.heap W sh.heap → Rest sh0 sh → ItOk c p W sh0.heap it l sh.heap →
    ∀ R : Result → Shared → Prop, LpPost c p FwR o W0 sh0 (fun f s' => R (.ok f) s') (fun e s' => R (.error e) s') → codeAny c.M p.A (t it env) R sh
structure Acc (p : Pl) (W : Wd) (h0 : Heap) (it : Value) (D : Addr) (got : List Dat) (n : Nat) (xs : Array Value) (h : Heap) : Prop where
  pl : h.PlainList D xs
  vs : VDs W.Z got xs.toList
  sz : got.length + n ≤ 10000
  lo : h0.objs.size ≤ D
  z : W.Z D = none
  r : D ∉ W.ρ
  f : D ∉ p.fl
  ne : it ≠ .ref D
noncomputable def CmPost (c : Cx) (p : Pl) (o : Oc (List Dat)) (W0 : Wd) (sh0 : Shared) (W : Wd) (D : Addr) (got : List Dat) (R : Result → Shared → Prop) : Prop := match o with
  | .ok a s' => ∀ sh' W' ys, WLe W W' → Step p.fl W0 sh0.heap W' sh'.heap → Inv c.h₀ p.fl s'.σ W' sh'.heap → Rest sh0 sh' → sh'.heap.PlainList D ys → VDs W'.Z (got ++ a) ys.toList → W'.Z D = none → D ∉ W'.ρ → R (.ok .next) sh'
  | .exc _ => False
noncomputable def CmOk (c : Cx) (se : SE) (x : Res (List Dat)) (σ : St) (l : List Dat) (t : Value → Value → Env → Code) : Prop :=
  ∀ P o, x = some (P, o) → okL P → ∀ p env W sh W0 sh0 it D got xs, AOk p.A p.fl p.envs se.d → EnvOk p se env W → Inv c.h₀ p.fl σ W sh.heap → Step p.fl W0 sh0.heap W sh.heap → Rest sh0 sh → ItOk c p W sh0.heap it l sh.heap →
    Acc p W sh0.heap it D got l.length xs sh.heap → ∀ R : Result → Shared → Prop, CmPost c p o W0 sh0 W D got R → codeAny c.M p.A (t it (.ref D) env) R sh
structure Snd (c : Cx) (R : Rec) : Prop where
  e : ∀ se ex s, Rt c se (R.e se ex s) s.σ (eval ex) VR
  es : ∀ se l s, plainArgs l = true → ∀ pos, Rt c se (R.es se l s) s.σ (fun env => spliced (backTo pos (starEach l env))) VRs
  t : ∀ se ex s, Rt c se (R.t se ex s) s.σ (fun env => isTrue ex env (eval ex env)) EqR
  bo : ∀ se op l s pos, Rt c se (R.bo se op l s) s.σ (eval (.BoolOp op l pos)) VR
  ta : ∀ se op l s, Rt c se (R.ta se op l s) s.σ (allTrue op l) EqR
  ss : ∀ se l s, Rt c se (R.ss se l s) s.σ (execs l) FwR
  ap : ∀ d f vs s, ApOk c d (R.ap d f vs s) s.σ f vs
  wh : ∀ se t body s, WhOk c se (R.wh se t body s) s.σ (.whileLoop t body [])
  fo : ∀ se x l body s pos, FoOk c se (R.fo se x l body s) s.σ l (fun it => .forLoop (.Name x pos) it body [])
  cm : ∀ se t elt ifs l s it sc pos, CmOk c se (R.cm se t elt ifs l s) s.σ l (fun i D => .compLoop (.ListComp elt [⟨t, it, ifs, 0⟩] sc pos) 0 i D)
section
variable {c : Cx} {p : Pl} {se : SE} {env : Env} {W : Wd} {sh : Shared} {s : S} {Q : Value → Shared → Prop} {E : Value → Shared → Prop} {P : List Prop} {T : Tb} {R : Rec}
theorem Post.now {rel : Wd → α → τ → Prop} {a : α} {v : τ} {Q : τ → Shared → Prop} (z : Post c p rel (.ok a s) W sh Q E) (I : Inv c.h₀ p.fl s.σ W sh.heap) (r : rel W a v) {sh' : Shared} (hh : sh'.heap = sh.heap) (hr : Rest sh sh') : Q v sh' :=
  z sh' W v (by rw [hh]; exact .refl ..) (by rw [hh]; exact I) hr r
theorem Post.tk {rel : Wd → α → τ → Prop} {a : α} {o : Oc α} {Q : τ → Shared → Prop} {v : τ} {n : Nat} (h : P465.ret a s = some (P, o)) (z : Post c p rel o W sh Q E) (I : Inv c.h₀ p.fl s.σ W sh.heap) (r : rel W a v) : Q v { sh with toks := n } := by
  cases h; exact z { sh with toks := n } W v (.refl ..) I ⟨rfl, rfl⟩ r
theorem snd_const {k : Const} {j : Nat} {pos : Pos} : Rt c se (evG T R se (.Constant k j pos) s) s.σ (eval (.Constant k j pos)) VR := by
  intro P o h hp p env W sh A V I Q E z
  show wpAny _ _ (constValue env k) Q E sh
  cases k with
  | none => exact wpAny_pure (z.ret h I (.d .none))
  | bool => exact wpAny_pure (z.ret h I (.d .bool))
  | int => exact wpAny_mkInt (z.tk h I (.d .int))
  | str => exact wpAny_mkText (z.tk h I (.d .str))
  | bytes b =>
    have q : ∀ t n, Q (.bytes b.toArray t) { sh with toks := n } := fun t n => z.tk h I (.d .byt)
    exact fun _ _ _ => q _ _
  | _ => cases h
theorem snd_bin {l r : Expr} {op : Operator} {pos : Pos} (S : Snd c R)
    (hb : ∀ a b s P o, bin op a b s = some (P, o) → okL P → ∀ p W sh va vb, AOk p.A p.fl p.envs se.d → Inv c.h₀ p.fl s.σ W sh.heap → VR W a va → VR W b vb → Run c p (binaryOp op va vb) VR o W sh) :
    Rt c se (evG T R se (.BinOp l op r pos) s) s.σ (eval (.BinOp l op r pos)) VR := by
  intro P o h hp p env W sh A V I Q E z
  exact wpAny_BinOp (bndR h hp (S.e se l s) A V I z fun _ a s1 sh1 W1 va h p1 L1 I1 r1 z => bndR h p1 (S.e se r s1) A (V.mono L1) I1 z fun _ b s2 sh2 W2 vb h p2 L2 I2 r2 z => hb _ _ _ _ _ h p2 p W2 sh2 va vb A I2 (r1.mono L2) r2 _ _ z)
end
end
section
variable {W : Wd}
theorem Inv.h0 {h₀ h : Heap} {fl : List Addr} {σ : St} (I : Inv h₀ fl σ W h) : ∀ b o, h₀.get? b = some o → h.get? b = some o := fun b o e => I.zk b o (I.base b o e)
theorem Inv.at {h₀ h : Heap} {fl : List Addr} {σ : St} (I : Inv h₀ fl σ W h) {k : Nat} {e : En} {a : Addr} (hk : nth σ k = some e) (ha : W.ρ[k]? = some a) : ER W fl h a e := by
  rw [nth_eq] at hk
  obtain ⟨b, x, r⟩ := I.ent k e hk
  rw [ha] at x; cases x; exact r
theorem Inv.at' {h₀ h : Heap} {fl : List Addr} {σ : St} (I : Inv h₀ fl σ W h) {k : Nat} {e : En} (hk : nth σ k = some e) : ∃ a, W.ρ[k]? = some a ∧ ER W fl h a e := by
  rw [nth_eq] at hk; exact I.ent k e hk
end
section
variable {W : Wd} {γ : Type} {g : γ} {o : SV} {va : Value} {G : Value → Prop}
theorem uS.r {k : Bool → Str → Option γ} (h : uS o k = some g) (r : VR W o va) (H : ∀ y t tk, k y t = some g → G (.str t tk)) : G va := by
  cases o with
  | d x => cases x with
    | str y t => obtain ⟨tk, rfl⟩ := r.i; exact H _ _ _ h
    | _ => exact nn h
  | _ => exact nn h
theorem uI.r {k : Bool → Int → Option γ} (h : uI o k = some g) (r : VR W o va) (H : ∀ y t tk, k y t = some g → G (.int t tk)) : G va := by
  cases o with
  | d x => cases x with
    | int y t => obtain ⟨tk, rfl⟩ := r.i; exact H _ _ _ h
    | _ => exact nn h
  | _ => exact nn h
theorem uB.r {k : Array UInt8 → Option γ} (h : uB o k = some g) (r : VR W o va) (H : ∀ t tk, k t = some g → G (.bytes t tk)) : G va := by
  cases o with
  | d x => cases x with
    | byt t => obtain ⟨tk, rfl⟩ := r.i; exact H _ _ h
    | _ => exact nn h
  | _ => exact nn h
theorem uD.r {k : Dat → Option γ} {B : Prop} (h : uD o k = some g) (r : VR W o va) (H : ∀ x, k x = some g → VD W.Z x va → B) : B := by
  cases o with
  | d x => exact H _ h r.di
  | _ => exact nn h
theorem uL.r {h₀ : Heap} {fl : List Addr} {σ : St} {hp : Heap} {k : Nat → List Dat → Option γ} (h : uL o σ k = some g) (I : Inv h₀ fl σ W hp) (r : VR W o va)
    (H : ∀ i l a xs ep, k i l = some g → W.ρ[i]? = some a → W.Z a = none → hp.get? a = some ⟨.type "list", none, .seq xs ep, #[]⟩ → VDs W.Z l xs.toList → G (.ref a)) : G va := by
  cases o with
  | lst i =>
    obtain ⟨a, rfl, ha⟩ := r.li
    unfold uL at h
    dsimp only at h
    cases e : nth σ i with
    | none => rw [e] at h; exact nn h
    | some en =>
      rw [e] at h
      cases en with
      | lst l =>
        obtain ⟨xs, ep, z, g, v⟩ := (I.at e ha).li
        exact H i l a xs ep h ha z g v
      | _ => exact nn h
  | _ => exact nn h
theorem uT.r {T : Tb} {k : List (Str × Dat) → Option γ} (h : uT T o k = some g) (r : VR W o va) (H : ∀ a l, k l = some g → T.D a = some l → G (.ref a)) : G va := by
  cases o with
  | d x => cases x with
    | top v =>
      obtain ⟨-, rfl⟩ := r.i
      cases va with
      | ref a =>
        unfold uT at h
        dsimp only at h
        cases e : T.D a with
        | none => rw [e] at h; exact nn h
        | some l => rw [e] at h; exact H a l h e
      | _ => exact nn h
    | _ => exact nn h
  | _ => exact nn h
theorem uA.r {h₀ : Heap} {fl : List Addr} {σ : St} {hp : Heap} {kI : Bool → Int → Option γ} {kS : Bool → Str → Option γ} {kL : Nat → List Dat → Option γ} (h : uA o σ kI kS kL = some g) (I : Inv h₀ fl σ W hp) (r : VR W o va)
    (HI : ∀ y t tk, kI y t = some g → G (.int t tk)) (HS : ∀ y t tk, kS y t = some g → G (.str t tk))
    (HL : ∀ i l a xs ep, kL i l = some g → W.ρ[i]? = some a → W.Z a = none → hp.get? a = some ⟨.type "list", none, .seq xs ep, #[]⟩ → VDs W.Z l xs.toList → G (.ref a)) : G va := by
  cases o with
  | d x => cases x with
    | int y t => obtain ⟨tk, rfl⟩ := r.i; exact HI _ _ _ h
    | str y t => obtain ⟨tk, rfl⟩ := r.i; exact HS _ _ _ h
    | _ => exact nn h
  | lst i => exact uL.r (o := .lst i) (k := kL) h I r HL
  | _ => exact nn h
theorem i2.r {k : Bool → Bool → Int → Int → Option γ} {b : SV} {vb : Value} {G : Value → Value → Prop} (h : i2 o b k = some g) (ra : VR W o va) (rb : VR W b vb) (H : ∀ y z i j t u, k y z i j = some g → G (.int i t) (.int j u)) : G va vb :=
  uI.r (G := fun v => G v vb) h ra fun y i t h => uI.r (G := G _) h rb fun z j u h => H y z i j t u h
theorem uC.r {h₀ : Heap} {fl : List Addr} {σ : St} {hp : Heap} {T : Tb} {kL : Nat → List Dat → Option γ} {kl : Bool → List Dat → Option γ} {kt : List Dat → Option γ} {ks : Bool → Str → Option γ} {kT : List (Str × Dat) → Option γ}
    (h : uC T o σ kL kl kt ks kT = some g) (I : Inv h₀ fl σ W hp) (r : VR W o va)
    (HL : ∀ i l a xs ep, kL i l = some g → W.ρ[i]? = some a → W.Z a = none → hp.get? a = some ⟨.type "list", none, .seq xs ep, #[]⟩ → VDs W.Z l xs.toList → G (.ref a))
    (Hl : ∀ y l a xs ep, kl y l = some g → W.Z a = some ⟨.type "list", none, .seq xs ep, #[]⟩ → VDs W.Z l xs.toList → G (.ref a))
    (Ht : ∀ l a xs ep, kt l = some g → W.Z a = some ⟨.type "tuple", none, .seq xs ep, #[]⟩ → VDs W.Z l xs.toList → G (.ref a))
    (HS : ∀ y t tk, ks y t = some g → G (.str t tk)) (HT : ∀ a l, kT l = some g → T.D a = some l → G (.ref a)) : G va := by
  cases o with
  | d x => cases x with
    | lst y l => obtain ⟨a, xs, ep, z, vs, rfl⟩ := r.i; exact Hl _ _ _ _ _ h z vs
    | tup l => obtain ⟨a, xs, ep, z, vs, rfl⟩ := r.i; exact Ht _ _ _ _ h z vs
    | str y t => obtain ⟨tk, rfl⟩ := r.i; exact HS _ _ _ h
    | top v => exact uT.r (o := .d (.top v)) (k := kT) h r HT
    | _ => exact nn h
  | lst i => exact uL.r (o := .lst i) (k := kL) h I r HL
  | _ => exact nn h
theorem uM.r {h₀ : Heap} {fl : List Addr} {σ : St} {hp : Heap} {kI : Addr → Nat → List (Str × SV) → Option γ} {kD : Addr → List (Str × Dat) → Option γ} (h : uM o σ kI kD = some g) (I : Inv h₀ fl σ W hp) (r : VR W o va)
    (HI : ∀ C i l x dx es n, kI C i l = some g → W.Z x = some ⟨.ref C, some dx, .plain, #[]⟩ → W.ρ[i]? = some dx → W.Z dx = none → dx ∉ fl → hp.get? dx = some (dictOf es n) → VRf W l es → es.length ≤ 100 → G (.ref x))
    (HD : ∀ C l x dx es n, kD C l = some g → W.Z x = some ⟨.ref C, some dx, .plain, #[]⟩ → W.Z dx = some (dictOf es n) → VDf W.Z l es → G (.ref x)) : G va := by
  cases o with
  | d x => cases x with
    | inst C l => obtain ⟨x, dx, es, n, z1, z2, v, rfl⟩ := r.i; exact HD _ _ _ _ _ _ h z1 z2 v
    | _ => exact nn h
  | inst C i =>
    obtain ⟨x, dx, rfl, z1, hd⟩ := r.ii
    unfold uM at h
    dsimp only at h
    cases e : nth σ i with
    | none => rw [e] at h; exact nn h
    | some en =>
      rw [e] at h
      cases en with
      | flds l => obtain ⟨es, n, z, f, q, v, c⟩ := (I.at e hd).fi; exact HI _ _ _ _ _ _ _ h z1 hd z f q v c
      | _ => exact nn h
  | _ => exact nn h
theorem natI.r {i : Int} {k : Nat → Option γ} {B : Prop} (h : natI i k = some g) (H : ∀ n : Nat, i = n → k n = some g → B) : B := by
  cases i with
  | ofNat n => exact H n rfl h
  | negSucc => exact nn h
theorem isNone.r (h : isNone o = true) (r : VR W o va) (H : G .none) : G va := by
  cases o with
  | d x => cases x with
    | none => obtain ⟨_, rfl⟩ := r.i; exact H
    | _ => cases h
  | _ => cases h
theorem uN.r {b : Bool} {k : Option γ} {B : Prop} (h : uN b k = some g) (H : k = some g → b = false → B) : B := by
  cases b with
  | false => exact H h rfl
  | true => exact nn h
theorem oN.r {α : Type} {o : Option α} {k : Option γ} {G : Option α → Prop} (h : oN o k = some g) (H : k = some g → G .none) : G o := by
  cases o with
  | none => exact H h
  | some _ => exact nn h
theorem oS.r {α : Type} {o : Option α} {k : α → Option γ} {G : Option α → Prop} (h : uO o k = some g) (H : ∀ x, k x = some g → G (.some x)) : G o := by
  cases o with
  | none => exact nn h
  | some x => exact H x h
theorem n0.r {α : Type} {l : List α} {k : Option γ} {G : List α → Prop} (h : n0 l k = some g) (H : k = some g → G []) : G l := by
  cases l with
  | nil => exact H h
  | cons => exact nn h
theorem nC.r {α : Type} {l : List α} {k : α → List α → Option γ} {G : List α → Prop} (h : nC l k = some g) (H : ∀ a r, k a r = some g → G (a :: r)) : G l := by
  cases l with
  | nil => exact nn h
  | cons a r => exact H a r h
theorem uE.r {h₀ : Heap} {fl : List Addr} {σ : St} {hp : Heap} {i : Nat} {a : Addr} {kL : List (Str × SV) → Option γ} {kC : Option SV → Option γ} {B : Prop} (h : uE σ i kL kC = some g) (I : Inv h₀ fl σ W hp) (ha : W.ρ[i]? = some a)
    (HL : ∀ l m, kL l = some g → W.Z a = none → hp.Ns a m → (∀ x s, lk l x = some s → ∃ v, m x = some v ∧ VR W s v) → B) (HC : ∀ v u, kC v = some g → W.Z a = none → hp.IsCell a u → (∀ s, v = some s → ∃ w, u = some w ∧ VR W s w) → B) : B := by
  unfold uE at h
  cases e : nth σ i with
  | none => rw [e] at h; exact nn h
  | some en =>
    rw [e] at h
    have q := I.at e ha
    cases en with
    | loc l => cases q with | loc z n m => exact HL _ _ h z n m
    | cell v => cases q with
      | cellN z n => exact HC _ _ h z n fun s e => nomatch e
      | cell z n r => exact HC _ _ h z n fun s e => by cases e; exact ⟨_, rfl, r⟩
    | _ => exact nn h
theorem uV.r {kR : Addr → Option γ} {kV : Value → Option γ} (h : uV o kR kV = some g) (r : VR W o va) (HR : ∀ a, kR a = some g → G (.ref a)) (HV : ∀ v, kV v = some g → G v) : G va := by
  cases o with
  | d x => cases x with
    | top v => obtain ⟨_, rfl⟩ := r.i; cases va with | ref a => exact HR _ h | _ => exact HV _ h
    | _ => exact nn h
  | _ => exact nn h
theorem uR.r {k : Addr → Option γ} (h : uR o k = some g) (r : VR W o va) (H : ∀ a, k a = some g → G (.ref a)) : G va := by
  cases o with
  | d x => cases x with
    | top v => obtain ⟨_, rfl⟩ := r.i; cases va with | ref a => exact H _ h | _ => exact nn h
    | _ => exact nn h
  | _ => exact nn h
variable {vs : List SV} {vas : List Value} {G : List Value → Prop}
theorem a0.r {k : Option γ} (h : a0 vs k = some g) (r : VRs W vs vas) (H : k = some g → G []) : G vas := by
  cases vs with
  | nil => cases r.i0; exact H h
  | cons => exact nn h
theorem a1.r {k : SV → Option γ} (h : a1 vs k = some g) (r : VRs W vs vas) (H : ∀ a va, k a = some g → VR W a va → G [va]) : G vas := by
  cases vs with
  | nil => exact nn h
  | cons a vs =>
    obtain ⟨va, r', rfl, ra, rs⟩ := r.ic
    exact a0.r (G := fun l => G (va :: l)) h rs fun h => H a va h ra
theorem a2.r {k : SV → SV → Option γ} (h : a2 vs k = some g) (r : VRs W vs vas) (H : ∀ a b va vb, k a b = some g → VR W a va → VR W b vb → G [va, vb]) : G vas := by
  cases vs with
  | nil => exact nn h
  | cons a vs =>
    obtain ⟨va, r', rfl, ra, rs⟩ := r.ic
    exact a1.r (G := fun l => G (va :: l)) h rs fun b vb h rb => H a b va vb h ra rb
theorem a12.r {k : SV → Option γ} {k2 : SV → SV → Option γ} (h : a12 vs k k2 = some g) (r : VRs W vs vas) (H : ∀ a va, k a = some g → VR W a va → G [va])
    (H2 : ∀ a b va vb, k2 a b = some g → VR W a va → VR W b vb → G [va, vb]) : G vas := by
  cases vs with
  | nil => exact nn h
  | cons a vs =>
    obtain ⟨va, r', rfl, ra, rs⟩ := r.ic
    cases vs with
    | nil => cases rs.i0; exact H a va h ra
    | cons b vs =>
      obtain ⟨vb, r', rfl, rb, rs⟩ := rs.ic
      exact a0.r (G := fun l => G (va :: vb :: l)) h rs fun h => H2 a b va vb h ra rb
end
section
variable {γ : Type} {g : γ} {e : Expr} {c : Const} {G : Expr → Prop} {H : Const → Prop}
theorem ek.r {P : Expr → EK → Prop} (nm : ∀ x p, P (.Name x p) (.nm x p)) (cs : ∀ c j p, P (.Constant c j p) (.cs c j p)) (at' : ∀ o x p, P (.Attribute o x p) (.at o x p)) (tu : ∀ l j p, P (.Tuple l j p) (.tu l j p)) (ca : ∀ f l w p, P (.Call f l w p) (.ca f l w p))
    (lc : ∀ e gs sc p, P (.ListComp e gs sc p) (.lc e gs sc p)) (se : ∀ l k p, P (.Set l k p) .se) (ot : ∀ e, P e .ot) (e : Expr) : P e (ek e) := by
  cases e with
  | Name x p => exact nm x p
  | Constant c j p => exact cs c j p
  | Attribute o x p => exact at' o x p
  | Tuple l j p => exact tu l j p
  | Call f l w p => exact ca f l w p
  | ListComp e gs sc p => exact lc e gs sc p
  | Set l k p => exact se l k p
  | _ => exact ot _
theorem eNm.r {k : Str → Pos → Option γ} (h : eNm e k = some g) (r : ∀ x p, k x p = some g → G (.Name x p)) : G e :=
  ek.r (P := fun e K => (match K with | .nm x p => k x p | _ => none) = some g → G e) r (fun _ _ _ => nn) (fun _ _ _ => nn) (fun _ _ _ => nn) (fun _ _ _ _ => nn) (fun _ _ _ _ => nn) (fun _ _ _ => nn) (fun _ => nn) e h
theorem eCs.r {k : Const → Nat → Pos → Option γ} (h : eCs e k = some g) (r : ∀ c j p, k c j p = some g → G (.Constant c j p)) : G e :=
  ek.r (P := fun e K => (match K with | .cs c j p => k c j p | _ => none) = some g → G e) (fun _ _ => nn) r (fun _ _ _ => nn) (fun _ _ _ => nn) (fun _ _ _ _ => nn) (fun _ _ _ _ => nn) (fun _ _ _ => nn) (fun _ => nn) e h
theorem eAt.r {k : Expr → Str → Pos → Option γ} (h : eAt e k = some g) (r : ∀ o x p, k o x p = some g → G (.Attribute o x p)) : G e :=
  ek.r (P := fun e K => (match K with | .at o x p => k o x p | _ => none) = some g → G e) (fun _ _ => nn) (fun _ _ _ => nn) r (fun _ _ _ => nn) (fun _ _ _ _ => nn) (fun _ _ _ _ => nn) (fun _ _ _ => nn) (fun _ => nn) e h
theorem eTu.r {k : List Expr → Nat → Pos → Option γ} (h : eTu e k = some g) (r : ∀ l j p, k l j p = some g → G (.Tuple l j p)) : G e :=
  ek.r (P := fun e K => (match K with | .tu l j p => k l j p | _ => none) = some g → G e) (fun _ _ => nn) (fun _ _ _ => nn) (fun _ _ _ => nn) r (fun _ _ _ _ => nn) (fun _ _ _ _ => nn) (fun _ _ _ => nn) (fun _ => nn) e h
theorem eCa.r {k : Expr → List Expr → List Keyword → Pos → Option γ} (h : eCa e k = some g) (r : ∀ f l w p, k f l w p = some g → G (.Call f l w p)) : G e :=
  ek.r (P := fun e K => (match K with | .ca f l w p => k f l w p | _ => none) = some g → G e) (fun _ _ => nn) (fun _ _ _ => nn) (fun _ _ _ => nn) (fun _ _ _ => nn) r (fun _ _ _ _ => nn) (fun _ _ _ => nn) (fun _ => nn) e h
theorem cS.r {k : Str → Option γ} (h : cS c k = some g) (r : ∀ x, k x = some g → H (.str x)) : H c := by
  cases c with
  | str x => exact r _ h
  | _ => exact nn h
theorem cB.r {k : Bool → Option γ} (h : cB c k = some g) (r : ∀ x, k x = some g → H (.bool x)) : H c := by
  cases c with
  | bool x => exact r _ h
  | _ => exact nn h
theorem gX.r {gs : List Comprehension} {k : Expr → Expr → List Expr → Option γ} {G : List Comprehension → Prop} (h : gX gs k = some g) (r : ∀ t it ifs, k t it ifs = some g → G [⟨t, it, ifs, 0⟩]) : G gs :=
  nC.r h fun g gs h => n0.r (G := fun gs => G (g :: gs)) h fun h => by
    obtain ⟨t, it, ifs, z⟩ := g
    cases z with
    | ofNat n => cases n with
      | zero => exact r _ _ _ h
      | succ => exact nn h
    | negSucc => exact nn h
end
section
variable {c : Cx} {p : Pl} {W : Wd} {sh : Shared} {s : S}
theorem hS.r {β : Type} {g : List Prop × Oc β} {k : Bool → Str → List Hint → Res β} {B : Prop} (h : hS s k = some g) (H : ∀ q j hs, k q j hs = some g → B) : B := by
  obtain ⟨σ, hs⟩ := s
  cases hs with
  | nil => exact nn h
  | cons x hs => cases x with
    | x d => cases d with
      | str q j => exact H q j hs h
      | _ => exact nn h
    | _ => exact nn h
theorem hE.r {β : Type} {g : List Prop × Oc β} {k : Bool → List Hint → Res β} {e : Res β} {B : Prop} (h : hE s k e = some g) (H : ∀ v hs, k v hs = some g → B) (H2 : e = some g → B) : B := by
  obtain ⟨σ, hs⟩ := s
  cases hs with
  | nil => exact H2 h
  | cons x hs => cases x with
    | eq v => exact H v hs h
    | _ => exact H2 h
theorem hC.r {β : Type} {g : List Prop × Oc β} {k : List Nat → Nat → CR → List Hint → Res β} {B : Prop} (h : hC s k = some g) (H : ∀ ix n r hs, k ix n r hs = some g → B) : B := by
  obtain ⟨σ, hs⟩ := s
  cases hs with
  | nil => exact nn h
  | cons x hs => cases x with
    | call ix n r => exact H ix n r hs h
    | _ => exact nn h
theorem hT.r {β : Type} {g : List Prop × Oc β} {k : Nat → SR → List Hint → Res β} {B : Prop} (h : hT s k = some g) (H : ∀ n r hs, k n r hs = some g → B) : B := by
  obtain ⟨σ, hs⟩ := s
  cases hs with
  | nil => exact nn h
  | cons x hs => cases x with
    | st n r => exact H n r hs h
    | _ => exact nn h
theorem hI.r {β : Type} {g : List Prop × Oc β} {k : Bool → Int → List Hint → Res β} {B : Prop} (h : hI s k = some g) (H : ∀ q j hs, k q j hs = some g → B) : B := by
  obtain ⟨σ, hs⟩ := s
  cases hs with
  | nil => exact nn h
  | cons x hs => cases x with
    | x d => cases d with
      | int q j => exact H q j hs h
      | _ => exact nn h
    | _ => exact nn h
theorem owe.r {β : Type} {O B : Prop} {k : Unit → S → Res β} {P : List Prop} {o : Oc β} (h : bnd (owe O s) k = some (P, o)) (hp : okL P) (H : ∀ P', k () s = some (P', o) → okL P' → O → B) : B := by
  rcases bnd_inv h hp with ⟨P1, x, h1, p1, rfl⟩ | ⟨P1, a, s1, P2, h1, p1, h2, p2⟩
  · cases h1
  · cases h1; exact H _ h2 p2 p1.1
theorem bret {α β : Type} {a : α} {k : α → S → Res β} {P : List Prop} {o : Oc β} (h : bnd (ret a s) k = some (P, o)) : k a s = some (P, o) := by
  unfold bnd ret at h
  dsimp only at h
  cases e : k a s with
  | none => rw [e] at h; exact nn h
  | some q => rw [e] at h; exact h
theorem owb.r {β : Type} {O B : Prop} {y b : Bool} {k : Unit → S → Res β} {P : List Prop} {o : Oc β} (h : bnd (owb y b O s) k = some (P, o)) (hp : okL P) (hb : b = true → O) (H : ∀ P', k () s = some (P', o) → okL P' → O → B) : B := by
  cases y with
  | true => exact owe.r h hp H
  | false => cases b with
    | true => exact H _ (bret h) hp (hb rfl)
    | false => exact nn h
theorem siz.r {β : Type} {B : Prop} {y : Bool} {t : Str} {k : Unit → S → Res β} {P : List Prop} {o : Oc β} (h : bnd (siz y t s) k = some (P, o)) (hp : okL P) (H : ∀ P', k () s = some (P', o) → okL P' → t.length ≤ 100000 → B) : B := by
  cases y with
  | true => exact owe.r h hp H
  | false =>
    unfold siz at h
    dsimp only at h
    cases e : Nat.ble t.cps.toList.length 100000 with
    | true => rw [e] at h; exact H _ (bret h) hp (by have := Nat.le_of_ble_eq_true e; simpa [Str.length] using this)
    | false => rw [e] at h; exact nn h
variable {rel : Wd → Bool → Value → Prop} {P : List Prop} {Q : Value → Shared → Prop} {E : Value → Shared → Prop} {v : Value}
theorem Post.dec {oc : Oc Bool} {n : Nat} {y b : Bool} (z : Post c p rel oc W sh Q E) (h : P465.dec y b s = some (P, oc)) (hp : okL P) (I : Inv c.h₀ p.fl s.σ W sh.heap) (r : rel W b v) : Q v { sh with toks := n } := by
  cases y with
  | false => exact z.tk h I r
  | true =>
    obtain ⟨σ, hs⟩ := s
    cases hs with
    | nil => exact nn h
    | cons x hs => cases x with
      | b v => cases h; obtain ⟨rfl, -⟩ := hp; exact z { sh with toks := n } W _ (.refl ..) I ⟨rfl, rfl⟩ r
      | _ => exact nn h
theorem Post.itm {oc : Oc SV} {y : Bool} {o : Option Dat} {B : Prop} (z : Post c p VR oc W sh Q E) (h : P465.itm y o s = some (P, oc)) (hp : okL P) (I : Inv c.h₀ p.fl s.σ W sh.heap) (H : ∀ d, o = some d → (∀ v n, VD W.Z d v → Q v { sh with toks := n }) → B) : B := by
  cases y with
  | false => cases o with
    | none => exact nn h
    | some d => exact H d rfl fun v n r => z.tk h I (.d r)
  | true =>
    obtain ⟨σ, hs⟩ := s
    cases hs with
    | nil => exact nn h
    | cons x hs => cases x with
      | x d => cases h; exact H d hp.1 fun v n r => z { sh with toks := n } W _ (.refl ..) I ⟨rfl, rfl⟩ (.d r)
      | _ => exact nn h
theorem Post.itmS {oc : Oc SV} {y : Bool} {o : Option Str} {B : Prop} (z : Post c p VR oc W sh Q E) (h : P465.itmS y o s = some (P, oc)) (hp : okL P) (I : Inv c.h₀ p.fl s.σ W sh.heap) (H : ∀ u, o = some u → (∀ t n, Q (.str u t) { sh with toks := n }) → B) : B := by
  cases y with
  | false => exact uO.r h fun u h e => H u e fun v n => z.tk h I (.d .str)
  | true => exact hS.r h fun w u hs h => by cases h; exact H u hp.1 fun t n => z { sh with toks := n } W _ (.refl ..) I ⟨rfl, rfl⟩ (.d .str)
theorem Post.str {oc : Oc SV} {y : Bool} {t : Str} {B : Prop} (z : Post c p VR oc W sh Q E) (h : P465.strR y t s = some (P, oc)) (hp : okL P) (I : Inv c.h₀ p.fl s.σ W sh.heap) (H : t.length ≤ 100000 → (∀ tk n, Q (.str t tk) { sh with toks := n }) → B) : B := by
  cases y with
  | false => exact siz.r h hp fun P' h _ hl => H hl fun v n => z.tk h I (.d .str)
  | true => exact hS.r h fun w u hs h => by cases h; obtain ⟨rfl, hl, -⟩ := hp; exact H hl fun tk n => z { sh with toks := n } W _ (.refl ..) I ⟨rfl, rfl⟩ (.d .str)
end
section
variable {c : Cx} {se : SE} {s : S} {T : Tb} {R : Rec}
theorem snd_ifexp {t a b : Expr} {pos : Pos} (S : Snd c R) : Rt c se (evG T R se (.IfExp t a b pos) s) s.σ (eval (.IfExp t a b pos)) VR := by
  intro P o h hp p env W sh A V I Q E z
  refine IfExp_ (bndR h hp (S.t se t s) A V I z fun P2 v s1 sh1 W1 va h p L I r z => ?_)
  subst r
  cases v with
  | true => exact S.e _ _ _ _ _ h p _ _ _ _ A (V.mono L) I _ _ z
  | false => exact S.e _ _ _ _ _ h p _ _ _ _ A (V.mono L) I _ _ z
theorem marks_none {op : CmpOp} {e : Expr} (h : noSet e = true) : behindInMarks op e = false := by
  cases e <;> first | rfl | cases h
noncomputable abbrev BR : Wd → Bool → Value → Prop := fun _ x v => v = .bool x
noncomputable def CmOk1 (c : Cx) (T : Tb) (d : Nat) : Prop := ∀ op a b s P o, cmp T op a b s = some (P, o) → okL P → ∀ p W sh va vb, AOk p.A p.fl p.envs d → Inv c.h₀ p.fl s.σ W sh.heap → VR W a va → VR W b vb → Run c p (compareOp op va vb) BR o W sh
section
variable {p : Pl} {env : Env} {W : Wd} {sh : Shared} {P : List Prop} {E : Value → Shared → Prop}
theorem cm1_in {l r : Expr} {op : CmpOp} (S : Snd c R) (hb : CmOk1 c T se.d) {o : Oc Bool} (h : (bnd (R.e se l s) fun a s => bnd (R.e se r s) fun b s => cmp T op a b s) = some (P, o)) (hp : okL P) (A : AOk p.A p.fl p.envs se.d) (V : EnvOk p se env W) (I : Inv c.h₀ p.fl s.σ W sh.heap)
    {Q : Value → Shared → Prop} (z : Post c p BR o W sh Q E) : wpAny c.M p.A (eval l env) (fun va s1 => wpAny c.M p.A (eval r env) (fun vb s2 => wpAny c.M p.A (compareOp op va vb) Q E s2) E s1) E sh :=
  bndR h hp (S.e se l s) A V I z fun _ a s1 sh1 W1 va h hp L1 I ra z => bndR h hp (S.e se r s1) A (V.mono L1) I z fun _ b s2 sh2 W2 vb h hp L2 I rb z => hb _ _ _ _ _ _ h hp _ _ _ _ _ A I (ra.mono L2) rb _ _ z
theorem cm1_g {l : Expr} {ops : List CmpOp} {rs : List Expr} {o : Oc Bool} {G : List CmpOp → List Expr → Prop} (h : evCm1 T R se l ops rs s = some (P, o))
    (H : ∀ op r, (bnd (R.e se l s) fun a s => bnd (R.e se r s) fun b s => cmp T op a b s) = some (P, o) → behindInMarks op r = false → G [op] [r]) : G ops rs :=
  nC.r (G := fun ops => G ops rs) h fun op ops h => n0.r (G := fun ops => G (op :: ops) rs) h fun h => nC.r (G := G _) h fun r rs h => n0.r (G := fun rs => G _ (r :: rs)) h fun h => uW.r h fun h hm => H op r h (marks_none hm)
theorem truth_ok {v : SV} {x : Value} {b : Bool} {M : Model} {A : Around} {Q : Bool → Shared → Prop} (h : truth v = some b) (r : VR W v x) (q : Q b sh) : wpAny M A (truthy x) Q E sh := by
  cases v with
  | d y => cases y with
    | bool => obtain ⟨_, rfl⟩ := r.i; cases h; exact fun _ _ _ => q
    | none => obtain ⟨_, rfl⟩ := r.i; cases h; exact fun _ _ _ => q
    | _ => cases h
  | _ => cases h
theorem Post.tru {o : Oc Bool} {Q : Bool → Shared → Prop} (z : Post c p EqR o W sh Q E) : Post c p BR o W sh (fun v s => wpAny c.M p.A (truthy v) Q E s) E := by
  cases o with
  | exc x => exact z
  | ok b s' => exact fun sh3 W3 v S3 I3 R3 r3 => by subst r3; exact wpAny_truthy_bool (z sh3 W3 _ S3 I3 R3 rfl)
end
theorem snd_cmp {l : Expr} {ops : List CmpOp} {rs : List Expr} {pos : Pos} (S : Snd c R) (hb : CmOk1 c T se.d) : Rt c se (evG T R se (.Compare l ops rs pos) s) s.σ (eval (.Compare l ops rs pos)) VR := by
  intro P o h hp p env W sh A V I Q E z
  refine runR h hp (t := eval (.Compare l ops rs pos) env) (rel := BR) (fun P o h hp Q E z => ?_) z fun P2 x s3 sh3 W3 v h hp L I r z => ?_
  · exact cm1_g (G := fun ops rs => wpAny _ _ (eval (.Compare l ops rs pos) env) Q E sh) h fun op r h hm => wpAny_Compare1 (cm1_in S hb h hp A V I z) hm
  · subst r
    exact z.ret h I (.d .bool)
theorem snd_cmpT {l : Expr} {ops : List CmpOp} {rs : List Expr} {pos : Pos} (S : Snd c R) (hb : CmOk1 c T se.d) :
    Rt c se (evT T R se (.Compare l ops rs pos) s) s.σ (fun env => isTrue (.Compare l ops rs pos) env (eval (.Compare l ops rs pos) env)) EqR := by
  intro P o h hp p env W sh A V I Q E z
  exact cm1_g (G := fun ops rs => wpAny _ _ (isTrue (.Compare l ops rs pos) env (eval (.Compare l ops rs pos) env)) Q E sh) h fun op r h hm => wpAny_isTrue_Compare1 (cm1_in S hb h hp A V I z.tru) hm
theorem snd_notT {e : Expr} {pos : Pos} (S : Snd c R) : Rt c se (evT T R se (.UnaryOp .Not e pos) s) s.σ (fun env => isTrue (.UnaryOp .Not e pos) env (eval (.UnaryOp .Not e pos) env)) EqR := by
  intro P o h hp p env W sh A V I Q E z
  exact isTrue_not (bndR h hp (S.t se e s) A V I z fun _ a s1 sh1 W1 va h p L I r z => z.ret h I (congrArg _ r))
theorem snd_ifT {t a b : Expr} {pos : Pos} (S : Snd c R) : Rt c se (evT T R se (.IfExp t a b pos) s) s.σ (fun env => isTrue (.IfExp t a b pos) env (eval (.IfExp t a b pos) env)) EqR := by
  intro P o h hp p env W sh A V I Q E z
  refine isTrue_IfExp (bndR h hp (S.t se t s) A V I z fun _ v s1 sh1 W1 va h p L I r z => ?_)
  subst r
  cases v with
  | true => exact S.t _ _ _ _ _ h p _ env _ _ A (V.mono L) I _ _ z
  | false => exact S.t _ _ _ _ _ h p _ env _ _ A (V.mono L) I _ _ z
theorem snd_valT {e : Expr} (S : Snd c R) (he : ∀ env, isTrue e env (eval e env) = (do let v ← eval e env; standAt e.pos; holding [v] (truthy v))) :
    Rt c se (evV R se e s) s.σ (fun env => isTrue e env (eval e env)) EqR := by
  intro P o h hp p env W sh A V I Q E z
  exact isTrue_plain (bndR h hp (S.e se e s) A V I z fun _ v s1 sh1 W1 va h p L I r z => uO.r h fun b h q => truth_ok q r (z.ret h I rfl)) (he env)
theorem snd_not {e : Expr} {pos : Pos} (S : Snd c R) : Rt c se (evG T R se (.UnaryOp .Not e pos) s) s.σ (eval (.UnaryOp .Not e pos)) VR := by
  intro P o h hp p env W sh A V I Q E z
  exact UnaryOp_ (bndR h hp (S.e se e s) A V I z fun _ v s1 sh1 W1 va h p L I r z => uO.r h fun b h q => not_of (truth_ok q r (z.ret h I (.d .bool))))
theorem snd_bo {op : BoolOp} {l : List Expr} {pos : Pos} (S : Snd c R) : Rt c se (evBo R se op l s) s.σ (eval (.BoolOp op l pos)) VR := by
  intro P o h hp p env W sh A V I Q E z
  refine nC.r (G := fun l => wpAny _ _ (eval (.BoolOp op l pos) env) Q E sh) h fun e r h => ?_
  cases r with
  | nil => exact BoolOp_one (S.e _ _ _ _ _ h hp p env W sh A V I _ _ z)
  | cons e2 r =>
    cases op with
    | And =>
      refine BoolOp_and (bndR h hp (S.e se e s) A V I z fun _ v s1 sh1 W1 va h p L I r z => uO.r h fun b h q => truth_ok q r ?_)
      cases b with
      | true => exact S.bo _ _ _ _ _ _ _ h p _ _ _ _ A (V.mono L) I _ _ z
      | false => exact z.ret h I r
    | Or =>
      refine BoolOp_or (bndR h hp (S.e se e s) A V I z fun _ v s1 sh1 W1 va h p L I r z => uO.r h fun b h q => truth_ok q r ?_)
      cases b with
      | true => exact z.ret h I r
      | false => exact S.bo _ _ _ _ _ _ _ h p _ _ _ _ A (V.mono L) I _ _ z
end
section
variable {α β τ υ : Type}
structure GOk (c : Cx) (T : Tb) (mg mb : Str → Option Value) : Prop where
  base : Base c.w c.h₀ mg mb
  G : ∀ x d, T.G x = some d → (∃ v, mg x = some v ∧ VD c.h₀.get? d v) ∨ (mg x = none ∧ ∃ v, bootBuiltins x = some v ∧ x ≠ "__name__" ∧ VD c.h₀.get? d v)
section
variable {c : Cx} {se : SE} {s : S} {T : Tb} {R : Rec} {p : Pl} {env : Env} {W : Wd} {sh : Shared} {mg mb : Str → Option Value}
theorem no_debug {x : Str} (h : nm x "__debug__" = false) : (x == ("__debug__" : Str)) = false := by
  cases q : x == ("__debug__" : Str) with
  | false => rfl
  | true => rw [show nm x "__debug__" = true from by unfold nm; rw [eq_of_beq q]; exact sq_refl _] at h; cases h
theorem ld_name {x : Str} {v : SV} {Q : Value → Shared → Prop} {E : Value → Shared → Prop} (G : GOk c T mg mb) (h : nameV T se x s = some v) (V : EnvOk p se env W) (I : Inv c.h₀ p.fl s.σ W sh.heap) (hd : nm x "__debug__" = false) {pos : Pos} (z : ∀ va, VR W v va → Q va sh) :
    wpAny c.M p.A (eval (.Name x pos) env) Q E sh := by
  have hd := no_debug hd
  refine uO.r h fun k h hl => ?_
  rw [← V.kindOf] at hl
  cases k with
  | «local» => exact uE.r h I V.loc (fun l m h _ n mm => by obtain ⟨v', e, r⟩ := mm _ _ h; exact wpAny_Name (wpAny_loadName_local V.kind hl n e (z _ r)) hd) fun _ _ h => nomatch h
  | cell =>
    refine uO.r h fun k h q => ?_
    obtain ⟨a, e1, e2⟩ := V.cells _ _ q
    refine uE.r h I e2 (fun _ _ h => nomatch h) fun v u h _ g r => ?_
    obtain ⟨w, rfl, r'⟩ := r _ h
    exact wpAny_Name (wpAny_loadName_cell V.kind hl e1 g (z _ r')) hd
  | globalImplicit =>
    refine uO.r h fun d h q => ?_
    cases h
    have le : ZLe c.h₀.get? W.Z := I.base
    rcases G.G _ _ q with ⟨v, hm, r⟩ | ⟨hm, v, hb, hn, r⟩
    · exact Calls.Name_function_global V.kind hl (Calls.loadGlobal_global (by rw [V.glob]; exact G.base.g.keeps I.h0) hm (z _ (.d (r.mono le)))) hd
    · exact Calls.Name_function_global V.kind hl (Calls.loadGlobal_builtin (by rw [V.glob]; exact G.base.g.keeps I.h0) hm (by rw [V.blt]; exact G.base.b.keeps I.h0) ((G.base.builtins x hn).trans hb) (z _ (.d (r.mono le)))) hd
  | _ => cases h
theorem snd_name {x : Str} {pos : Pos} (G : GOk c T mg mb) : Rt c se (evG T R se (.Name x pos) s) s.σ (eval (.Name x pos)) VR := by
  intro P o h hp p env W sh A V I Q E z
  exact uN.r h fun h hd => uO.r h fun v h hv => ld_name G hv V I hd fun va r => z.ret h I r
theorem set_loc {x : Str} {v : SV} {va : Value} {l : List (Str × SV)} {a : Addr} {m : Str → Option Value} {P : List Prop} {o : Oc Unit} {k : Nat} {Q : Unit → Shared → Prop} {E : Value → Shared → Prop} (h : ret () (put s k (.loc (pt l x v))) = some (P, o)) (I : Inv c.h₀ p.fl s.σ W sh.heap) (ha : W.ρ[k]? = some a) (zz : W.Z a = none)
    (mm : ∀ x s, lk l x = some s → ∃ v, m x = some v ∧ VR W s v) (r : VR W v va) (z : Post c p (fun _ _ (_ : Unit) => True) o W sh Q E) {h' : Heap} (hn : h'.Ns a fun y => if y = x then some va else m y) (hs : Heap.SameBut a sh.heap h') : Q () { sh with heap := h', toks := sh.toks + 1 } := by
  cases h
  have key : ∀ y t, lk (pt l x v) y = some t → ∃ w, (if y = x then some va else m y) = some w ∧ VR W t w := fun y t e => by
    rw [lk_pt] at e
    by_cases q : y = x
    · rw [if_pos q] at e ⊢; cases e; exact ⟨va, rfl, r⟩
    · rw [if_neg q] at e ⊢; exact mm _ _ e
  obtain ⟨J, S⟩ := I.put ha hs zz (fun _ => ⟨_, hn⟩) (e := .loc (pt l x v)) (.loc zz hn key)
  exact z { sh with heap := h', toks := sh.toks + 1 } W () S J ⟨rfl, rfl⟩ True.intro
theorem set_cell {v : SV} {va : Value} {a : Addr} {u : Option Value} {P : List Prop} {o : Oc Unit} {k : Nat} {Q : Unit → Shared → Prop} {E : Value → Shared → Prop} (h : ret () (put s k (.cell (some v))) = some (P, o)) (I : Inv c.h₀ p.fl s.σ W sh.heap) (ha : W.ρ[k]? = some a) (zz : W.Z a = none)
    (g : sh.heap.IsCell a u) (r : VR W v va) (z : Post c p (fun _ _ (_ : Unit) => True) o W sh Q E) {h' : Heap} (hc : h'.IsCell a (some va)) (hs : Heap.SameBut a sh.heap h') : Q () { sh with heap := h' } := by
  cases h
  obtain ⟨J, S⟩ := I.put ha hs zz (fun m => by
    obtain ⟨_, o, es, ep, g1, g2, _⟩ := I.stk a m
    obtain ⟨o', g3, g4⟩ := g
    exact nomatch (g2.symm.trans ((congrArg Obj.data (Option.some.inj (g1.symm.trans g3))).trans g4))) (e := .cell (some v)) (.cell zz hc r)
  exact z { sh with heap := h' } W () S J ⟨rfl, rfl⟩ True.intro
theorem snd_setN {x : Str} {v : SV} {va : Value} {P : List Prop} {o : Oc Unit} (h : setN se x v s = some (P, o)) (V : EnvOk p se env W) (I : Inv c.h₀ p.fl s.σ W sh.heap) (r : VR W v va) :
    Run c p (storeName env x va) (fun _ _ (_ : Unit) => True) o W sh := by
  intro Q E z
  refine uO.r h fun k h hl => ?_
  rw [← V.kindOf] at hl
  cases k with
  | «local» => exact uE.r h I V.loc (fun l m h zz n mm => wpAny_storeName_local hl n (fun h' hn hs => set_loc h I V.loc zz mm r z hn hs) (by rw [V.kind]; rfl)) fun _ _ h => nomatch h
  | cell =>
    refine uO.r h fun k h q => ?_
    obtain ⟨a, e1, e2⟩ := V.cells _ _ q
    exact uE.r h I e2 (fun _ _ h => nomatch h) fun w u h zz g _ => wpAny_storeName_cell V.kind hl e1 g fun h' hc hs => set_cell h I e2 zz g r z hc hs
  | _ => cases h
end
end
section
variable {α β τ υ : Type}
section
variable {c : Cx} {se : SE} {s : S} {T : Tb} {R : Rec} {p : Pl} {env : Env} {W : Wd} {sh : Shared} {mg mb : Str → Option Value}
theorem star_plain {e : Expr} {r : List Expr} {env : Env} (h : plainArg e = true) : starEach (e :: r) env = (false, eval e env) :: starEach r env := by
  cases e <;> first | rfl | cases h
theorem plain_cons {e : Expr} {r : List Expr} (h : plainArgs (e :: r) = true) : plainArg e = true ∧ plainArgs r = true := by
  unfold plainArgs at h
  cases q : plainArg e with
  | true => rw [q] at h; exact ⟨rfl, h⟩
  | false => rw [q] at h; cases h
theorem plain_any {pos : Pos} {env : Env} : ∀ {l : List Expr}, plainArgs l = true → (backTo pos (starEach l env)).any (·.1) = false
  | [], _ => rfl
  | e :: r, h => by
    obtain ⟨a, b⟩ := plain_cons h
    rw [star_plain a]
    show (false || (backTo pos (starEach r env)).any (·.1)) = false
    rw [plain_any b]; rfl
theorem plain_all {pos : Pos} {env : Env} : ∀ {l : List Expr}, plainArgs l = true → (backTo pos (starEach l env)).all (fun x => !x.1) = true
  | [], _ => rfl
  | e :: r, h => by
    obtain ⟨a, b⟩ := plain_cons h
    rw [star_plain a]
    show (true && (backTo pos (starEach r env)).all (fun x => !x.1)) = true
    rw [plain_all b]; rfl
theorem snd_es (S : Snd c R) {l : List Expr} (hl : plainArgs l = true) (pos : Pos) : Rt c se (evEs R se l s) s.σ (fun env => spliced (backTo pos (starEach l env))) VRs := by
  intro P o h hp p env W sh A V I Q E z
  cases l with
  | nil => exact Calls.spliced_nil (z.ret h I .nil)
  | cons e r =>
    obtain ⟨a, b⟩ := plain_cons hl
    show wpAny _ _ (spliced (backTo pos (starEach (e :: r) env))) Q E sh
    rw [star_plain a]
    exact Calls.spliced_cons (bndR h hp (S.e se e s) A V I z fun _ v s1 sh1 W1 va h p1 L1 I1 r1 z => bndR h p1 (S.es se r s1 b pos) A (V.mono L1) I1 z fun _ vs s2 sh2 W2 vas h p2 L2 I2 r2 z => z.ret h I2 (.cons (r1.mono L2) r2))
theorem snd_ta (S : Snd c R) {op : BoolOp} {l : List Expr} : Rt c se (evTa R se op l s) s.σ (allTrue op l) EqR := by
  intro P o h hp p env W sh A V I Q E z
  cases l with
  | nil =>
    show wpAny _ _ (pure (op == .And)) Q E sh
    exact wpAny_pure (z.ret h I (by cases op <;> rfl))
  | cons e r =>
    refine wpAny_bind (bndR h hp (S.t se e s) A V I z fun _ b s1 sh1 W1 v h p1 L1 I1 q z => ?_)
    subst q
    have V := V.mono L1
    cases op <;> cases b
    · exact wpAny_pure (z.ret h I1 rfl)
    · exact S.ta _ _ _ _ _ _ h p1 p env W1 sh1 A V I1 _ _ z
    · exact S.ta _ _ _ _ _ _ h p1 p env W1 sh1 A V I1 _ _ z
    · exact wpAny_pure (z.ret h I1 rfl)
theorem snd_boT (S : Snd c R) {op : BoolOp} {l : List Expr} {pos : Pos} : Rt c se (R.ta se op l s) s.σ (fun env => isTrue (.BoolOp op l pos) env (eval (.BoolOp op l pos) env)) EqR := S.ta se op l s
theorem snd_return (S : Snd c R) {e : Option Expr} {pos : Pos} : Rt c se (evSt T R se (.Return e pos) s) s.σ (exec (.Return e pos)) FwR := by
  intro P o h hp p env W sh A V I Q E z
  cases e with
  | none => exact wpAny_Return_none (z.ret h I ⟨_, rfl, .d .none⟩)
  | some e => exact wpAny_Return_some (bndR h hp (S.e se e s) A V I z fun _ v s1 sh1 W1 va h p1 L1 I1 r1 z => z.ret h I1 ⟨_, rfl, r1⟩)
theorem snd_if (S : Snd c R) {t : Expr} {a b : List Stmt} {pos : Pos} : Rt c se (evSt T R se (.If t a b pos) s) s.σ (exec (.If t a b pos)) FwR := by
  intro P o h hp p env W sh A V I Q E z
  refine wpAny_If (bndR h hp (S.t se t s) A V I z fun _ v s1 sh1 W1 va h p1 L1 I1 r1 z => ?_)
  subst r1
  cases v with
  | true => exact S.ss _ _ _ _ _ h p1 p env W1 sh1 A (V.mono L1) I1 _ _ z
  | false => exact S.ss _ _ _ _ _ h p1 p env W1 sh1 A (V.mono L1) I1 _ _ z
theorem swaps_none {e : Expr} {t : Option Expr} {n : Nat} {env : Env} (h : isComp e = false) : swapsWith e t n env = pure false := by
  cases e <;> first | rfl | cases h
theorem inter_fn {env : Env} (h : env.scope.kind = .function) : interactive env = false := by unfold interactive; rw [h]; rfl
theorem snd_expr (S : Snd c R) {e : Expr} {pos : Pos} : Rt c se (evSt T R se (.Expr e pos) s) s.σ (exec (.Expr e pos)) FwR := by
  intro P o h hp p env W sh A V I Q E z
  exact uN.r h fun h hc => wpAny_Expr_any (bndR h hp (S.e se e s) A V I z fun _ v s1 sh1 W1 va h p1 L1 I1 r1 z => z.ret h I1 rfl) (inter_fn V.kind) (swaps_none hc)
theorem snd_ss (S : Snd c R) (hst : ∀ st s, Rt c se (evSt T R se st s) s.σ (exec st) FwR) {l : List Stmt} : Rt c se (evSs T R se l s) s.σ (execs l) FwR := by
  intro P o h hp p env W sh A V I Q E z
  cases l with
  | nil => exact wpAny_execs_nil (z.ret h I rfl)
  | cons st r =>
    refine wpAny_execs_cons (bndR h hp (hst st s) A V I z fun _ v s1 sh1 W1 f h p1 L1 I1 r1 z => ?_)
    cases v with
    | next => subst r1; exact S.ss _ _ _ _ _ h p1 p env W1 sh1 A (V.mono L1) I1 _ _ z
    | ret v => obtain ⟨x, rfl, r1⟩ := r1; exact z.ret h I1 ⟨_, rfl, r1⟩
theorem setR {α υ : Type} {x : Str} {v : SV} {va : Value} {P : List Prop} {o : Oc α} {k : Unit → P465.S → Res α} {rel : Wd → α → υ → Prop} {Q' : Unit → Shared → Prop} {Q : υ → Shared → Prop} {E : Value → Shared → Prop}
    (h : bnd (setN se x v s) k = some (P, o)) (hp : okL P) (V : EnvOk p se env W) (I : Inv c.h₀ p.fl s.σ W sh.heap) (r : VR W v va) (z : Post c p rel o W sh Q E)
    (hk : ∀ P2 s1 sh1 W1, k () s1 = some (P2, o) → okL P2 → WLe W W1 → Inv c.h₀ p.fl s1.σ W1 sh1.heap → Post c p rel o W1 sh1 Q E → Q' () sh1) : wpAny c.M p.A (storeName env x va) Q' E sh :=
  runR h hp (fun _ _ h _ => snd_setN h V I r) z fun P2 _ s1 sh1 W1 _ h p1 L I _ z => hk P2 s1 sh1 W1 h p1 L I z
theorem snd_assignName (S : Snd c R) {e : Expr} {x : Str} {pos pos' : Pos} (hc : isComp e = false) : Rt c se (bnd (R.e se e s) fun v s => bnd (setN se x v s) fun _ s => ret .next s) s.σ (exec (.Assign [.Name x pos'] e pos)) FwR := by
  intro P o h hp p env W sh A V I Q E z
  exact wpAny_Assign_Name (bndR h hp (S.e se e s) A V I z fun _ v s1 sh1 W1 va h p1 L1 I1 r1 z => setR h p1 (V.mono L1) I1 r1 z fun _ s2 sh2 W2 h p2 L2 I2 z => z.ret h I2 rfl) (swaps_none hc)
end
end
section
variable {M : Model} {A : Around} {E : Value → Shared → Prop} {s : Shared}
theorem dict_mapFields (o : Obj) (f) : (o.mapFields f).dict = o.dict := by
  obtain ⟨c, d, dt, sl⟩ := o; cases dt <;> rfl
theorem noteFrame_eq {e : Value} {env env' : Env} (h : env.frame = env'.frame) : noteFrame e env = noteFrame e env' := by
  unfold noteFrame frameOf; rw [h]
theorem entry_rule {base : Heap} {env : Env} {outer : List Env} {L ea C dx : Addr} {oe : Obj} {vs : Array Value} {head : Value} {hadNext : Bool} {Q : Unit → Shared → Prop}
    (hfr : A.frames = some (env :: outer)) (hf : env.frame = some L) (hl : s.heap.FunFrames base (env :: outer)) (he : s.heap.get? ea = some oe) (hkb : base.StaysIn s.heap) (hen : base.get? ea = none)
    (hc : oe.cls = .ref C) (hdx : oe.dict = some dx) (hd : oe.data = .fields vs) (hsz : 1 < vs.size)
    (k : ∀ h', ExSt base (env :: outer) C dx ea h' → Noted (.ref ea) h' → s.heap.UpToSlots h' → s.heap.objs.size ≤ h'.objs.size → Q () { s with heap := h' }) :
    wpAny M A (do let a ← frameOf env; let pl ← entryPlaceOf L hadNext; let b ← EntryCells.newEntry head a .none (rawInt L) .none pl; setField (.ref ea) 1 b) Q E s := by
  have out : ea ∉ (env :: outer).filterMap (·.frame) := fun hm => by
    obtain ⟨_, o, ho, hnf⟩ := hl.mem hm
    rw [he] at ho; obtain rfl := Option.some.inj ho; exact hnf vs hd
  refine wpAny_bind (wpAny_frameOf_fun hfr hl hf fun h₁ hs => ?_)
  refine wpAny_bind (wpAny_entryPlaceOf fun pl hpl => ?_)
  unfold EntryCells.newEntry newFields
  refine wpAny_bind (wpAny_newObj_type ?_ (hpl.sizeOk5 _ _ _ _ _))
  generalize hob : ({ cls := .type "traceback", dict := none, data := .fields ([head, .ref L, .none, rawInt L, .none] ++ (if pl.isEmpty then List.replicate 6 Value.none else pl)).toArray } : Obj) = ob
  have hod : ∃ ts, ob.data = .fields ts ∧ ts[3]? = some (rawInt L) := by
    subst hob
    exact ⟨_, rfl, by first | (simp; done) | (rcases hpl with rfl | ⟨_, _, _, _, _, _, _, rfl⟩ <;> simp)⟩
  obtain ⟨ts, hts, h3⟩ := hod
  have he₁ : h₁.get? ea = some oe := (hs.2.1 ea out).trans he
  have kb₁ : base.StaysIn h₁ := fun b o hb => (hs.2.1 b fun hm => by rw [(hl.mem hm).1] at hb; cases hb).trans (hkb b o hb)
  have he₂ := Heap.get?_push_of_some (h := h₁) ob he₁
  have ne : h₁.objs.size ≠ ea := Nat.ne_of_gt (Heap.lt_size he₁)
  obtain ⟨f, hf'⟩ : ∃ f, (fun x : Array Value => x.setIfInBounds 1 (Value.ref h₁.objs.size)) = f := ⟨_, rfl⟩
  have hv : (f vs)[1]? = some (.ref h₁.objs.size) := by subst hf'; simp [hsz]
  have hd₃ := Obj.data_mapFields hd f
  have he₃ := Heap.get?_update_self (Obj.mapFields f) he₂ (Obj.isFreed_of_fields hd₃)
  have keep : ∀ b o, b ≠ ea → h₁.get? b = some o → ((h₁.push ob).update ea (Obj.mapFields f)).get? b = some o := fun b o hbe hb => by
    rw [Heap.get?_update_other _ _ (Ne.symm hbe)]
    exact Heap.get?_push_of_some _ hb
  have noRec : ∀ b o, s.heap.get? b = some o → (∀ vs, o.data ≠ .fields vs) → b ≠ ea := fun b o hb hnf q => by
    rw [q, he] at hb; obtain rfl := Option.some.inj hb; exact hnf vs hd
  refine wpAny_setField he₂ hd hsz ?_
  rw [hf']
  refine k _ ?_ ?_ ?_ ?_
  · refine ⟨fun b o hb => keep b o (fun q => by rw [q, hen] at hb; cases hb) (kb₁ b o hb), hen, hl.of_keeps fun b o hb hnf => ?_, _, _, he₃, (Obj.cls_mapFields _ _).trans hc, (dict_mapFields _ _).trans hdx, hd₃, .inr h₁.objs.size ob ts _ hv kb₁.fresh ne ?_ hts h3⟩
    · obtain ⟨sl, hs'⟩ := hs.2.2 b o hb
      exact ⟨_, keep b _ (noRec b o hb hnf) hs', rfl⟩
    · exact (Heap.get?_update_other _ _ (Ne.symm ne)).trans (Heap.get?_push_size h₁ (Obj.isFreed_of_fields hts))
  · exact ⟨ea, _, _, _, rfl, he₃, hd₃, hv⟩
  · intro b o hb hnf
    obtain ⟨sl, hs'⟩ := hs.2.2 b o hb
    exact ⟨sl, keep b _ (noRec b o hb hnf) hs'⟩
  · show s.heap.objs.size ≤ ((h₁.push ob).update ea (Obj.mapFields f)).objs.size
    rw [Heap.size_update, Heap.size_push, ← hs.1]; exact Nat.le_succ _
theorem flag_rule {base : Heap} {envs : List Env} {C dx ea T : Addr} {oe oT : Obj} {vs ts : Array Value} {x f3 : Value} {Q : Unit → Shared → Prop} (hl : s.heap.FunFrames base envs)
    (he : s.heap.get? ea = some oe) (hkb : base.StaysIn s.heap) (hen : base.get? ea = none) (hc : oe.cls = .ref C) (hdx : oe.dict = some dx) (hd : oe.data = .fields vs)
    (h1 : vs[1]? = some (.ref T)) (hnT : base.get? T = none) (ne : T ≠ ea) (hT : s.heap.get? T = some oT) (hdT : oT.data = .fields ts) (h3 : ts[3]? = some f3)
    (k : ∀ h', h'.get? ea = some oe → ExSt base envs C dx ea h' → Noted (.ref ea) h' → s.heap.UpToSlots h' → s.heap.objs.size ≤ h'.objs.size → Q () { s with heap := h' }) : wpAny M A (setField (.ref T) 3 x) Q E s := by
  refine wpAny_setField hT hdT (Array.getElem?_eq_some_iff.mp h3).1 ?_
  generalize hf' : (fun y : Array Value => y.setIfInBounds 3 x) = f
  have hz : 3 < ts.size := (Array.getElem?_eq_some_iff.mp h3).1
  have hv : (f ts)[3]? = some x := by subst hf'; simp [hz]
  have hd₃ := Obj.data_mapFields hdT f
  have other : ∀ b, b ≠ T → (s.heap.update T (Obj.mapFields f)).get? b = s.heap.get? b := fun b hb => Heap.get?_update_other _ _ (Ne.symm hb)
  have noRec : ∀ b o, s.heap.get? b = some o → (∀ vs, o.data ≠ .fields vs) → b ≠ T := fun b o hb hnf q => by
    rw [q, hT] at hb; obtain rfl := Option.some.inj hb; exact hnf ts hdT
  have he' := (other ea (Ne.symm ne)).trans he
  refine k _ he' ⟨fun b o hb => (other b fun q => by rw [q, hnT] at hb; cases hb).trans (hkb b o hb), hen, hl.of_keeps fun b o hb hnf => ⟨o, (other b (noRec b o hb hnf)).trans hb, rfl⟩, oe, vs, he', hc, hdx, hd,
    .inr T _ _ x h1 hnT ne (Heap.get?_update_self _ hT (Obj.isFreed_of_fields hd₃)) hd₃ hv⟩ ⟨ea, oe, vs, T, rfl, he', hd, h1⟩ (fun b o hb hnf => ⟨o.slots, (other b (noRec b o hb hnf)).trans hb⟩) ?_
  rw [Heap.size_update]; exact Nat.le_refl _
theorem note_rule {base : Heap} {env : Env} {outer : List Env} {L ea C dx : Addr} {Q : Unit → Shared → Prop} (hfr : A.frames = some (env :: outer)) (hf : env.frame = some L) (X : ExSt base (env :: outer) C dx ea s.heap)
    (k : ∀ h', ExSt base (env :: outer) C dx ea h' → Noted (.ref ea) h' → s.heap.UpToSlots h' → s.heap.objs.size ≤ h'.objs.size → Q () { s with heap := h' }) : wpAny M A (noteFrame (.ref ea) env) Q E s := by
  have X' := X
  obtain ⟨hkb, hen, hl, oe, vs, he, hc, hdx, hd, h1⟩ := X
  unfold noteFrame
  simp only [hf]
  rcases h1 with h1 | ⟨T, oT, ts, f3, h1, hnT, ne, hT, hdT, h3⟩
  · refine wpAny_bind (wpAny_field he hd h1 ?_)
    rw [if_neg (by decide)]
    exact entry_rule hfr hf hl he hkb hen hc hdx hd (Array.getElem?_eq_some_iff.mp h1).1 k
  · refine wpAny_bind (wpAny_field he hd h1 ?_)
    rw [if_pos (show (Value.ref T != Value.none) = true from by simp)]
    refine wpAny_bind (wpAny_field hT hdT h3 ?_)
    by_cases q : (f3 == rawInt L) = true
    · rw [if_pos q]
      exact wpAny_pure (k s.heap X' ⟨ea, oe, vs, T, rfl, he, hd, h1⟩ (.refl _) (Nat.le_refl _))
    · rw [if_neg q]
      refine wpAny_bind (flag_rule hl he hkb hen hc hdx hd h1 hnT ne hT hdT h3 fun h' he' X₁ _ U Z => ?_)
      obtain ⟨kb', _, hl', -⟩ := X₁
      exact entry_rule (s := { s with heap := h' }) hfr hf hl' he' kb' hen hc hdx hd (Array.getElem?_eq_some_iff.mp h1).1 fun h'' X₂ N U' Z' => k h'' X₂ N (U.trans U') (Nat.le_trans Z Z')
theorem flight_rule {base : Heap} {envs : List Env} {ea C dx : Addr} {fr : Option Addr} {Q : Unit → Shared → Prop} (X : ExSt base envs C dx ea s.heap) (N : Noted (.ref ea) s.heap)
    (k : ∀ h', ExSt base envs C dx ea h' → Noted (.ref ea) h' → s.heap.UpToSlots h' → s.heap.objs.size ≤ h'.objs.size → Q () { s with heap := h' }) : wpAny M A (setFlight (.ref ea) fr) Q E s := by
  obtain ⟨hkb, hen, hl, oe, vs, he, hc, hdx, hd, h1⟩ := X
  obtain ⟨a, o, vs', T', q1, q2, q3, q4⟩ := N
  cases q1
  rw [he] at q2; obtain rfl := Option.some.inj q2
  rw [hd] at q3; cases q3
  rcases h1 with h1 | ⟨T, oT, ts, f3, h1, hnT, ne, hT, hdT, h3⟩
  · rw [h1] at q4; cases q4
  unfold setFlight
  refine wpAny_bind (wpAny_field he hd h1 ?_)
  rw [if_pos (show (Value.ref T != Value.none) = true from by simp)]
  exact flag_rule hl he hkb hen hc hdx hd h1 hnT ne hT hdT h3 fun h' _ X₁ N₁ U Z => k h' X₁ N₁ U Z
theorem leave_rule {base : Heap} {env : Env} {outer : List Env} {L ea C dx : Addr} {Q : Unit → Shared → Prop} (hfr : A.frames = some (env :: outer)) (hf : env.frame = some L) (X : ExSt base (env :: outer) C dx ea s.heap)
    (k : ∀ h', ExSt base outer C dx ea h' → Noted (.ref ea) h' → s.heap.UpToSlots h' → s.heap.objs.size ≤ h'.objs.size → Q () { s with heap := h' }) : wpAny M A (leaving env (.ref ea)) Q E s := by
  unfold leaving
  refine wpAny_bind (note_rule hfr hf X fun h₁ X₁ N₁ U₁ Z₁ => ?_)
  refine flight_rule (s := { s with heap := h₁ }) X₁ N₁ fun h₂ X₂ N₂ U₂ Z₂ => ?_
  obtain ⟨a, b, c, oe, vs, d1, d2, d3, d4, d5⟩ := X₂
  exact k h₂ ⟨a, b, c.2.2, oe, vs, d1, d2, d3, d4, d5⟩ N₂ (U₁.trans U₂) (Nat.le_trans Z₁ Z₂)
end
noncomputable abbrev hsz (s : Shared) : Nat := s.heap.objs.size
theorem runs_size {M : Model} {Γ : Ctx} {p : Pos} {t : Sem Fin} {fs : List Frame} {s s' : Shared} {e : End} (h : Runs M Γ p t fs s e s') : hsz s ≤ hsz s' := by
  induction h <;> (try simp only [hsz, Shared.setGen, Heap.size_update, Heap.size_push] at *) <;> omega
theorem wakes_size {M : Model} {Γ : Ctx} {p : Pos} {g : Nat} {r : Resume} {s s' : Shared} {res : GenResult} (h : Wakes M Γ p g r s res s') : hsz s ≤ hsz s' := by
  unfold Wakes at h
  split at h
  · exact h.elim
  · split at h
    · obtain ⟨e₁, s₁, hr, _, _, rfl⟩ := h; exact (runs_size hr : hsz (s.setGen g .running) ≤ hsz s₁)
    · rw [h.2]; exact Nat.le_refl _
    · rw [h.2]; exact Nat.le_refl _
  · obtain ⟨e₁, s₁, hr, _, _, rfl⟩ := h; exact (runs_size hr : hsz (s.setGen g .running) ≤ hsz s₁)
  · rw [h.2]; exact Nat.le_refl _
  · rw [h.2]; exact Nat.le_refl _
theorem wp_size {α : Type} (M : Model) (Γ : Ctx) (n : Nat) (t : Sem α) : ∀ (Q : α → Pos → Shared → Prop) (E : Value → Pos → Shared → Prop) (p : Pos) (s : Shared), n ≤ hsz s → Sem.wp M Γ t Q E p s →
    Sem.wp M Γ t (fun a p' s' => n ≤ hsz s' ∧ Q a p' s') (fun e p' s' => n ≤ hsz s' ∧ E e p' s') p s := by
  induction t with
  | pure a => intro Q E p s hn h; exact ⟨hn, h⟩
  | raise e => intro Q E p s hn h; exact ⟨hn, h⟩
  | unsupported _ => intro Q E p s _ h; exact h
  | finish _ => intro Q E p s _ h; exact h
  | rule _ k ih => intro Q E p s hn h; exact ih () Q E p s hn h
  | «at» p' k ih => intro Q E p s hn h; exact ih () Q E p' s hn h
  | load a _ k ih => intro Q E p s hn h; obtain ⟨o, ho, h⟩ := h; exact ⟨o, ho, ih o Q E p s hn h⟩
  | update a _ f k ih => intro Q E p s hn h; exact ⟨h.1, ih () Q E p _ (by simpa [hsz, Heap.size_update] using hn) h.2⟩
  | loadIfAlive a k ih => intro Q E p s hn h; exact ih _ Q E p s hn h
  | point _ k ih => intro Q E p s hn h; exact ih () Q E p s hn h
  | register _ _ => intro Q E p s _ h; exact h
  | alloc o k ih => intro Q E p s hn h; exact ih _ Q E p _ (by simp only [hsz, Heap.size_push] at *; omega) h
  | fresh k ih => intro Q E p s hn h; exact ih _ Q E p _ hn h
  | ask k ih => intro Q E p s hn h; exact ih _ Q E p s hn h
  | choose src m k ih => intro Q E p s hn h; exact ⟨h.1, ih _ Q E p _ hn h.2⟩
  | os q _ k ih => intro Q E p s hn h; exact ih _ Q E p _ hn h
  | call c hd _ _ k ih => intro Q E p s hn h; obtain ⟨r, s', hr, h⟩ := h; exact ⟨r, s', hr, ih r Q E p s' (Nat.le_trans hn (runs_size hr)) h⟩
  | handled own k ih => intro Q E p s hn h; exact ih _ Q E p s hn h
  | genState g k ih => intro Q E p s hn h; obtain ⟨st, hs, h⟩ := h; exact ⟨st, hs, ih _ Q E p s hn h⟩
  | newGen c k ih => intro Q E p s hn h; exact ih _ Q E p _ hn h
  | resume g r _ k ih => intro Q E p s hn h; obtain ⟨res, s', hw, h⟩ := h; exact ⟨res, s', hw, ih res Q E p s' (Nat.le_trans hn (wakes_size hw)) h⟩
  | yield _ _ _ _ => intro Q E p s _ h; exact h
  | stack k ih => intro Q E p s hn h; exact ih _ Q E p s hn h
  | fork _ _ => intro Q E p s _ h; exact h
  | thread k ih => intro Q E p s hn h; exact ih _ Q E p s hn h
  | await _ _ _ _ _ => intro Q E p s _ h; exact h
theorem with_size {α : Type} {M : Model} {A : Around} {s : Shared} {t : Sem α} {Q : α → Shared → Prop} {E : Value → Shared → Prop} (h : wpAny M A t (fun a s' => hsz s ≤ hsz s' → Q a s') (fun e s' => hsz s ≤ hsz s' → E e s') s) : wpAny M A t Q E s :=
  fun Γ p hΓ => Sem.wp_mono M Γ _ (fun _ _ _ z => z.2 z.1) (fun _ _ _ z => z.2 z.1) p s (wp_size M Γ (hsz s) t _ _ p s (Nat.le_refl _) (h Γ p hΓ))
theorem Exd.upd {envs : List Env} {fl : List Addr} {W : Wd} {h h' h'' : Heap} {x : Exn} {e : Value} {ea : Addr} {base : Heap} {dx : Addr} {es n} (X : Exd envs fl W h x e h') (he : e = .ref ea)
    (E : ExSt base envs x.cls dx ea h'') (q1 : base.get? dx = some (dictOf es n)) (q2 : VDf base.get? x.fs es)
    (q3 : ∀ b o, W.Z b = some o → base.get? b = some o) (q4 : ∀ b o, h.get? b = some o → b ∉ W.ρ → b ∉ fl → base.get? b = some o) (U : h'.UpToSlots h'') (Z : h'.objs.size ≤ h''.objs.size) : Exd envs fl W h x e h'' :=
  ⟨⟨ea, base, dx, es, n, he, E, q1, q2, q3, q4⟩, fun b o g r f => by
    obtain ⟨sl, hs⟩ := X.slots b o g r f
    obtain ⟨m, o', es', ep, g', hd, _⟩ := X.ns b f
    rw [hs] at g'
    obtain ⟨sl', hs'⟩ := U b _ hs fun vs q => by
      obtain rfl := Option.some.inj g'
      exact absurd (q.symm.trans hd) (by simp)
    exact ⟨sl', hs'⟩, fun a f => let ⟨m, g⟩ := X.ns a f; ⟨m, U.ns g⟩, Nat.le_trans X.size Z⟩
theorem AOk.top {A : Around} {fl : List Addr} {envs : List Env} {d : Nat} (K : AOk A fl envs d) {L : Addr} (h : fl.head? = some L) : ∃ e0 outer, envs = e0 :: outer ∧ e0.frame = some L := by
  have q := K.fl
  cases fl with
  | nil => cases h
  | cons a r =>
    cases h
    cases envs with
    | nil => cases q
    | cons e0 o => exact ⟨e0, o, rfl, (List.cons.inj q).1⟩
section
variable {c : Cx} {p : Pl} {se : SE} {env : Env} {W : Wd} {sh : Shared} {d : Nat} {x : Exn} {e : Value} {h : Heap} {E : Value → Shared → Prop}
theorem Exd.note {M : Model} {L : Addr} {Q : Unit → Shared → Prop} (A : AOk p.A p.fl p.envs d) (hf : env.frame = some L) (hL : p.fl.head? = some L) (X : Exd p.envs p.fl W h x e sh.heap)
    (k : ∀ h'', Exd p.envs p.fl W h x e h'' → Noted e h'' → Q () { sh with heap := h'' }) : wpAny M p.A (noteFrame e env) Q E sh := by
  obtain ⟨e0, outer, he, hfr⟩ := A.top hL
  have X' := X
  obtain ⟨ea, base, dx, es, n, rfl, X1, q1, q2, q3, q4⟩ := X.up
  rw [noteFrame_eq (hf.trans hfr.symm)]
  rw [he] at X1
  refine note_rule (by rw [A.frames, he]) hfr X1 fun h' X2 N U Z => k h' (X'.upd rfl (by rw [he]; exact X2) q1 q2 q3 q4 U Z) N
theorem Exd.flight {M : Model} {fr : Option Addr} {Q : Unit → Shared → Prop} (X : Exd p.envs p.fl W h x e sh.heap) (N : Noted e sh.heap)
    (k : ∀ h'', Exd p.envs p.fl W h x e h'' → Noted e h'' → Q () { sh with heap := h'' }) : wpAny M p.A (setFlight e fr) Q E sh := by
  have X' := X
  obtain ⟨ea, base, dx, es, n, rfl, X1, q1, q2, q3, q4⟩ := X.up
  exact flight_rule X1 N fun h' X2 N U Z => k h' (X'.upd rfl X2 q1 q2 q3 q4 U Z) N
theorem Exd.noted {M : Model} {L : Addr} {Q : Value → Shared → Prop} (A : AOk p.A p.fl p.envs d) (hf : env.frame = some L) (hL : p.fl.head? = some L) (X : Exd p.envs p.fl W h x e sh.heap)
    (k : ∀ h'', Exd p.envs p.fl W h x e h'' → Noted e h'' → Q e { sh with heap := h'' }) : notedBy M p.A env Q e sh := X.note A hf hL k
theorem Exd.came {M : Model} {L : Addr} {Q : Value → Shared → Prop} (X : Exd p.envs p.fl W h x e sh.heap) (N : Noted e sh.heap) 
    (k : ∀ h'', Exd p.envs p.fl W h x e h'' → Q e { sh with heap := h'' }) : cameBackBy M p.A env Q e sh := by
  have N' := N
  obtain ⟨a, o, vs, T, rfl, g, hd, h1⟩ := N
  refine wpAny_bind (wpAny_field g hd h1 ?_)
  rw [if_neg (by simp)]
  exact X.flight N' fun h'' X2 N2 => k h'' X2
end
section
variable {prog : Program} {w : World} {A : Around} {R : Result → Shared → Prop} {s : Shared} {env : Env}
theorem while_step {test : Expr} {body : List Stmt}
    (h : wpAny (model prog w) A (isTrue test env (eval test env)) (fun b s₂ =>
        if b then wpAny (model prog w) A (execs body env) (fun f s₃ => match f with
            | .next => codeAny (model prog w) A (.whileLoop test body [] env) R s₃
            | .ret v => R (.ok (.ret v)) s₃
            | _ => False) (notedBy (model prog w) A env fun e s' => R (.error e) s') s₂
        else R (.ok .next) s₂) (notedBy (model prog w) A env fun e s' => R (.error e) s') s) : codeAny (model prog w) A (.whileLoop test body [] env) R s := by
  refine codeAny_of_tree ?_
  show wpAny _ A ((whileTurn test body [] env).onRaise (fun x => do noteFrame x env; theTreesLotGoes x)) _ _ s
  refine wpAny_noted ?_
  simp only [whileTurn]
  refine wpAny_bind (wpAny_mono h (fun b s₂ h₂ => ?_) fun _ _ h' => h')
  cases b with
  | false =>
    simp only [Bool.false_eq_true, if_false] at h₂ ⊢
    exact wpAny_bind (wpAny_execs_nil (wpAny_pure h₂))
  | true =>
    simp only [if_true] at h₂ ⊢
    refine wpAny_bind (wpAny_mono h₂ (fun f s₃ h₃ => ?_) fun _ _ h' => h')
    cases f with
    | next => exact wpAny_pure ⟨rfl, h₃⟩
    | cont => exact h₃.elim
    | brk => exact h₃.elim
    | ret v => exact wpAny_pure h₃
theorem for_step {target : Expr} {it : Value} {body : List Stmt}
    (h : wpAny (model prog w) A (pyNext it) (fun r s₁ => match r with
      | none => R (.ok .next) s₁
      | some v => wpAny (model prog w) A (letOwnedTupleGo target it v) (fun _ s₁ => wpAny (model prog w) A (assign target env v) (fun _ s₂ => wpAny (model prog w) A (execs body env) (fun f s₃ => match f with
          | .next => codeAny (model prog w) A (.forLoop target it body [] env) R s₃
          | .ret v => R (.ok (.ret v)) s₃
          | _ => False) (notedBy (model prog w) A env fun e s' => R (.error e) s') s₂) (notedBy (model prog w) A env fun e s' => R (.error e) s') s₁) (notedBy (model prog w) A env fun e s' => R (.error e) s') s₁) (notedBy (model prog w) A env fun e s' => R (.error e) s') s) :
    codeAny (model prog w) A (.forLoop target it body [] env) R s := by
  refine codeAny_of_tree ?_
  show wpAny _ A ((forTurn target it body [] env).onRaise (fun x => do noteFrame x env; theTreesLotGoes x)) _ _ s
  refine wpAny_noted ?_
  simp only [forTurn]
  refine wpAny_bind (wpAny_standAt (wpAny_bind (wpAny_onRaise (wpAny_mono h (fun r s₁ h₁ => ?_) fun _ _ h' => wpAny_standAt h'))))
  cases r with
  | none => exact wpAny_pure ⟨rfl, codeAny_block (wpAny_execs_nil h₁)⟩
  | some v =>
    refine wpAny_bind (wpAny_mono h₁ (fun _ s₂ h₂ => wpAny_bind (wpAny_mono h₂ (fun _ s₃ h₃ => wpAny_bind (wpAny_mono h₃ (fun f s₄ h₄ => ?_) fun _ _ h' => h')) fun _ _ h' => h')) fun _ _ h' => h')
    cases f with
    | next => exact wpAny_pure ⟨rfl, h₄⟩
    | cont => exact h₄.elim
    | brk => exact h₄.elim
    | ret v => exact wpAny_pure h₄
theorem comp_step {elt target iter : Expr} {ifs : List Expr} {scope : Scope} {pos : Pos} {it acc : Value}
    (h : wpAny (model prog w) A (pyNext it) (fun r s₁ => match r with
      | none => R (.ok .next) s₁
      | some v => wpAny (model prog w) A (letOwnedTupleGo target it v) (fun _ s₁ => wpAny (model prog w) A (assign target env v) (fun _ s₂ =>
          wpAny (model prog w) A (forIn ifs true fun c r => if r = true then do let ok ← isTrue c env (eval c env); pure (ForInStep.yield ok) else pure (ForInStep.yield r)) (fun ok s₃ =>
            if ok = true then wpAny (model prog w) A (eval elt env) (fun x s₄ =>
              wpAny (model prog w) A (call (.builtin "list.append") [acc, x]) (fun _ s₅ => codeAny (model prog w) A (.compLoop (.ListComp elt [⟨target, iter, ifs, 0⟩] scope pos) 0 it acc env) R s₅) (fun _ _ => False) s₄) (fun _ _ => False) s₃
            else codeAny (model prog w) A (.compLoop (.ListComp elt [⟨target, iter, ifs, 0⟩] scope pos) 0 it acc env) R s₃) (fun _ _ => False) s₂) (fun _ _ => False) s₁) (fun _ _ => False) s₁) (fun _ _ => False) s) :
    codeAny (model prog w) A (.compLoop (.ListComp elt [⟨target, iter, ifs, 0⟩] scope pos) 0 it acc env) R s := by
  refine codeAny_of_tree ?_
  show wpAny _ A ((compTurn (.ListComp elt [⟨target, iter, ifs, 0⟩] scope pos) 0 it acc env).onRaise (fun x => do noteFrame x env; theTreesLotGoes x)) _ _ s
  refine wpAny_noted ?_
  rw [compTurn_list]
  refine wpAny_bind (wpAny_standAt (wpAny_bind (wpAny_mono h (fun r s₁ h₁ => ?_) fun _ _ h' => h'.elim)))
  cases r with
  | none => exact wpAny_pure h₁
  | some v =>
    refine wpAny_bind (wpAny_mono h₁ (fun _ s₂ h₂ => wpAny_bind (wpAny_mono h₂ (fun _ s₃ h₃ => wpAny_bind (wpAny_mono h₃ (fun ok s₄ h₄ => ?_) fun _ _ h' => h'.elim)) fun _ _ h' => h'.elim)) fun _ _ h' => h'.elim)
    cases ok with
    | false => exact wpAny_pure ⟨rfl, h₄⟩
    | true =>
      exact wpAny_bind (wpAny_bind (wpAny_mono h₄ (fun x s₄ h₄ => wpAny_bind (wpAny_mono h₄ (fun _ s₅ h₅ => wpAny_pure (wpAny_pure ⟨rfl, h₅⟩)) fun _ _ h' => h'.elim)) fun _ _ h' => h'.elim))
end
section
variable {c : Cx} {se : SE} {s : S} {T : Tb} {R : Rec} {p : Pl} {env : Env} {W : Wd} {sh : Shared}
theorem LpPost.after {α τ : Type} {rel : Wd → α → τ → Prop} {o : Oc α} {W W' : Wd} {s s' : Shared} {Q : τ → Shared → Prop} {E : Value → Shared → Prop} (z : LpPost c p rel o W s Q E)
    (S : Step p.fl W s.heap W' s'.heap) (R : Rest s s') : LpPost c p rel o W' s' Q E := by
  cases o with
  | ok a q => exact fun sh' W'' v S' I' R' r' => z sh' W'' v (S.trans S') I' (R.trans R') r'
  | exc x => exact fun sh' e X N R' => z sh' e (X.back S) N (R.trans R')
theorem LpPost.out {α τ : Type} {rel : Wd → α → τ → Prop} {o : Oc α} {x : Exn} {W W1 : Wd} {s sh : Shared} {Q : τ → Shared → Prop} {E : Value → Shared → Prop} {e : Value} {d : Nat} (z : LpPost c p rel o W s Q E) (q : o = .exc x)
    (A : AOk p.A p.fl p.envs d) (V : EnvOk p se env W1) (X : Exd p.envs p.fl W s.heap x e sh.heap) (R : Rest s sh) : notedBy c.M p.A env E e sh := by
  subst q
  obtain ⟨L, hf, hL⟩ := V.frame
  exact X.noted A hf hL fun h'' X2 N2 => z _ _ X2 N2 R
theorem LpPost.ret {α τ : Type} {rel : Wd → α → τ → Prop} {a : α} {P : List Prop} {o : Oc α} {W W1 : Wd} {s0 sh : Shared} {Q : τ → Shared → Prop} {E : Value → Shared → Prop} {v : τ} (h : P465.ret a s = some (P, o)) (z : LpPost c p rel o W s0 Q E)
    (S : Step p.fl W s0.heap W1 sh.heap) (I : Inv c.h₀ p.fl s.σ W1 sh.heap) (R : Rest s0 sh) (r : rel W1 a v) : Q v sh := by
  cases h; exact z sh W1 v S I R r
theorem LpPost.post {o : Oc Fw} {W : Wd} {s : Shared} {Q : Flow → Shared → Prop} {E : Value → Shared → Prop} (z : Post c p FwR o W s Q E) : LpPost c p FwR o W s Q (cameBackBy c.M p.A env E) := by
  cases o with
  | ok a q => exact z
  | exc x => exact fun sh' e X N R' => X.came (L := 0) N fun h'' X2 => z _ _ X2 R'
theorem snd_wh (S : Snd c R) {t : Expr} {body : List Stmt} : WhOk c se (evWh R se t body s) s.σ (.whileLoop t body []) := by
  intro P o h hp p env W sh A V I Rr z
  refine while_step (bndS h hp (fun P o h hp => S.t _ _ _ _ _ h hp p env W sh A V I) (fun x q sh' e X R' => z.out q A V X R') fun _ b s1 sh1 W1 v h p1 S1 I1 R1 r1 => ?_)
  subst r1
  have V := V.mono S1.le
  cases b with
  | false => exact z.ret (Q := fun f s => Rr (.ok f) s) h S1 I1 R1 rfl
  | true =>
    refine bndS h p1 (fun P o h hp => S.ss _ _ _ _ _ h hp p env W1 sh1 A V I1) (fun x q sh' e X R' => z.out q A V (X.back S1) (R1.trans R')) fun _ f s2 sh2 W2 fv h p2 S2 I2 R2 r2 => ?_
    cases f with
    | next => subst r2; exact S.wh _ _ _ _ _ _ h p2 p env W2 sh2 A (V.mono S2.le) I2 _ ((z.after S1 R1).after S2 R2)
    | ret v => obtain ⟨x, rfl, r2⟩ := r2; exact z.ret (Q := fun f s => Rr (.ok f) s) h (S1.trans S2) I2 (R1.trans R2) ⟨_, rfl, r2⟩
theorem snd_while (S : Snd c R) {t : Expr} {body : List Stmt} {pos : Pos} : Rt c se (R.wh se t body s) s.σ (exec (.While t body [] pos)) FwR := by
  intro P o h hp p env W sh A V I Q E z
  exact wpAny_While (S.wh _ _ _ _ _ _ h hp p env W sh A V I _ (LpPost.post z))
end
section
variable {h₀ h h' h0 : Heap} {fl : List Addr} {σ : St} {W W0 : Wd}
theorem Inv.outside (I : Inv h₀ fl σ W h) {b : Addr} (k : ∀ a o, a ≠ b → h.get? a = some o → h'.get? a = some o) (sz : h.objs.size ≤ h'.objs.size) (hz : W.Z b = none) (hr : b ∉ W.ρ) (hf : b ∉ fl) : Inv h₀ fl σ W h' :=
  ⟨I.base, fun a o e => k a o (fun q => by rw [q, hz] at e; cases e) (I.zk a o e), I.len, I.nodup, fun a m => ⟨(I.low a m).1, Nat.lt_of_lt_of_le (I.low a m).2 sz⟩,
    fun i e q => let ⟨a, x, r⟩ := I.ent i e q; ⟨a, x, r.move (.refl W) id id fun _ o g => k a o (fun q => hr (q ▸ List.mem_of_getElem? x)) g⟩, I.frz,
    fun a m => let ⟨n, g⟩ := I.stk a m; ⟨n, g.at' fun o e => k a o (fun q => hf (q ▸ m)) e⟩, Nat.le_trans I.gr sz⟩
theorem Step.outside (S : Step fl W0 h0 W h) {b : Addr} (k : ∀ a o, a ≠ b → h.get? a = some o → h'.get? a = some o) (sz : h.objs.size ≤ h'.objs.size) (hb : h0.objs.size ≤ b) : Step fl W0 h0 W h' :=
  ⟨S.ρ, S.Z, S.new, fun a o e r f => k a o (fun q => absurd (Heap.lt_size e) (Nat.not_lt.mpr (q ▸ hb))) (S.keep a o e r f),
    fun a o e r f => let ⟨sl, g⟩ := S.slots a o e r f; ⟨sl, k a _ (fun q => absurd (Heap.lt_size e) (Nat.not_lt.mpr (q ▸ hb))) g⟩, Nat.le_trans S.size sz⟩
end
theorem Step.icy {h h0 : Heap} {fl : List Addr} {W W0 : Wd} (S : Step fl W0 h0 W h) {a : Addr} {o : Obj} (z : W.Z a = none) (ha : h0.objs.size ≤ a) : Step fl W0 h0 ⟨W.ρ, zput W.Z a o⟩ h :=
  ⟨S.ρ, fun b o' e => zput_le z b o' (S.Z b o' e), fun b o' e => by
    by_cases q : b = a
    · exact .inr (.inr (q ▸ ha))
    · rw [show (⟨W.ρ, zput W.Z a o⟩ : Wd).Z b = W.Z b from zput_ne q] at e; exact S.new b o' e, S.keep, S.slots, S.size⟩
section
variable {c : Cx} {p : Pl} {se : SE} {env : Env} {W W' W0 : Wd} {sh sh0 : Shared} {σ σ' : St} {it : Value} {l r : List Dat} {h0 h' : Heap} {E : Value → Shared → Prop}
theorem ItOk.mono (K : ItOk c p W h0 it l sh.heap) (I : Inv c.h₀ p.fl σ W sh.heap) (S : Step p.fl W sh.heap W' h') (I' : Inv c.h₀ p.fl σ' W' h') : ItOk c p W' h0 it l h' := by
  obtain ⟨a, fp, n, P, St, i, rfl, Wk, st, hn, hP, h1, h2, h3, h4, h5, h6, go⟩ := K
  obtain ⟨t, et, lt⟩ := S.ρ
  refine ⟨a, fp, n, P, St, i, rfl, Wk, Wk.frame _ _ _ st fun b hb o e => ?_, hn, fun j v x y => let ⟨d, q, r⟩ := hP j v x y; ⟨d, q, r.mono S.Z⟩, h1, ?_, ?_, h4, Nat.lt_of_lt_of_le h5 S.size, fun b hb => (h6 b hb).imp id fun ⟨o, e⟩ => ⟨o, S.Z b o e⟩, go⟩
  · rcases h6 b hb with rfl | ⟨o', e'⟩
    · exact S.keep _ _ e h3 h4
    · have := I.zk b o' e'
      rw [e] at this; obtain rfl := Option.some.inj this
      exact I'.zk b o (S.Z b o e')
  · cases q : W'.Z a with
    | none => rfl
    | some o =>
      rcases S.new a o q with q | q | q
      · rw [h2] at q; cases q
      · exact absurd q h3
      · exact absurd h5 (Nat.not_lt.mpr q)
  · rw [et]; intro m
    rcases List.mem_append.mp m with m | m
    · exact h3 m
    · exact absurd h5 (Nat.not_lt.mpr (lt a m))
theorem ItOk.next {Q : Option Value → Shared → Prop} (K : ItOk c p W sh0.heap it l sh.heap) (I : Inv c.h₀ p.fl σ W sh.heap) (S : Step p.fl W0 sh0.heap W sh.heap) (R : Rest sh0 sh)
    (k0 : l = [] → ∀ sh', Step p.fl W0 sh0.heap W sh'.heap → Inv c.h₀ p.fl σ W sh'.heap → Rest sh0 sh' → (∀ D xs, it ≠ .ref D → sh.heap.PlainList D xs → sh'.heap.PlainList D xs) → Q none sh')
    (k1 : ∀ x r, l = x :: r → ∀ sh' v, VD W.Z x v → Step p.fl W0 sh0.heap W sh'.heap → Inv c.h₀ p.fl σ W sh'.heap → Rest sh0 sh' → ItOk c p W sh0.heap it r sh'.heap → (∀ D xs, it ≠ .ref D → sh.heap.PlainList D xs → sh'.heap.PlainList D xs) → Q (some v) sh') :
    wpAny c.M p.A (pyNext it) Q E sh := by
  obtain ⟨a, fp, n, P, St, i, rfl, Wk, st, hn, hP, h1, h2, h3, h4, h5, h6, go⟩ := K
  refine with_size ?_
  have pl : ∀ {h' : Heap}, (∀ b o, b ∉ [a] → sh.heap.get? b = some o → h'.get? b = some o) → ∀ D xs, Value.ref a ≠ .ref D → sh.heap.PlainList D xs → h'.PlainList D xs := fun k D xs ne z => z.at fun o e => k D o (fun m => ne (by rw [List.mem_singleton.mp m])) e
  cases l with
  | nil =>
    obtain rfl : i = n := hn
    refine Wk.done _ _ _ st fun h' tk k sz => ?_
    have k' : ∀ b o, b ≠ a → sh.heap.get? b = some o → h'.get? b = some o := fun b o ne => k b o fun m => ne (List.mem_singleton.mp m)
    exact k0 rfl { sh with heap := h', toks := tk } (S.outside k' sz h1) (I.outside k' sz h2 h3 h4) (R.trans ⟨rfl, rfl⟩) (pl k)
  | cons x r =>
    have hn : i + (r.length + 1) = n := hn
    have hi : i < n := hn ▸ Nat.lt_add_of_pos_right (Nat.succ_pos _)
    refine Wk.item i _ _ _ hi st fun v h' tk hv st' k sz => ?_
    have k' : ∀ b o, b ≠ a → sh.heap.get? b = some o → h'.get? b = some o := fun b o ne => k b o fun m => ne (List.mem_singleton.mp m)
    obtain ⟨d, e, rr⟩ := hP 0 v hv (Nat.succ_pos _)
    refine k1 x r rfl { sh with heap := h', toks := tk } v (Option.some.inj e ▸ rr) (S.outside k' sz h1) (I.outside k' sz h2 h3 h4) (R.trans ⟨rfl, rfl⟩) ?_ (pl k)
    exact ⟨a, fp, n, P, St, i + 1, rfl, Wk, st', (Nat.succ_add_eq_add_succ ..).trans hn, fun j v x y => hP (j + 1) v ((Nat.succ_add_eq_add_succ i j) ▸ x) (Nat.succ_lt_succ y), h1, h2, h3, h4, Nat.lt_of_lt_of_le h5 sz, h6, go⟩
theorem ItOk.go {Q : Unit → Shared → Prop} {tg : Expr} {v : Value} (K : ItOk c p W h0 it l sh.heap) (q : Q () sh) : wpAny c.M p.A (letOwnedTupleGo tg it v) Q E sh := by
  obtain ⟨a, fp, n, P, St, i, rfl, Wk, st, hn, hP, h1, h2, h3, h4, h5, h6, go⟩ := K
  exact go i sh v tg Q E st q
end
section
variable {c : Cx} {se : SE} {s : S} {T : Tb} {R : Rec} {p : Pl} {env : Env} {W : Wd} {sh : Shared}
theorem snd_fo (S : Snd c R) {x : Str} {l : List Dat} {body : List Stmt} {pos : Pos} : FoOk c se (evFo R se x l body s) s.σ l (fun it => .forLoop (.Name x pos) it body []) := by
  intro P o h hp p env W sh W0 sh0 it A V I S0 R0 K Rr z
  refine for_step (K.next I S0 R0 (fun e sh' S1 I1 R1 _ => ?_) (fun y r e sh' v rv S1 I1 R1 K1 _ => ?_))
  · subst e
    exact z.ret (Q := fun f s => Rr (.ok f) s) h S1 I1 R1 rfl
  · subst e
    refine K1.go (wpAny_assign_Name (bndS h hp (fun P o h hp => snd_setN h V I1 (.d rv)) (fun x q sh2 e X R2 => z.out q A V (X.back S1) (R1.trans R2)) fun _ _ s1 sh2 W2 _ h p2 S2 I2 R2 _ => ?_))
    have V := V.mono S2.le
    have S12 := S1.trans S2
    have R12 := R1.trans R2
    refine bndS h p2 (fun P o h hp => S.ss _ _ _ _ _ h hp p env W2 sh2 A V I2) (fun x q sh3 e X R3 => z.out q A V (X.back S12) (R12.trans R3)) fun _ f s2 sh3 W3 fv h p3 S3 I3 R3 r3 => ?_
    cases f with
    | next => subst r3; exact S.fo _ _ _ _ _ pos _ _ h p3 p env W3 sh3 W0 sh0 it A (V.mono S3.le) I3 (S12.trans S3) (R12.trans R3) ((K1.mono I1 S2 I2).mono I2 S3 I3) _ z
    | ret v => obtain ⟨x, rfl, r3⟩ := r3; exact z.ret (Q := fun f s => Rr (.ok f) s) h (S12.trans S3) I3 (R12.trans R3) ⟨_, rfl, r3⟩
end
section
variable {c : Cx} {se : SE} {s : S} {T : Tb} {R : Rec} {p : Pl} {env : Env} {W : Wd} {sh : Shared}
theorem VDs.toR {W : Wd} {l : List Dat} {ys : List Value} (h : VDs W.Z l ys) : VRs W (l.map .d) ys := VDs.ind (M := fun l ys => VRs W (l.map .d) ys) .nil (fun a _ b => .cons (.d a) b) h
theorem VRs.len {W : Wd} {l : List SV} {ys : List Value} (h : VRs W l ys) : l.length = ys.length := VRs.ind (M := fun l ys => l.length = ys.length) rfl (fun _ _ b => congrArg (· + 1) b) h
theorem VDs.len {Z : ZH} {l : List Dat} {ys : List Value} (h : VDs Z l ys) : l.length = ys.length := VDs.ind (M := fun l ys => l.length = ys.length) rfl (fun _ _ b => congrArg (· + 1) b) h
theorem items_r {v : SV} {l : List SV} {W : Wd} {va : Value} {G : Value → Prop} (h : items v = some l) (r : VR W v va) (H : ∀ a xs ep, W.Z a = some ⟨.type "tuple", none, .seq xs ep, #[]⟩ → VRs W l xs.toList → G (.ref a)) : G va := by
  cases v with
  | d x => cases x with
    | tup m => obtain ⟨a, xs, ep, g, v, rfl⟩ := r.i; cases h; exact H _ _ _ g v.toR
    | _ => exact nn h
  | tup m => cases r with | tup g v => cases h; exact H _ _ _ g v
  | _ => exact nn h
theorem nms_len : ∀ {ts : List Expr} {vs : List SV}, nms ts vs = true → (assignEach ts env).length = vs.length ∧ (assignEach ts env).findIdx? (·.1) = none := by
  intro ts
  induction ts with
  | nil => intro vs h; cases vs with | nil => exact ⟨rfl, rfl⟩ | cons => cases h
  | cons t ts ih =>
    intro vs h
    cases vs with
    | nil => cases h
    | cons v vs =>
      obtain ⟨e, h⟩ := andT h
      obtain ⟨u, e⟩ := Option.isSome_iff_exists.mp e
      obtain ⟨a, b⟩ := ih h
      refine eNm.r (G := fun t => (assignEach (t :: ts) env).length = (v :: vs).length ∧ (assignEach (t :: ts) env).findIdx? (·.1) = none) e fun x pos _ => ⟨congrArg (· + 1) a, ?_⟩
      show List.findIdx? (·.1) ((false, assign (.Name x pos) env) :: assignEach ts env) = none
      rw [List.findIdx?_cons, b]; rfl
theorem snd_setNs : ∀ {ts : List Expr} {vs : List SV} {xs : List Value} {s : S} {P : List Prop} {o : Oc Unit} {W : Wd} {sh : Shared}, setNs se ts vs s = some (P, o) → okL P → EnvOk p se env W → Inv c.h₀ p.fl s.σ W sh.heap → VRs W vs xs →
    Run c p (assignInOrder ((assignEach ts env).map (·.2)) xs) (fun _ _ (_ : Unit) => True) o W sh := by
  intro ts
  induction ts with
  | nil =>
    intro vs xs s P o W sh h hp V I r Q E z
    cases vs with
    | nil => cases r; exact wpAny_pure (z.ret h I trivial)
    | cons => exact nn h
  | cons t ts ih =>
    intro vs xs s P o W sh h hp V I r Q E z
    cases vs with
    | nil => exact nn h
    | cons v vs =>
      obtain ⟨va, xs, rfl, r, rs⟩ := r.ic
      refine eNm.r (G := fun t => wpAny _ _ (assignInOrder ((assignEach (t :: ts) env).map (·.2)) (va :: xs)) Q E sh) h fun x pos h => ?_
      show wpAny _ _ (do holding xs (assign (.Name x pos) env va); assignInOrder ((assignEach ts env).map (·.2)) xs) Q E sh
      exact wpAny_bind (wpAny_holding (wpAny_assign_Name (setR h hp V I r z fun _ s1 sh1 W1 h p1 L I1 z => ih h p1 (V.mono L) I1 (rs.mono L) _ _ z)))
theorem snd_items {ts : List Expr} {k : Nat} {pos : Pos} {v : SV} {l : List SV} {va : Value} {P : List Prop} {o : Oc Unit} {d : Nat} (hl : items v = some l) (hn : nms ts l = true) (h : setNs se ts l s = some (P, o)) (hp : okL P) (A : AOk p.A p.fl p.envs d) (V : EnvOk p se env W) (I : Inv c.h₀ p.fl s.σ W sh.heap) (r : VR W v va) :
    Run c p (assign (.Tuple ts k pos) env va) (fun _ _ (_ : Unit) => True) o W sh := by
  intro Q E z
  refine items_r (G := fun va => wpAny _ _ (assign (.Tuple ts k pos) env va) Q E sh) hl r fun a xs ep g rs => ?_
  obtain ⟨l1, l2⟩ := nms_len (env := env) hn
  rw [arm_assign_Tuple]
  refine wpAny_bind (wpAny_standAt ?_)
  unfold unpack
  rw [l1, rs.len.trans Array.length_toList, l2]
  refine wpAny_bind (wpAny_holding (with_size (wpAny_unpackItems_tuple A.handled ⟨_, I.zk _ _ g, rfl, ep, rfl⟩ fun h' he sz => ?_)))
  obtain ⟨J, S⟩ := I.keeps (fun b o e => he b o (Nat.ne_of_lt (Heap.lt_size e)) e) sz
  exact snd_setNs (sh := { sh with heap := h' }) h hp V J rs _ _ (z.after S ⟨rfl, rfl⟩)
theorem snd_target {t : Expr} {v : SV} {va : Value} {P : List Prop} {o : Oc Unit} {d : Nat} (h : target se t v s = some (P, o)) (hp : okL P) (A : AOk p.A p.fl p.envs d) (V : EnvOk p se env W) (I : Inv c.h₀ p.fl s.σ W sh.heap) (r : VR W v va) :
    Run c p (assign t env va) (fun _ _ (_ : Unit) => True) o W sh := by
  intro Q E z
  cases t with
  | Name x pos => exact wpAny_assign_Name (snd_setN h V I r _ _ z)
  | Tuple ts k pos => exact uO.r h fun l h hl => uW.r h fun h hn => snd_items hl hn h hp A V I r _ _ z
  | _ => exact nn h
end
section
variable {c : Cx} {se : SE} {s : S} {T : Tb} {R : Rec} {p : Pl} {env : Env} {W : Wd} {sh : Shared}
theorem bnk.r {α β : Type} {y : Res α} {k : α → S → Res β} {P : List Prop} {o : Oc β} {B : Prop} (h : bnk y k = some (P, o)) (hp : okL P) (H : ∀ P1 a s1 P2, y = some (P1, .ok a s1) → okL P1 → k a s1 = some (P2, o) → okL P2 → B) : B := by
  cases y with
  | none => exact nn h
  | some q =>
    obtain ⟨P1, q⟩ := q
    cases q with
    | exc => exact nn h
    | ok a s1 =>
      unfold bnk at h
      dsimp only at h
      cases e : k a s1 with
      | none => rw [e] at h; exact nn h
      | some q => rw [e] at h; cases h; exact H _ _ _ _ rfl (okL_app hp).1 e (okL_app hp).2
theorem snd_ifs (S : Snd c R) {ifs : List Expr} {P : List Prop} {o : Oc Bool} (h : evIfs R se ifs s = some (P, o)) (hp : okL P) (A : AOk p.A p.fl p.envs se.d) (V : EnvOk p se env W) (I : Inv c.h₀ p.fl s.σ W sh.heap) :
    Run c p (forIn ifs true fun c r => if r = true then do let ok ← isTrue c env (eval c env); pure (ForInStep.yield ok) else pure (ForInStep.yield r)) EqR o W sh := by
  intro Q E z
  cases ifs with
  | nil => rw [List.forIn_nil]; exact wpAny_pure (z.ret h I rfl)
  | cons t ts => cases ts with
    | cons => exact nn h
    | nil =>
      rw [List.forIn_cons, if_pos rfl]
      refine wpAny_bind (wpAny_bind (S.t _ _ _ _ _ h hp p env W sh A V I _ _ ?_))
      cases o with
      | exc x => exact z
      | ok b s' =>
        intro sh1 W1 v S1 I1 R1 r1
        exact wpAny_pure (by
          show wpAny _ _ (forIn [] v _) Q E sh1
          rw [List.forIn_nil]
          exact wpAny_pure (z sh1 W1 _ S1 I1 R1 r1))
section
variable {W' : Wd} {h0 h h' : Heap} {it : Value} {D : Addr} {got : List Dat} {n : Nat} {xs : Array Value}
theorem Acc.at (K : Acc p W h0 it D got n xs h) (q : h'.PlainList D xs) : Acc p W h0 it D got n xs h' := ⟨q, K.vs, K.sz, K.lo, K.z, K.r, K.f, K.ne⟩
theorem Acc.skip (K : Acc p W h0 it D got (n + 1) xs h) : Acc p W h0 it D got n xs h := ⟨K.pl, K.vs, Nat.le_of_succ_le K.sz, K.lo, K.z, K.r, K.f, K.ne⟩
theorem Acc.lt (K : Acc p W h0 it D got n xs h) : D < h.objs.size := let ⟨_, e⟩ := K.pl; Heap.lt_size e
theorem Acc.step (K : Acc p W h0 it D got n xs h) (S : Step p.fl W h W' h') : Acc p W' h0 it D got n xs h' := by
  obtain ⟨t, et, lt⟩ := S.ρ
  refine ⟨K.pl.at fun o e => S.keep D o e K.r K.f, K.vs.mono S.Z, K.sz, K.lo, ?_, ?_, K.f, K.ne⟩
  · cases q : W'.Z D with
    | none => rfl
    | some o => exact ((S.new D o q).elim (fun q => nomatch K.z.symm.trans q) fun q => q.elim (fun q => absurd q K.r) fun q => absurd K.lt (Nat.not_lt.mpr q))
  · rw [et]; exact fun m => (List.mem_append.mp m).elim K.r fun m => absurd K.lt (Nat.not_lt.mpr (lt D m))
theorem Acc.add (K : Acc p W h0 it D got (n + 1) xs h) {w : Dat} {v : Value} (r : VD W.Z w v) (q : h'.PlainList D (xs.push v)) : Acc p W h0 it D (got ++ [w]) n (xs.push v) h' :=
  ⟨q, by rw [Array.toList_push]; exact VDs.ind (M := fun l vs => VDs W.Z (l ++ [w]) (vs ++ [v])) (.cons r .nil) (fun a _ b => .cons a b) K.vs, by rw [List.length_append, Nat.add_assoc, Nat.add_comm _ n]; exact K.sz, K.lo, K.z, K.r, K.f, K.ne⟩
theorem ItOk.wrote {l : List Dat} (K : ItOk c p W h0 it l h) (zD : W.Z D = none) (ne : it ≠ .ref D) (k : ∀ b o, b ≠ D → h.get? b = some o → h'.get? b = some o) (sz : h.objs.size ≤ h'.objs.size) : ItOk c p W h0 it l h' := by
  obtain ⟨a, fp, n, P, St, i, q, Wk, st, hn, hP, q1, q2, q3, q4, q5, q6, go⟩ := K
  refine ⟨a, fp, n, P, St, i, q, Wk, Wk.frame _ _ _ st fun b hb o e => k b o (fun q' => ?_) e, hn, hP, q1, q2, q3, q4, Nat.lt_of_lt_of_le q5 sz, q6, go⟩
  exact (q6 b hb).elim (fun e => ne (by rw [q, ← e, q'])) fun ⟨o', e'⟩ => nomatch (zD.symm.trans ((congrArg W.Z q').symm.trans e'))
end
theorem CmPost.no {o : Oc (List Dat)} {W0 W : Wd} {sh0 : Shared} {D : Addr} {got : List Dat} {Rr : Result → Shared → Prop} (z : CmPost c p o W0 sh0 W D got Rr) (x : Exn) (e : o = .exc x) {G : Prop} : G := by subst e; exact z.elim
theorem CmPost.le {o : Oc (List Dat)} {W0 W W1 : Wd} {sh0 : Shared} {D : Addr} {got : List Dat} {Rr : Result → Shared → Prop} (z : CmPost c p o W0 sh0 W D got Rr) (L : WLe W W1) : CmPost c p o W0 sh0 W1 D got Rr := by
  cases o with
  | ok a s' => exact fun sh' W' ys L' => z sh' W' ys (L.trans L')
  | exc x => exact z
theorem CmPost.cons {P : List Prop} {o : Oc (List Dat)} {x : Res (List Dat)} {w : Dat} {W0 W : Wd} {sh0 : Shared} {D : Addr} {got : List Dat} {Rr : Result → Shared → Prop} (z : CmPost c p o W0 sh0 W D got Rr)
    (h : bnd x (fun ys s => ret (w :: ys) s) = some (P, o)) (hp : okL P) : ∃ P1 q, x = some (P1, q) ∧ okL P1 ∧ CmPost c p q W0 sh0 W D (got ++ [w]) Rr := by
  rcases bnd_inv h hp with ⟨P1, x, h1, p1, e⟩ | ⟨P1, ys, s4, P5, h1, p1, h2, p2⟩
  · exact z.no x e
  · refine ⟨_, _, h1, p1, ?_⟩
    cases h2
    exact fun sh6 W6 zs L6 S6 I6 R6 hD6 hg6 zD6 rD6 => z sh6 W6 zs L6 S6 I6 R6 hD6 (by rw [List.append_assoc] at hg6; exact hg6) zD6 rD6
theorem snd_cm (S : Snd c R) {t elt it : Expr} {ifs : List Expr} {l : List Dat} {sc : Scope} {pos : Pos} : CmOk c se (evCm R se t elt ifs l s) s.σ l (fun i D => .compLoop (.ListComp elt [⟨t, it, ifs, 0⟩] sc pos) 0 i D) := by
  intro P o h hp p env W sh W0 sh0 itv D got xs A V I S0 R0 K C Rr z
  have no : ∀ x, o = .exc x → ∀ sh' e, Exd p.envs p.fl W sh.heap x e sh'.heap → Rest sh sh' → False := fun x e => z.no x e
  refine comp_step (K.next I S0 R0 (fun e sh' S1 I1 R1 pl => ?_) (fun y r e sh' v rv S1 I1 R1 K1 pl => ?_))
  · subst e
    have C1 := C.at (pl D xs C.ne C.pl)
    cases h
    exact z sh' W xs (.refl W) S1 I1 R1 C1.pl (by rw [List.append_nil]; exact C.vs) C.z C.r
  · subst e
    have C1 := C.at (pl D xs C.ne C.pl)
    refine K1.go (bndS h hp (fun P o h hp => snd_target h hp A V I1 (.d rv)) (fun x e _ _ _ _ => z.no x e) fun _ _ s1 sh2 W2 _ h p2 S2 I2 R2 _ => ?_)
    have V := V.mono S2.le
    have z := z.le S2.le
    have K2 := K1.mono I1 S2 I2
    have C2 := C1.step S2
    have S2 := S1.trans S2
    have R2 := R1.trans R2
    refine bndS h p2 (fun P o h hp => snd_ifs S h hp A V I2) (fun x e _ _ _ _ => z.no x e) fun _ b s2 sh3 W3 bv h p3 S3 I3 R3 q => ?_
    subst q
    have V := V.mono S3.le
    have z := z.le S3.le
    have K3 := K2.mono I2 S3 I3
    have C3 := C2.step S3
    have S3 := S2.trans S3
    have R3 := R2.trans R3
    cases b with
    | false => exact S.cm _ _ _ _ _ _ it sc pos _ _ h p3 p env W3 sh3 W0 sh0 itv D got xs A V I3 S3 R3 K3 C3.skip Rr z
    | true =>
      refine bndS h p3 (fun P o h hp => S.e _ _ _ _ _ h hp p env W3 sh3 A V I3) (fun x e _ _ _ _ => z.no x e) fun _ w s3 sh4 W4 yv h p4 S4 I4 R4 r4 => uD.r h r4 fun w h r4 => ?_
      have V := V.mono S4.le
      have K4 := K3.mono I3 S4 I4
      have C4 := C3.step S4
      obtain ⟨P5, q, h5, p5, z⟩ := (z.le S4.le).cons h p4
      have sz : xs.size ≤ sizeLine := by
        rw [← Array.length_toList, ← C4.vs.len]
        exact Nat.le_trans (Nat.le_add_right _ _) (Nat.le_trans C4.sz (by rw [sizeLine_eq]; decide))
      refine with_size (wpAny_list_append_plain (hsz := sz) C4.pl fun h5' hD5 hs5 sz5 => ?_)
      have k5 : ∀ b o, b ≠ D → sh4.heap.get? b = some o → h5'.get? b = some o := fun b o ne' e => (hs5.2 b ne').trans e
      exact S.cm _ _ _ _ _ _ it sc pos _ _ h5 p5 p env W4 { sh4 with heap := h5' } W0 sh0 itv D (got ++ [w]) (xs.push yv) A V (I4.outside k5 sz5 C4.z C4.r C4.f) ((S3.trans S4).outside k5 sz5 C4.lo) ((R3.trans R4).trans ⟨rfl, rfl⟩)
        (K4.wrote C4.z C4.ne k5 sz5) (C4.add r4 hD5) Rr z
end
theorem signs_len (x : Str) : (signs x).length = x.cps.size := by simp [signs]
theorem signs_get {x : Str} {j : Nat} {c : Nat} (h : x.cps[j]? = some c) : (signs x)[j]? = some (.str false ⟨#[c]⟩) := by
  unfold signs
  rw [List.getElem?_map, Array.getElem?_toList, h]; rfl
theorem upTo_get : ∀ (n k j : Nat), j < n → (upTo k n)[j]? = some (.int true ((k + j : Nat) : Int))
  | 0, _, _, h => absurd h (Nat.not_lt_zero _)
  | n + 1, k, 0, _ => rfl
  | n + 1, k, j + 1, h => by
    show (upTo (k + 1) n)[j]? = _
    rw [upTo_get n (k + 1) j (Nat.lt_of_succ_lt_succ h), show k + 1 + j = k + (j + 1) by omega]
theorem upTo_len : ∀ (n k : Nat), (upTo k n).length = n
  | 0, _ => rfl
  | n + 1, k => congrArg (· + 1) (upTo_len n (k + 1))
theorem small_range {n : Int} (h0 : 0 ≤ n) (h : n < 10000) : Builtin.Range.small 0 n 1 = true ∧ Builtin.Range.rangeSize 0 n 1 = ((n.toNat : Nat) : Int) := by
  have e : Builtin.Range.rangeSize 0 n 1 = ((n.toNat : Nat) : Int) := by rw [rangeSize_nat]; simp
  refine ⟨?_, e⟩
  unfold Builtin.Range.small
  rw [e]
  have q : ((n.toNat : Nat) : Int) = n := Int.toNat_of_nonneg h0
  rw [q]
  have f : ∀ i : Int, -10 ≤ i → i < 20000 → Builtin.Range.rangeFitsLong i = true := fun i a b => by
    unfold Builtin.Range.rangeFitsLong
    simp; omega
  simp only [f 0 (by omega) (by omega), f n (by omega) (by omega), f 1 (by omega) (by omega), Bool.and_true, Bool.true_and]
  rw [if_pos (by decide), f (n + (1 - 1)) (by omega) (by omega), Bool.or_true]
section
variable {c : Cx} {se : SE} {s : S} {T : Tb} {R : Rec} {p : Pl} {env : Env} {W : Wd} {sh : Shared}
theorem go_ok {M : Model} {A : Around} {s : Shared} {I : Addr} {o : Obj} {n : String} {tg : Expr} {v : Value} {Q : Unit → Shared → Prop} {E : Value → Shared → Prop} (h : s.heap.get? I = some o) (hc : o.cls = .type n)
    (hn : (["enumerate", "zip", "dict_itemiterator", "dict_reverseitemiterator", "odict_iterator", "itertools.zip_longest", "itertools.pairwise"].contains n) = false) (q : Q () s) : wpAny M A (letOwnedTupleGo tg (.ref I) v) Q E s := by
  have key : wpAny M A (letOwnedTupleGo (.Tuple [] 0 ⟨0, 0, 0, 0⟩) (.ref I) v) Q E s := by
    cases v with
    | ref a =>
      refine wpAny_bind (wpAny_load h ?_)
      obtain ⟨cl, d, dt, sl⟩ := o
      dsimp only at hc
      subst hc
      cases dt with
      | fields vs =>
        show wpAny _ _ (if (_ && _) = true then _ else _) Q E s
        rw [hn]
        exact wpAny_pure q
      | _ => exact wpAny_pure q
    | _ => exact wpAny_pure q
  cases tg with
  | Tuple => exact key
  | List => exact key
  | _ => exact wpAny_pure q
noncomputable def ItPost (c : Cx) (p : Pl) (o : Oc (List Dat)) (W : Wd) (sh : Shared) (Q : Value → Shared → Prop) (E : Value → Shared → Prop) : Prop := match o with
  | .ok l s' => ∀ sh' W' i, Step p.fl W sh.heap W' sh'.heap → Inv c.h₀ p.fl s'.σ W' sh'.heap → Rest sh sh' → ItOk c p W' sh.heap i l sh'.heap → Q i sh'
  | .exc x => ∀ sh' e, Exd p.envs p.fl W sh.heap x e sh'.heap → Rest sh sh' → E e sh'
section
variable {o : Oc (List Dat)} {P : List Prop} {W0 : Wd} {sh0 : Shared} {Q : Value → Shared → Prop} {E : Value → Shared → Prop} {l : List Dat}
theorem it_new {ob : Obj} {fp : List Addr} {n : Nat} {Pv : Nat → Value → Prop} {St : Nat → Heap → Prop} (h : ret l s = some (P, o)) (z : ItPost c p o W0 sh0 Q E) (S1 : Step p.fl W0 sh0.heap W sh.heap) (I : Inv c.h₀ p.fl s.σ W sh.heap) (R1 : Rest sh0 sh)
    (w : Walks pw c.w p.A sh.heap.objs.size fp [sh.heap.objs.size] n Pv St) (st : St 0 (sh.heap.push ob)) (len : l.length = n) (vs : ∀ j v, Pv j v → j < l.length → ∃ d, l[j]? = some d ∧ VD W.Z d v) (hfp : ∀ b ∈ fp, b = sh.heap.objs.size ∨ ∃ o, W.Z b = some o)
    (go : ∀ i h, St i h → ∃ o n, h.get? sh.heap.objs.size = some o ∧ o.cls = .type n ∧ (["enumerate", "zip", "dict_itemiterator", "dict_reverseitemiterator", "odict_iterator", "itertools.zip_longest", "itertools.pairwise"].contains n) = false) :
    Q (.ref sh.heap.objs.size) { sh with heap := sh.heap.push ob } := by
  cases h
  obtain ⟨f1, f2, f3⟩ := I.fresh (Nat.le_refl sh.heap.objs.size)
  obtain ⟨J, S2⟩ := I.keeps (h' := sh.heap.push ob) (fun b o e => Heap.get?_push_of_some _ e) (by rw [Heap.size_push]; exact Nat.le_succ _)
  exact z { sh with heap := _ } W _ (S1.trans S2) J (R1.trans ⟨rfl, rfl⟩) ⟨_, fp, n, Pv, St, 0, rfl, w, st, (Nat.zero_add _).trans len, fun j v q => vs j v ((congrArg (Pv · v) (Nat.zero_add j)) ▸ q), S1.size, f1, f2, f3, by rw [Heap.size_push]; exact Nat.lt_succ_self _, hfp,
    fun i s v tg Q E st q => let ⟨_, _, g, hc, hn⟩ := go i s.heap st; go_ok g hc hn q⟩
theorem it_str (A : AOk p.A p.fl p.envs se.d) {x : Str} {t : Tok} (h : ret (signs x) s = some (P, o)) (z : ItPost c p o W0 sh0 Q E) (S1 : Step p.fl W0 sh0.heap W sh.heap) (I : Inv c.h₀ p.fl s.σ W sh.heap) (R1 : Rest sh0 sh) : wpAny c.M p.A (pyIter (.str x t)) Q E sh := by
  have vs : ∀ j v, SignAt x j v → j < (signs x).length → ∃ d, (signs x)[j]? = some d ∧ VD W.Z d v := fun j v ⟨c, u, e, q⟩ _ => ⟨_, signs_get e, q ▸ .str⟩
  cases ha : x.cps.all (· < 128) with
  | false => exact wpAny_pyIter_wide ha (it_new h z S1 I R1 (Walks.strWide A.handled _ x t) ⟨_, Heap.get?_push_size _ rfl, rfl, rfl⟩ (signs_len x) vs (fun b hb => .inl (List.mem_singleton.mp hb)) fun _ _ st => let ⟨o, ho, hc, _⟩ := st; ⟨o, _, ho, hc, by decide⟩)
  | true => exact wpAny_pyIter_ascii ha (it_new h z S1 I R1 (Walks.strAscii A.handled _ x t) ⟨_, Heap.get?_push_size _ rfl, rfl, rfl⟩ (signs_len x) vs (fun b hb => .inl (List.mem_singleton.mp hb)) fun _ _ st => let ⟨o, ho, hc, _⟩ := st; ⟨o, _, ho, hc, by decide⟩)
theorem VDs.at {Z : ZH} {l : List Dat} {ys : List Value} (r : VDs Z l ys) : ∀ {j : Nat} {v : Value}, ys[j]? = some v → ∃ d, l[j]? = some d ∧ VD Z d v := by
  refine VDs.ind (M := fun l ys => ∀ {j : Nat} {v : Value}, ys[j]? = some v → ∃ d, l[j]? = some d ∧ VD Z d v) (fun {j v} e => nomatch e) (fun {x l v vs} a _ ih j w e => ?_) r
  cases j with
  | zero => cases e; exact ⟨x, rfl, a⟩
  | succ j => exact ih e
theorem it_lst (A : AOk p.A p.fl p.envs se.d) {ax : Addr} {xs : Array Value} {ep : Nat} (h : ret l s = some (P, o)) (hz : W.Z ax = some ⟨.type "list", none, .seq xs ep, #[]⟩) (rs : VDs W.Z l xs.toList) (z : ItPost c p o W0 sh0 Q E) (S1 : Step p.fl W0 sh0.heap W sh.heap) (I : Inv c.h₀ p.fl s.σ W sh.heap) (R1 : Rest sh0 sh) :
    wpAny c.M p.A (pyIter (.ref ax)) Q E sh := by
  have hl := I.zk _ _ hz
  refine wpAny_pyIter_list ⟨_, hl, rfl, ep, rfl⟩ (it_new h z S1 I R1 (Walks.list A.handled _ ax (Nat.ne_of_lt (Heap.lt_size hl)) xs) ⟨⟨_, Heap.get?_push_size _ rfl, rfl, rfl⟩, ⟨_, Heap.get?_push_of_some _ hl, rfl, ep, rfl⟩⟩ (rs.len.trans Array.length_toList)
    (fun j v e _ => rs.at (Array.getElem?_toList.trans e)) (fun b hb => ?_) fun _ _ st => let ⟨o, ho, hc, _⟩ := st.1; ⟨o, _, ho, hc, by decide⟩)
  exact (List.mem_cons.mp hb).elim .inl fun hb => .inr ⟨_, (congrArg W.Z (List.mem_singleton.mp hb)).trans hz⟩
theorem it_rng (A : AOk p.A p.fl p.envs se.d) {ax : Addr} {n : Int} {t u w : Tok} (h : ret (upTo 0 n.toNat) s = some (P, o)) (h0 : 0 ≤ n) (h9 : n < 10000) (hz : W.Z ax = some ⟨.type "range", none, .fields #[.int 0 t, .int n u, .int 1 w], #[]⟩) (z : ItPost c p o W0 sh0 Q E) (S1 : Step p.fl W0 sh0.heap W sh.heap) (I : Inv c.h₀ p.fl s.σ W sh.heap) (R1 : Rest sh0 sh) :
    wpAny c.M p.A (pyIter (.ref ax)) Q E sh := by
  obtain ⟨q1, q2⟩ := small_range h0 h9
  refine wpAny_pyIter_range (I.zk _ _ hz) q1 ?_
  rw [q2]
  refine it_new h z S1 I R1 (Walks.range A.handled _ 0 1 n.toNat) ?_ (upTo_len ..) (fun j v e hj => ?_) (fun b hb => .inl (List.mem_singleton.mp hb)) fun _ _ st => ⟨_, _, st, rfl, by decide⟩
  · have := Heap.get?_push_size sh.heap (o := { cls := .type "range_iterator", data := .fields #[rawInt 0, rawInt ((n.toNat : Nat) : Int), rawInt 1] }) rfl
    show IsRangeIter _ _ _ _ _
    simpa using this
  · obtain ⟨t, e⟩ := e
    rw [upTo_len] at hj
    exact ⟨_, upTo_get _ 0 j hj, by rw [e]; simp; exact .int⟩
end
theorem snd_it (S : Snd c R) {e : Expr} {P : List Prop} {o : Oc (List Dat)} {Q : Value → Shared → Prop} {E : Value → Shared → Prop} (h : evIt R se e s = some (P, o)) (hp : okL P) (A : AOk p.A p.fl p.envs se.d) (V : EnvOk p se env W) (I : Inv c.h₀ p.fl s.σ W sh.heap)
    (z : ItPost c p o W sh Q E) : wpAny c.M p.A (eval e env) (fun x s₁ => wpAny c.M p.A (pyIter x) Q E s₁) E sh := by
  refine bndS h hp (fun P o h hp => S.e _ _ _ _ _ h hp p env W sh A V I) (fun x q sh' ev X R' => by subst q; exact z sh' ev X R') fun _ v s1 sh1 W1 va h p1 S1 I1 R1 r1 => uD.r h r1 fun x h r1 => ?_
  cases x with
  | str y x => obtain ⟨t, rfl⟩ := r1.i; exact uN.r h fun h _ => it_str A h z S1 I1 R1
  | lst y l => obtain ⟨ax, xs, ep, hz, rs, rfl⟩ := r1.i; exact uN.r h fun h _ => it_lst A h hz rs z S1 I1 R1
  | rng n => obtain ⟨ax, t, u, w, hz, rfl⟩ := r1.i; exact uW.r h fun h h0 => uW.r h fun h h9 => it_rng A h (of_decide_eq_true h0) (of_decide_eq_true h9) hz z S1 I1 R1
  | _ => exact nn h
theorem itR {α : Type} (S : Snd c R) {e : Expr} {P : List Prop} {o : Oc α} {k : List Dat → P465.S → Res α} {Q : Value → Shared → Prop} {E : Value → Shared → Prop} (h : bnd (evIt R se e s) k = some (P, o)) (hp : okL P) (A : AOk p.A p.fl p.envs se.d) (V : EnvOk p se env W) (I : Inv c.h₀ p.fl s.σ W sh.heap)
    (hE : ∀ y, o = .exc y → ∀ sh' e, Exd p.envs p.fl W sh.heap y e sh'.heap → Rest sh sh' → E e sh')
    (hk : ∀ P2 l s1 sh1 W1 i, k l s1 = some (P2, o) → okL P2 → Step p.fl W sh.heap W1 sh1.heap → Inv c.h₀ p.fl s1.σ W1 sh1.heap → Rest sh sh1 → ItOk c p W1 sh.heap i l sh1.heap → Q i sh1) : wpAny c.M p.A (eval e env) (fun x s₁ => wpAny c.M p.A (pyIter x) Q E s₁) E sh := by
  rcases bnd_inv h hp with ⟨P1, x, h1, p1, e⟩ | ⟨P1, a, s1, P2, h1, p1, h2, p2⟩
  · exact snd_it S h1 p1 A V I (hE x e)
  · exact snd_it S h1 p1 A V I fun sh1 W1 i S1 I1 R1 r1 => hk _ _ _ _ _ _ h2 p2 S1 I1 R1 r1
end
theorem isLoc_ok {l : List (Str × NameKind)} {x : Str} (h : isLoc l x = true) : lk l x = some .local := by
  unfold isLoc at h
  cases e : lk l x with
  | none => rw [e] at h; exact fT h
  | some k => rw [e] at h; cases k with | «local» => rfl | _ => exact fT h
theorem locOk_of {all : List (Str × NameKind)} : ∀ {l : List (Str × NameKind)}, locOk all l = true → ∀ x ∈ l, x.2 = .local → all.lookup x.1 = some .local := by
  intro l
  induction l with
  | nil => intro _ _ m; cases m
  | cons y r ih =>
    obtain ⟨y, k⟩ := y
    intro h x m hx
    have key : locOk all r = true ∧ (k = .local → lk all y = some .local) := by
      cases k with
      | «local» => exact ⟨(andT h).2, fun _ => isLoc_ok (andT h).1⟩
      | _ => exact ⟨h, nofun⟩
    rcases List.mem_cons.mp m with rfl | m
    · exact (lk_lookup ..).symm.trans (key.2 hx)
    · exact ih key.1 x m hx
theorem scOk_of {sc : Scope} (h : scOk sc = true) : sc.kind = .function ∧ ∀ x ∈ sc.names, x.2 = .local → sc.names.lookup x.1 = some .local := by
  unfold scOk at h
  cases q : sc.kind with
  | function => rw [q] at h; exact ⟨rfl, locOk_of h⟩
  | _ => rw [q] at h; exact fT h
theorem folded_none {e : Expr} {env : Env} {x : Value} (h : noSet e = true) : foldedSetIterable e env x = pure x := by
  cases e <;> first | rfl | cases h
theorem clos_cell {se : SE} : ∀ {l : List (Str × NameKind)} {a r}, clos se l a = some r → ∀ y ∈ l, y.2 ≠ .cell := by
  intro l
  induction l with
  | nil => intro _ _ _ y m; cases m
  | cons x l ih =>
    obtain ⟨x, k⟩ := x
    intro a r h y m
    have key : k ≠ .cell ∧ ∃ a', clos se l a' = some r := by
      cases k with
      | cell => exact nn h
      | free => exact uO.r h fun k h _ => ⟨nofun, _, h⟩
      | _ => exact ⟨nofun, _, h⟩
    obtain ⟨k1, a', k2⟩ := key
    exact (List.mem_cons.mp m).elim (fun q => q ▸ k1) (ih k2 y)
section
variable {p : Pl} {se : SE} {env : Env} {W : Wd}
theorem clos_ok (V : EnvOk p se env W) : ∀ {l : List (Str × NameKind)} {a r : List (Str × Nat)} {b : List (Str × Addr)}, clos se l a = some r →
    (∀ x k, lk a x = some k → ∃ d, b.lookup x = some d ∧ W.ρ[k]? = some d) →
    ∃ cl, (forIn l b fun y cs => (do if y.2 == NameKind.free then do let d ← cellOf env y.1; pure (ForInStep.yield ((y.1, d) :: cs)) else pure (ForInStep.yield cs) : Sem (ForInStep (List (Str × Addr))))) = pure cl ∧
      ∀ x k, lk r x = some k → ∃ d, cl.lookup x = some d ∧ W.ρ[k]? = some d := by
  intro l
  induction l with
  | nil => intro a r b h q; cases h; exact ⟨b, rfl, q⟩
  | cons x l ih =>
    obtain ⟨x, k⟩ := x
    intro a r b h q
    rw [List.forIn_cons]
    cases k with
    | free =>
      refine uO.r h fun k' h hk => ?_
      obtain ⟨d, e1, e2⟩ := V.cells _ _ hk
      have e3 : cellOf env x = pure d := by unfold cellOf; rw [e1]
      simp only [beq_self_eq_true, if_true, e3]
      refine ih (b := (x, d) :: b) h fun y j e => ?_
      rw [List.lookup_cons, beq_sq]
      exact ifC e (fun q' e => by rw [q']; exact ⟨d, rfl, Option.some.inj e ▸ e2⟩) fun q' e => by rw [q']; exact q _ _ e
    | cell => exact nn h
    | _ => exact ih h q
theorem closure_ok (V : EnvOk p se env W) {sc : Scope} {r : List (Str × Nat)} (h : clos se sc.names [] = some r) :
    ∃ cl, closureFor sc env = pure cl ∧ ∀ x k, lk r x = some k → ∃ d, cl.lookup x = some d ∧ W.ρ[k]? = some d := by
  obtain ⟨cl, a, b⟩ := clos_ok V (b := []) h (fun x k e => by cases e)
  refine ⟨cl, ?_, b⟩
  rw [← a]
  unfold closureFor
  exact bind_pure (m := Sem) _
theorem relab_eq (V : EnvOk p se env W) : ∀ l : List (Str × NameKind), (l.map fun (n, k) => if (k == NameKind.free && env.scope.kind == .function && env.kindOf n == some .cell) then (n, NameKind.cell) else (n, k)) = relab se l
  | [] => rfl
  | (x, k) :: r => by
    rw [List.map_cons, relab_eq V r]
    cases k with
    | free =>
      have e : (NameKind.free == NameKind.free && env.scope.kind == .function && env.kindOf x == some .cell) = (lk se.nm x == some .cell) := by rw [V.kind, V.kindOf]; rfl
      dsimp only
      rw [e]
      show _ = (x, match lk se.nm x with | some .cell => NameKind.cell | _ => .free) :: relab se r
      cases q : lk se.nm x with
      | none => rfl
      | some y => cases y <;> rfl
    | _ => rfl
end
section
variable {c : Cx} {se : SE} {s : S} {T : Tb} {R : Rec} {p : Pl} {env : Env} {W : Wd} {sh : Shared}
noncomputable def LcPost (c : Cx) (p : Pl) (E : Value → Shared → Prop) (use : Option (Value → Sem Unit)) (Q : Value → Shared → Prop) (W : Wd) (sh : Shared) (o : Oc (Nat × List Dat)) : Prop := match o with
  | .ok a s' => ∀ sh' W' D C m, Step p.fl W sh.heap W' sh'.heap → Inv c.h₀ p.fl s'.σ W' sh'.heap → Rest sh sh' → VD W'.Z (.lst false a.2) (.ref D) → W'.ρ[a.1]? = some C → W'.Z C = none → C ∉ p.fl → sh'.heap.Ns C m → compPost c.M p.A E use Q (.ref D) C (.ok .next) sh'
  | .exc x => ∀ sh' e, Exd p.envs p.fl W sh.heap x e sh'.heap → Rest sh sh' → E e sh'
section
variable {P : List Prop} {o : Oc (Nat × List Dat)} {use : Option (Value → Sem Unit)} {Q : Value → Shared → Prop} {E : Value → Shared → Prop} {W1 : Wd} {sh1 : Shared} {s1 s3 : P465.S} {r : List Dat} {D C : Addr}
theorem lc_end (h : (uE s3.σ (len s.σ) (fun _ => ret (len s.σ, r) s3) fun _ => none) = some (P, o)) (z : LcPost c p E use Q W sh o) (hC : W1.ρ[len s.σ]? = some C) (cf : C ∉ p.fl) (df : D ∉ p.fl) (lo : sh.heap.objs.size ≤ D) :
    CmPost c p (.ok r s3) W sh W1 D [] (compPost c.M p.A E use Q (.ref D) C) := by
  intro sh4 W4 ys L4 S4 I4 R4 ⟨n4, g4⟩ hg4 zD4 rD4
  have I5 := I4.icy g4 zD4 rD4 df
  refine uE.r h I5 (L4.at hC) (fun l m h zC hn _ => ?_) fun _ _ h => nn h
  cases h
  exact z sh4 _ D C _ (S4.icy zD4 lo) I5 R4 (.lst (zput_self ..) (hg4.mono (zput_le zD4))) (L4.at hC) zC cf hn
structure LcIn (c : Cx) (p : Pl) (se : SE) (env : Env) (W0 : Wd) (sh0 : Shared) (s1 : P465.S) (sc : Scope) (rcl : List (Str × Nat)) (cl : List (Str × Addr)) (itv : Value) (l : List Dat) (W : Wd) (D C : Addr) (h : Heap) : Prop where
  V : EnvOk p { se with nm := relab se sc.names, fr := len s1.σ, cl := rcl, tr := false } { scope := relabel sc env, locals := C, globals := env.globals, cells := cl, qual := env.qual, func := none, code := env.code, frame := env.frame, builtins := env.builtins } W
  I : Inv c.h₀ p.fl (s1.σ ++ [.loc []]) W h
  S : Step p.fl W0 sh0.heap W h
  K : ItOk c p W sh0.heap itv l h
  A : Acc p W sh0.heap itv D [] l.length #[] h
  at' : W.ρ[len s1.σ]? = some C
  f : C ∉ p.fl
theorem lc_in {sc : Scope} {rcl : List (Str × Nat)} {cl : List (Str × Addr)} {itv : Value} {l : List Dat} {h : Heap} (V : EnvOk p se env W) (hkind : sc.kind = .function) (hcl : ∀ x k, lk rcl x = some k → ∃ d, cl.lookup x = some d ∧ W.ρ[k]? = some d)
    (S1 : Step p.fl W sh.heap W1 sh1.heap) (I1 : Inv c.h₀ p.fl s1.σ W1 sh1.heap) (K1 : ItOk c p W1 sh.heap itv l sh1.heap) (hsz : l.length ≤ 10000) {h2 : Heap} {ob : Obj} {m : Str → Option Value} (e2 : h2 = sh1.heap.push { cls := .type "list", dict := none, data := .seq #[] })
    (hn : h.Ns h2.objs.size m) (hs : Heap.SameBut h2.objs.size (h2.push ob) h) :
    LcIn c p se env W sh s1 sc rcl cl itv l ⟨W1.ρ ++ [h2.objs.size], W1.Z⟩ sh1.heap.objs.size h2.objs.size h := by
  obtain ⟨dz, dr, df⟩ := I1.fresh (Nat.le_refl sh1.heap.objs.size)
  have z2 : h2.objs.size = sh1.heap.objs.size + 1 := by rw [e2, Heap.size_push]
  have hacc : h2.get? sh1.heap.objs.size = some { cls := .type "list", dict := none, data := .seq #[] } := by rw [e2]; exact Heap.get?_push_size _ rfl
  obtain ⟨I2, S2⟩ := I1.keeps (h' := h2) (fun b o e => by rw [e2]; exact Heap.get?_push_of_some _ e) (z2 ▸ Nat.le_succ _)
  have k3 : ∀ b o, h2.get? b = some o → h.get? b = some o := fun b o e => hs.extBut b o (Nat.ne_of_lt (Heap.lt_size e)) (Heap.get?_push_of_some _ e)
  obtain ⟨cz, cr, cf⟩ := I2.fresh (Nat.le_refl h2.objs.size)
  obtain ⟨I3, S3⟩ := I2.push (h' := h) (e := .loc []) (Nat.le_refl _) (by rw [hs.1, Heap.size_push]; exact Nat.lt_succ_self _) k3 (fun W' e le => .loc (e ▸ cz) hn fun x s e => nomatch e)
  have S13 := S1.trans (S2.trans S3)
  have hat : (W1.ρ ++ [h2.objs.size])[len s1.σ]? = some h2.objs.size := by rw [len_eq, ← I1.len]; simp
  have V1 := V.mono S13.le
  refine ⟨⟨hkind, relab_eq V sc.names, hat, V.glob, V.blt, fun x k e => let ⟨d, a, b⟩ := hcl x k e; ⟨d, a, S13.le.at b⟩, V.frame, nofun⟩, I3, S13, (K1.mono (sh := sh1) I1 S2 I2).mono (sh := { sh1 with heap := h2 }) I2 S3 I3,
    ⟨⟨_, k3 _ _ hacc⟩, .nil, (Nat.zero_add _).symm ▸ hsz, S1.size, dz, fun m => ?_, df, ?_⟩, hat, cf⟩
  · exact (List.mem_append.mp m).elim dr fun m => absurd ((List.mem_singleton.mp m).trans z2) (Nat.ne_of_lt (Nat.lt_succ_self _))
  · obtain ⟨a, fp, n, P, St, i, rfl, Wk, st, hn, hP, q1, q2, q3, q4, q5, q6, go⟩ := K1
    exact fun q => Nat.lt_irrefl _ ((Value.ref.inj q) ▸ q5)
theorem snd_lc (S : Snd c R) {t it elt : Expr} {ifs : List Expr} {sc : Scope} {pos pos' : Pos}
    (h : evLc R se t it elt ifs sc s = some (P, o)) (hp : okL P) (A : AOk p.A p.fl p.envs se.d) (V : EnvOk p se env W) (I : Inv c.h₀ p.fl s.σ W sh.heap) (z : LcPost c p E use Q W sh o) :
    wpAny c.M p.A (comprehension (.ListComp elt [⟨t, it, ifs, 0⟩] sc pos) sc env pos' (newList []) false (eval it env) use) Q E sh := by
  refine uW.r h fun h hsc => uW.r h fun h hset => uO.r h fun rcl h hcl => ?_
  obtain ⟨hkind, hnames⟩ := scOk_of hsc
  obtain ⟨cl, hclos, hcl'⟩ := closure_ok V hcl
  refine wpAny_comprehension_free (g := ⟨t, it, ifs, 0⟩) (gs := []) rfl (fun _ => folded_none hset) hclos hkind hnames (itR S h hp A V I (fun x e => by subst e; exact z) fun _ l s1 sh1 W1 itv h p1 S1 I1 R1 K1 => uW.r h fun h hsz => bnk.r h p1 fun P3 r s3 P4 h3 p3 h4 p4 => ?_)
  have hsz : l.length ≤ 10000 := len_eq l ▸ Nat.le_of_ble_eq_true hsz
  refine wpAny_newObj_type (wpAny_newFunctionEnv (clos_cell hcl) (fun _ hy => nomatch hy) (fun h3' hn3 hs3 => ?_) hkind) (by show (#[] : Array Value).size ≤ sizeLine; rw [sizeLine_eq]; decide)
  have L := lc_in (sc := sc) V hkind hcl' S1 I1 K1 hsz rfl hn3 hs3
  have loop := S.cm _ _ _ _ _ _ it sc pos _ _ h3 p3 p _ _ { sh1 with heap := h3', toks := sh1.toks + ([] : List (Str × Value)).length } W sh itv _ [] #[] A L.V L.I L.S (R1.trans ⟨rfl, rfl⟩) L.K L.A _ (lc_end h4 z L.at' L.f L.A.f S1.size)
  refine codeAny_compStart_list loop ?_
  obtain ⟨a, fp, n, P, St, i, q, Wk, st, hn, hP, q1, q2, q3, q4, q5, q6, go⟩ := L.K
  subst q
  exact Wk.self i _ _ _ st loop
end
theorem snd_listcomp (S : Snd c R) {gs : List Comprehension} {elt : Expr} {sc : Scope} {pos : Pos} : Rt c se (evG T R se (.ListComp elt gs sc pos) s) s.σ (eval (.ListComp elt gs sc pos)) VR := by
  intro P o h hp p env W sh A V I Q E z
  refine gX.r (G := fun gs => wpAny _ _ (eval (.ListComp elt gs sc pos) env) Q E sh) h fun t it ifs h => ?_
  rw [eval_ListComp]
  rcases bnd_inv h hp with ⟨P1, x, h1, p1, rfl⟩ | ⟨P1, a, s1, P2, h1, p1, h2, p2⟩
  · exact snd_lc S (use := none) h1 p1 A V I z
  · refine snd_lc S (use := none) h1 p1 A V I fun sh1 W1 D C m S1 I1 R1 r1 hC zC fC hn => ?_
    refine ⟨m, hn, fun h' hs => ?_⟩
    obtain ⟨J, S2⟩ := I1.put hC hs zC (fun q => absurd q fC) .dead
    cases h2
    exact z { sh1 with heap := h' } W1 _ (S1.trans S2) J (R1.trans ⟨rfl, rfl⟩) (.d r1)
theorem usd_ok {x : Str} {q q' : Pos} {elt t it : Expr} {ifs : List Expr} {sc : Scope} (h : usd se x q' q sc = true) (V : EnvOk p se env W) {n : Nat} :
    swapsWith (.ListComp elt [⟨t, it, ifs, 0⟩] sc q) (some (.Name x q')) n env = pure true := by
  obtain ⟨h, d⟩ := Bool.and_eq_true_iff.mp h
  obtain ⟨a, b⟩ := Bool.and_eq_true_iff.mp h
  have bk : env.blockKind = .function := by unfold Env.blockKind; rw [V.kind]; rfl
  show (pure (env.blockKind == .function && env.kindOf x == some .local && q'.line == q.line && !(sc.names.any fun (n, k) => n == x && (k == .local || k == .cell))) : Sem Bool) = pure true
  rw [bk, V.kindOf, isLoc_ok a, beq_iff_eq.mpr (Nat.eq_of_beq_eq_true b), d]; rfl
theorem snd_used (S : Snd c R) {x : Str} {px q pos : Pos} {t it elt : Expr} {ifs : List Expr} {sc : Scope} (hu : usd se x px q sc = true) :
    Rt c se (lcN R se x t it elt ifs sc s) s.σ (exec (.Assign [.Name x px] (.ListComp elt [⟨t, it, ifs, 0⟩] sc q) pos)) FwR := by
  intro P o h hp p env W sh A V I Q E z
  rw [exec_Assign_Name_used _ _ _ _ (usd_ok hu V)]
  refine wpAny_bind (wpAny_standAt (wpAny_bind ?_))
  show wpAny c.M p.A (do let _ ← comprehension (.ListComp elt [⟨t, it, ifs, 0⟩] sc q) sc env _ (newList []) false (eval it env) (some (assign (.Name x px) env))) _ _ sh
  rcases bnd_inv h hp with ⟨P1, x, h1, p1, rfl⟩ | ⟨P1, a, s1, P2, h1, p1, h2, p2⟩
  · exact wpAny_bind (snd_lc S (use := some _) h1 p1 A V I z)
  · refine wpAny_bind (snd_lc S (use := some _) h1 p1 A V I fun sh1 W1 D C m S1 I1 R1 r1 hC zC fC hn => ?_)
    show wpAny c.M p.A (assign (.Name x px) env (.ref D)) _ E sh1
    refine wpAny_assign_Name (setR h2 p2 (V.mono S1.le) I1 (.d r1) (z.after S1 R1) fun _ s2 sh2 W2 h p3 L2 I2 z => uE.r h I2 (L2.at hC) (fun l m h zC2 c3 _ => ?_) fun _ _ h => nn h)
    refine ⟨_, c3, fun h' hs => wpAny_pure (wpAny_pure ?_)⟩
    obtain ⟨J, S3⟩ := I2.put (L2.at hC) hs zC2 (fun q => absurd q fC) .dead
    cases h
    exact z { sh2 with heap := h' } W2 _ S3 J ⟨rfl, rfl⟩ rfl
theorem snd_for (S : Snd c R) {x : Str} {px pos : Pos} {it : Expr} {body : List Stmt} : Rt c se (uW (noSet it) (bnd (evIt R se it s) fun l s => R.fo se x l body s)) s.σ (exec (.For (.Name x px) it body [] pos)) FwR := by
  intro P o h hp p env W sh A V I Q E z
  exact uW.r h fun h hset => wpAny_For (itR S h hp A V I (fun x e => by subst e; exact z) fun _ l s1 sh1 W1 i h p1 S1 I1 R1 K1 => S.fo _ _ _ _ _ px _ _ h p1 p env W1 sh1 W sh i A (V.mono S1.le) I1 S1 R1 K1 _ (LpPost.post z)) (fun _ => folded_none hset)
end
noncomputable abbrev Cx.K (c : Cx) : Frag := KL c.w.params
structure FdOk (K : Frag) (C : Addr) (x : Str) : Prop where
  get : plainGet K C x = true
  dict : hasDictIn K C = true
  attr : ∃ a, findIn K (.ref C) x = some a ∧ noGet K a = true
  set : findIn K (.ref C) "__setattr__" = some (some (.builtin "object.__setattr__"))
  over : plainOver K C = true
  take : takerIn K C x = some none
structure MtOk (K : Frag) (C : Addr) (x : Str) (f : Addr) : Prop where
  get : plainGet K C x = true
  find : findIn K (.ref C) x = some (some (.ref f))
  fn : isFn K (.ref f) = true
  keep : keepIn K (.ref f) = true
theorem isStr_sq (n x : Str) (t : Tok) : (Value.str n t).isStr x = sq n x := (sq_beq n x).symm
theorem getL_cons {x n : Str} {hs : Int} {t : Tok} {v : Value} {es : List DictEntry} : getL x (⟨hs, .str n t, v⟩ :: es) = bif sq n x then some (some v) else getL x es := by
  unfold getL
  rw [List.find?_cons, show (DictEntry.mk hs (.str n t) v).key.isStr x = sq n x from isStr_sq n x t, List.any_cons]
  cases sq n x <;> rfl
theorem VRf.none {W : Wd} {x : Str} {l : List (Str × SV)} {es : List DictEntry} (r : VRf W l es) (h : lk l x = none) : getL x es = some none := by
  induction r with
  | nil => rfl
  | @cons n s l hs t v es a b ih =>
    rw [getL_cons]
    exact ifC h (fun _ h => nn h.symm) fun q h => by rw [q]; exact ih h
theorem VRf.some {W : Wd} {x : Str} {s : SV} {l : List (Str × SV)} {es : List DictEntry} (r : VRf W l es) (h : lk l x = some s) : ∃ v, getL x es = some (some v) ∧ VR W s v := by
  induction r with
  | nil => exact nn h
  | @cons n s' l hs t v es a b ih =>
    rw [getL_cons]
    exact ifC h (fun q h => by rw [q]; exact ⟨v, rfl, Option.some.inj h ▸ a⟩) fun q h => by rw [q]; exact ih h
theorem VRf.isSome {W : Wd} {x : Str} {l : List (Str × SV)} {es : List DictEntry} (h : VRf W l es) : (getL x es).isSome = true := by
  cases q : lk l x with
  | none => rw [h.none q]; rfl
  | some s => obtain ⟨v, e, _⟩ := h.some q; rw [e]; rfl
theorem VRf.put {W : Wd} {x : Str} {s : SV} {v : Value} {hs : Int} {t : Tok} (r : VR W s v) {l : List (Str × SV)} {es : List DictEntry} (h : VRf W l es) : VRf W (pt l x s) (putL x hs (.str x t) v es) ∧ (putL x hs (.str x t) v es).length ≤ es.length + 1 := by
  induction h with
  | nil => exact ⟨.cons r .nil, Nat.le_refl _⟩
  | @cons n s' l hs' t' v' es a b ih =>
    unfold putL
    show VRf W (bif sq n x then (n, s) :: _ else (n, s') :: _) _ ∧ _
    rw [show (DictEntry.mk hs' (.str n t') v').key.isStr x = sq n x from isStr_sq n x t']
    cases sq n x with
    | true => exact ⟨.cons r b, Nat.le_succ _⟩
    | false => exact ⟨.cons a ih.1, Nat.succ_le_succ ih.2⟩
theorem VDf.toR {W : Wd} {l : List (Str × Dat)} {es : List DictEntry} (h : VDf W.Z l es) : VRf W (l.map fun p => (p.1, .d p.2)) es := VDf.ind (M := fun l es => VRf W (l.map fun p : Str × Dat => (p.1, SV.d p.2)) es) .nil (fun a _ b => .cons (.d a) b) h
theorem lk_mapD (x : Str) (l : List (Str × Dat)) : lk (l.map fun p => (p.1, SV.d p.2)) x = (lk l x).map .d := by
  induction l with
  | nil => rfl
  | cons a l ih =>
    show (bif sq a.1 x then _ else lk _ x) = (bif sq a.1 x then some a.2 else lk l x).map SV.d
    cases sq a.1 x with
    | true => rfl
    | false => exact ih
theorem base_plain {o : Expr} {attr : Str} {env : Env} {t : Sem Value} (h : noSup o = true) : attributeBase o attr env t = t := by
  cases o with
  | Call f args kws pos =>
    cases f with
    | Name id np => cases args with
      | nil => cases kws with
        | nil => cases h
        | cons => rfl
      | cons => rfl
    | _ => rfl
  | _ => rfl
section
variable {c : Cx} {se : SE} {s : S} {T : Tb} {R : Rec} {p : Pl} {env : Env} {W : Wd} {sh : Shared}
theorem fld_get (X : c.K.In c.h₀) {C x dx : Addr} {n : Nat} {es : List DictEntry} {nm : Str} {b : Bool} {w : Value} {v : SV} {Q : Value → Shared → Prop} {E : Value → Shared → Prop} (F : FdOk c.K C nm) (I : Inv c.h₀ p.fl s.σ W sh.heap)
    (z1 : W.Z x = some ⟨.ref C, some dx, .plain, #[]⟩) (g : sh.heap.get? dx = some (dictOf es n)) (e : getL nm es = some (some w)) (r : VR W v w) (z : ∀ n, Q w { sh with toks := n }) : wpAny c.M p.A (getAttr (.ref x) nm b) Q E sh := by
  obtain ⟨f1, f2, ⟨a, f3, f4⟩, -⟩ := F
  exact get_value (X.keeps I.h0) (⟨I.zk _ _ z1, rfl, rfl, g⟩ : InstAt sh.heap x ⟨.ref C, some dx, .plain, #[]⟩ C (some (dictOf es n))) (plainGet_of f1).1 (findObj_own f2 f3 f4 ((lookIn_dict nm es n).trans e)) r.handed (z _)
theorem snd_getA (X : c.K.In c.h₀) (hT : ∀ C x, T.Fd C x = true → FdOk c.K C x) {o v : SV} {va : Value} {x : Str} {b : Bool} {Q : Value → Shared → Prop} {E : Value → Shared → Prop} (h : getA T o x s = some v) (I : Inv c.h₀ p.fl s.σ W sh.heap) (r : VR W o va)
    (z : ∀ v' n, VR W v v' → Q v' { sh with toks := n }) : wpAny c.M p.A (getAttr va x b) Q E sh := by
  refine uM.r (G := fun va => wpAny _ _ (getAttr va x b) Q E sh) h I r (fun C i l a dx es n h z1 hd zz nf g v c => uW.r h fun h hf => ?_) fun C l a dx es n h z1 z2 v => uW.r h fun h hf => uO.r h fun d h hl => ?_
  · obtain ⟨w, e1, e2⟩ := v.some h
    exact fld_get X (hT _ _ hf) I z1 g e1 e2 fun n => z _ n e2
  · cases h
    obtain ⟨w, e1, e2⟩ := v.toR.some (x := x) (s := .d d) (by rw [lk_mapD, hl]; rfl)
    exact fld_get X (hT _ _ hf) I z1 (I.zk _ _ z2) e1 e2 fun n => z _ n e2
theorem snd_attr (S : Snd c R) (X : c.K.In c.h₀) (hT : ∀ C x, T.Fd C x = true → FdOk c.K C x) {o : Expr} {x : Str} {pos : Pos} : Rt c se (evG T R se (.Attribute o x pos) s) s.σ (eval (.Attribute o x pos)) VR := by
  intro P oc h hp p env W sh A V I Q E z
  refine uW.r h fun h hn => Attribute_any_ (bndR h hp (S.e se o s) A V I z fun _ ov s1 sh1 W1 va h p1 L1 I1 r1 z => uO.r h fun v h hv => snd_getA X hT hv I1 r1 fun v' n r' => z.tk h I1 r') ?_
  rw [arm_eval_Attribute, base_plain hn]
end
section
variable {w : World} {A : Around} {K : Frag} {C x dx : Addr} {s : Shared} {R : Result → Shared → Prop} {E : Value → Shared → Prop}
theorem getL_safe {name : Str} {es : List DictEntry} (hl : (getL name es).isSome = true) : (!es.any (·.key.isStr name) && es.any (·.refKey)) = false := by
  unfold getL at hl
  revert hl
  cases he : es.find? (·.key.isStr name) with
  | some en => intro _; rw [List.any_eq_true.mpr ⟨en, List.mem_of_find?_eq_some he, List.find?_some he⟩]; rfl
  | none =>
    cases es.any (·.refKey) with
    | false => intro _; exact Bool.and_false _
    | true => exact fT
open PySem.Builtin PySem.Builtin.ObjectAttr in
theorem put_tail {name : Str} {v : Value} {tk : Tok} {es : List DictEntry} {n : Nat} {Q : PySem.Fin → Shared → Prop} (D : s.heap.get? dx = some (dictOf es n)) (hl : (getL name es).isSome = true) (hz : (putL name (PyData.keyHash w.params name) (.str name s.toks) v es).length ≤ 1000)
    (h : Q (.done (.ret .none)) { s with heap := s.heap.update dx (Obj.putName name (PyData.keyHash w.params name) (.str name s.toks) v), toks := s.toks + 1 }) :
    wpAny (model pw w) A (storeInDict dx (.str name tk) name v) Q E s := by
  have D' : (s.heap.update dx (Obj.putName name (PyData.keyHash w.params name) (.str name s.toks) v)).get? dx = some (dictOf (putL name (PyData.keyHash w.params name) (.str name s.toks) v es) (putN name es n)) := by
    rw [Heap.get?_update_self _ D (by rw [putName_dict]; rfl), putName_dict]
  unfold storeInDict newKeyGuard
  refine wpAny_bind (wpAny_pure (wpAny_bind ?_))
  unfold nsSet
  refine wpAny_bind (wpAny_bind (wpAny_askSetting (wpAny_pure (wpAny_bind (wpAny_mkText (wpAny_bind (wpAny_loadPart D ?_)))))))
  have c : (!(es.toArray).any (·.key.isStr name) && (es.toArray).any (·.refKey)) = false := by
    rw [← Array.any_toList, ← Array.any_toList]
    exact getL_safe hl
  dsimp only
  rw [aRefKeyMayBeTheName_at, c]
  refine wpAny_updatePart D ?_
  refine wpAny_bind (wpAny_lookBehind D' (pastItsLine_dict (by rw [List.size_toArray, sizeLine_eq]; exact Nat.le_trans hz (by decide))) ?_)
  exact wpAny_pure h
theorem osa_write {ox : Obj} {name : Str} {tk : Tok} {v : Value} {es : List DictEntry} {n : Nat} (X : K.In s.heap)
    (I : InstAt s.heap x ox C (some (dictOf es n))) (hd : ox.dict = some dx) (hp : plainOver K C = true) (ht : takerIn K C name = some none) (hh : hasDictIn K C = true)
    (hl : (getL name es).isSome = true) (hz : (putL name (PyData.keyHash w.params name) (.str name s.toks) v es).length ≤ 1000)
    (h : R (.ok (.ret .none)) { s with heap := s.heap.update dx (Obj.putName name (PyData.keyHash w.params name) (.str name s.toks) v), toks := s.toks + 1 }) :
    codeAny (model pw w) A (.call (.builtin "object.__setattr__") ⟨[.ref x, .str name tk, v], []⟩) R s := by
  refine osa_open X I hp ht fun b => ?_
  obtain ⟨cd, hc, hd'⟩ := any_some hh
  obtain ⟨hx, hcl, hn, D⟩ := I
  obtain ⟨oc, odi, oda, osl⟩ := ox
  dsimp only at hcl hd
  subst hcl hd
  have D : s.heap.get? dx = some (dictOf es n) := D
  refine wpAny_bind (wpAny_pure (wpAny_bind (wpAny_bind (wpAny_loadPart hx (wpAny_bind ((looks_clsIn X hc).here ?_))))))
  rw [hd']
  exact wpAny_pure (a := some dx) (put_tail D hl hz h)
end
section
variable {c : Cx} {se : SE} {s : S} {T : Tb} {R : Rec} {p : Pl} {env : Env} {W : Wd} {sh : Shared}
theorem pt_len {α : Type} (x : Str) (v : α) : ∀ l : List (Str × α), (pt l x v).length ≤ l.length + 1 := by
  intro l
  induction l with
  | nil => exact Nat.le_refl _
  | cons a r ih =>
    show (bif sq a.1 x then (a.1, v) :: r else a :: pt r x v).length ≤ _
    cases sq a.1 x with
    | true => exact Nat.le_succ _
    | false => exact Nat.succ_le_succ ih
theorem VRf.len {W : Wd} {l : List (Str × SV)} {es : List DictEntry} (h : VRf W l es) : l.length = es.length := by
  induction h with
  | nil => rfl
  | cons _ _ ih => exact congrArg (· + 1) ih
theorem snd_setA (X : c.K.In c.h₀) (hT : ∀ C x, T.Fd C x = true → FdOk c.K C x) {o v : SV} {va vv : Value} {x : Str} {P : List Prop} {oc : Oc Unit} (h : setA T o x v s = some (P, oc)) (I : Inv c.h₀ p.fl s.σ W sh.heap) (r : VR W o va) (rv : VR W v vv) :
    Run c p (setAttr va x vv) (fun _ _ (_ : Unit) => True) oc W sh := by
  intro Q E z
  refine uM.r (G := fun va => wpAny _ _ (setAttr va x vv) Q E sh) h I r (fun C i l a dx es n h z1 hd zz nf g q c' => uW.r h fun h hf => uW.r h fun h hle => ?_) fun _ _ _ _ _ _ h => nn h
  obtain ⟨f1, f2, -, f4, f5, f6⟩ := hT _ _ hf
  have X' : c.K.In sh.heap := X.keeps I.h0
  have hle : es.length ≤ 50 := by have := Nat.le_of_ble_eq_true hle; rwa [len_eq, q.len] at this
  obtain ⟨p1, p2⟩ := q.put (x := x) (hs := PyData.keyHash c.w.params x) (t := sh.toks + 1) rv
  have p3 := Nat.le_trans p2 (Nat.succ_le_succ hle)
  have q2 : InstAt sh.heap a ⟨.ref C, some dx, .plain, #[]⟩ C (some (dictOf es n)) := ⟨I.zk _ _ z1, rfl, rfl, g⟩
  refine set_plain X' q2 f4 (osa_write (s := { sh with toks := sh.toks + 1 }) X' q2 rfl f5 f6 f2 q.isSome (Nat.le_trans p3 (by decide)) ?_)
  obtain ⟨J, S⟩ := I.put (h' := sh.heap.update dx (Obj.putName x (PyData.keyHash c.w.params x) (.str x (sh.toks + 1)) vv)) (e := .flds (pt l x v)) hd (Heap.SameBut.update ..) zz (fun m => absurd m nf)
    (.flds zz nf (by rw [Heap.get?_update_self _ g (by rw [putName_dict]; rfl), putName_dict]) p1 (Nat.le_trans p3 (by decide)))
  cases h
  exact z { sh with heap := _, toks := _ } W () S J ⟨rfl, rfl⟩ trivial
theorem snd_assignAttr (S : Snd c R) (X : c.K.In c.h₀) (hT : ∀ C x, T.Fd C x = true → FdOk c.K C x) {o e : Expr} {x : Str} {pos pos' : Pos} : Rt c se (asgF T R se (.Attribute o x pos') e pos s) s.σ (exec (.Assign [.Attribute o x pos'] e pos)) FwR := by
  intro P oc h hp p env W sh A V I Q E z
  exact uN.r h fun h hc => plainObj_wpAny_Assign_Attribute (bndR h hp (S.e se e s) A V I z fun _ v s1 sh1 W1 va h p1 L1 I1 r1 z => bndR h p1 (S.e se o s1) A (V.mono L1) I1 z fun _ ov s2 sh2 W2 vo h p2 L2 I2 r2 z =>
    runR h p2 (fun _ _ h _ => snd_setA X hT h I2 r2 (r1.mono L2)) z fun _ _ s3 sh3 W3 _ h p3 L3 I3 _ z => z.ret h I3 rfl) (swaps_none hc)
theorem setItem_plain {M : World} {A : Around} {E : Value → Shared → Prop} {s : Shared} {l : Addr} {items : Array Value} {k : Int} {j : Nat} {t : Tok} {v : Value} {Q : Unit → Shared → Prop} (hl : s.heap.PlainList l items) (hk : k = (j : Int)) (hn : j < items.size) (hfit : k < 2 ^ 63)
    (hQ : ∀ h', h'.PlainList l (items.setIfInBounds j v) → Heap.SameBut l s.heap h' → Q () { s with heap := h' }) : wpAny (model pw M) A (setItem (.ref l) (.int k t) v) Q E s := by
  obtain ⟨n, ho⟩ := hl
  have hl : s.heap.IsList l items := ⟨_, ho, rfl, n, rfl⟩
  unfold setItem
  refine wpAny_holding (wpAny_bind (wpAny_sequenceKey hl.typeIs (by decide) ?_))
  refine wpAny_bind (wpAny_callSpecial?_slot (name := Str.ofString "__setitem__") hl.typeIs slot_list_setitem (wpAny_call_entry slot_list_setitem hl.typeIs entry_list_setitem ?_ (args_list_setitem _ _ _)))
  show wpAny _ _ (Builtin.List.listSubscript? (.int k t) >>= _) _ _ s
  refine wpAny_bind (wpAny_listSubscript_int (fitsIndex_of (hk ▸ Int.natCast_nonneg j) hfit) ?_)
  clear hfit
  subst hk
  have hx' : items[j]? = some items[j] := Array.getElem?_eq_getElem hn
  show wpAny _ _ ((seqItemAt l j >>= fun r => pure (r.map (j, ·))) >>= _) _ _ s
  refine wpAny_bind (wpAny_bind (wpAny_seqItemAt ho rfl (wpAny_pure ?_)))
  rw [hx']
  show wpAny _ _ (setSeqItemAt l j v >>= _) _ _ s
  have e : Obj.mapSeq (·.setIfInBounds j v) { cls := .type "list", data := .seq items n } = { cls := .type "list", data := .seq (items.setIfInBounds j v) n } := by simp [Obj.mapSeq]
  have g : (s.heap.update l (Obj.mapSeq (·.setIfInBounds j v))).get? l = some { cls := .type "list", data := .seq (items.setIfInBounds j v) n } := by rw [Heap.get?_update_self _ ho (by rw [e]; rfl), e]
  refine wpAny_bind (wpAny_setSeqItemAt ho rfl ?_)
  first
    | exact wpAny_bind (wpAny_pure (wpAny_pure ⟨.none, rfl, wpAny_pure (hQ _ ⟨n, g⟩ (Heap.SameBut.update ..))⟩))
    | exact wpAny_pure ⟨.none, rfl, wpAny_pure (hQ _ ⟨n, g⟩ (Heap.SameBut.update ..))⟩
theorem VDs.set {Z : ZH} {x : Dat} {v : Value} (r : VD Z x v) {l : List Dat} {xs : List Value} (n : Nat) (h : VDs Z l xs) : VDs Z (l.set n x) (xs.set n v) := by
  refine VDs.ind (M := fun l xs => ∀ n : Nat, VDs Z (l.set n x) (xs.set n v)) (fun _ => .nil) (fun {y l w vs} a b ih n => ?_) h n
  cases n with
  | zero => exact .cons r b
  | succ n => exact .cons a (ih n)
theorem not_fr {l : Addr} {xs : Array Value} {ep : Nat} (I : Inv c.h₀ p.fl s.σ W sh.heap) (g : sh.heap.get? l = some ⟨.type "list", none, .seq xs ep, #[]⟩) : l ∉ p.fl := fun m => by
  obtain ⟨_, o, es, ep', g1, g2, _⟩ := I.stk _ m
  exact nomatch (g2.symm.trans (congrArg Obj.data (Option.some.inj (g1.symm.trans g))))
theorem snd_setI {o i v : SV} {va vi vv : Value} {P : List Prop} {oc : Oc Unit} (h : setI o i v s = some (P, oc)) (I : Inv c.h₀ p.fl s.σ W sh.heap) (r : VR W o va) (ri : VR W i vi) (rv : VR W v vv) :
    Run c p (setItem va vi vv) (fun _ _ (_ : Unit) => True) oc W sh := by
  intro Q E z
  refine uL.r (G := fun va => wpAny _ _ (setItem va vi vv) Q E sh) h I r fun k l a xs ep h hr zz g vs => uI.r (G := fun vi => wpAny _ _ (setItem _ vi vv) Q E sh) h ri fun y n tk h => uD.r h rv fun x h rv => uW.r h fun h _ => natI.r h fun n q h => uW.r h fun h hlt => uW.r h fun hz hsm => ?_
  subst q
  have hlt : n < xs.size := by rw [← Array.length_toList, ← vs.len, ← len_eq]; exact Nat.le_of_ble_eq_true hlt
  refine setItem_plain (j := n) ⟨ep, g⟩ rfl hlt (Int.lt_trans (Int.ofNat_lt.mpr (Nat.le_of_ble_eq_true hsm : n < 1000)) (by decide)) fun h' hl' hs' => ?_
  obtain ⟨n', g'⟩ := hl'
  obtain ⟨J, S⟩ := I.put (e := .lst (l.set n x)) hr hs' zz (fun m => absurd m (not_fr I g)) (.lst zz g' (by rw [Array.toList_setIfInBounds]; exact vs.set rv n))
  cases hz
  exact z { sh with heap := h' } W () S J ⟨rfl, rfl⟩ trivial
theorem snd_assignSub (S : Snd c R) {o i e : Expr} {pos pos' : Pos} : Rt c se (asgF T R se (.Subscript o i pos') e pos s) s.σ (exec (.Assign [.Subscript o i pos'] e pos)) FwR := by
  intro P oc h hp p env W sh A V I Q E z
  exact uN.r h fun h hc => wpAny_Assign_Subscript (bndR h hp (S.e se e s) A V I z fun _ v s1 sh1 W1 va h p1 L1 I1 r1 z => bndR h p1 (S.e se o s1) A (V.mono L1) I1 z fun _ ov s2 sh2 W2 vo h p2 L2 I2 r2 z =>
    bndR h p2 (S.e se i s2) A ((V.mono L1).mono L2) I2 z fun _ u s3 sh3 W3 vi h p3 L3 I3 r3 z => runR h p3 (fun _ _ h _ => snd_setI h I3 (r2.mono L3) r3 ((r1.mono L2).mono L3)) z fun _ _ s4 sh4 W4 _ h p4 L4 I4 _ z => z.ret h I4 rfl) (swaps_none hc)
theorem closed_ok {W : Wd} {vs : List SV} {xs : List Value} (r : VRs W vs xs) : ∀ {ds : List Dat}, closed vs = some ds → VDs W.Z ds xs := by
  refine VRs.ind (M := fun vs xs => ∀ {ds : List Dat}, closed vs = some ds → VDs W.Z ds xs) (fun {ds} h => by cases h; exact .nil) (fun {v vs x xs} a _ ih ds h => ?_) r
  cases v with
  | d y =>
    exact uO.r h fun r h e => by cases h; exact .cons a.di (ih e)
  | _ => exact nn h
theorem line_len {xs : List Value} {vs : List SV} (r : VRs W vs xs) (h : Nat.blt (len vs) 100 = true) : xs.toArray.size ≤ sizeLine := by
  rw [List.size_toArray, sizeLine_eq, ← r.len, ← len_eq]
  exact Nat.le_trans (Nat.le_of_succ_le (Nat.le_of_ble_eq_true h)) (by decide)
theorem snd_tuple (S : Snd c R) {l : List Expr} {k : Nat} {pos : Pos} : Rt c se (evG T R se (.Tuple l k pos) s) s.σ (eval (.Tuple l k pos)) VR := by
  intro P oc h hp p env W sh A V I Q E z
  refine uW.r h fun h hl => Tuple_ (bndR h hp (S.es se l s hl pos) A V I z fun _ vs s1 sh1 W1 xs h p1 L1 I1 r1 z => uW.r h fun h hle => wpAny_newObj_type ?_ (line_len r1 hle))
  obtain ⟨J, S2⟩ := I1.cold (h' := sh1.heap.push { cls := .type "tuple", dict := none, data := .seq xs.toArray }) (Nat.le_refl _) (Heap.get?_push_size _ rfl) (fun b o e => Heap.get?_push_of_some _ e) (by rw [Heap.size_push]; exact Nat.le_succ _)
  refine (z.after (s' := { sh1 with heap := _ }) S2 ⟨rfl, rfl⟩).ret h J ?_
  unfold tupV
  cases hd : closed vs with
  | some ds => exact .d (.tup (zput_self ..) ((closed_ok r1 hd).mono S2.Z))
  | none => exact .tup (zput_self ..) (r1.mono S2.le)
theorem snd_list (S : Snd c R) {l : List Expr} {pos : Pos} : Rt c se (evG T R se (.List l pos) s) s.σ (eval (.List l pos)) VR := by
  intro P oc h hp p env W sh A V I Q E z
  refine uW.r h fun h hl => List_ (bndR h hp (S.es se l s hl pos) A V I z fun _ vs s1 sh1 W1 xs h p1 L1 I1 r1 z => uW.r h fun h hle => uO.r h fun ds h hd => wpAny_newObj_type ?_ (line_len r1 hle))
  obtain ⟨dz, -, -⟩ := I1.fresh (Nat.le_refl sh1.heap.objs.size)
  obtain ⟨J, S2⟩ := I1.push (h' := sh1.heap.push { cls := .type "list", dict := none, data := .seq xs.toArray }) (e := .lst ds) (Nat.le_refl _) (by rw [Heap.size_push]; exact Nat.lt_succ_self _) (fun b o e => Heap.get?_push_of_some _ e)
    (fun W' e le => .lst (e ▸ dz) (Heap.get?_push_size _ rfl) (e ▸ closed_ok r1 hd))
  exact (z.after (s' := { sh1 with heap := _ }) S2 ⟨rfl, rfl⟩).ret h J (.lst (by rw [len_eq, ← I1.len]; simp))
end
section
variable {c : Cx} {se : SE} {s : S} {T : Tb} {R : Rec} {p : Pl} {env : Env} {W : Wd} {sh : Shared}
theorem evalArgs_sp {M : Model} {A : Around} {E : Value → Shared → Prop} {s : Shared} {f : Value} {l : List Expr} {pos : Pos} {Q : Args → Shared → Prop} (hl : plainArgs l = true)
    (h : wpAny M A (spliced (backTo pos (starEach l env))) (fun vs s' => Q ⟨vs, []⟩ s') E s) : wpAny M A (evalArgs f true (backTo pos (starEach l env)) []) Q E s := by
  cases l with
  | nil =>
    unfold evalArgs
    show wpAny M A (spliced [] >>= _) Q E s
    refine wpAny_bind (wpAny_mono h (fun vs s' h' => ?_) fun _ _ x => x)
    refine wpAny_bind (wpAny_pure ?_)
    refine wpAny_holding ?_
    exact wpAny_bind (wpAny_pure (wpAny_bind (wpAny_pure (wpAny_pure h'))))
  | cons e r =>
    obtain ⟨a, b⟩ := plain_cons hl
    rw [star_plain a] at h ⊢
    exact Calls.evalArgs_plain h
theorem snd_callWith (S : Snd c R) {args : List Expr} {pos : Pos} (hl : plainArgs args = true) {fv : Value} {first : List Value} {P : List Prop} {o : Oc SV} {k : List SV → P465.S → Res SV}
    (h : bnd (R.es se args s) k = some (P, o)) (hp : okL P) (A : AOk p.A p.fl p.envs se.d) (V : EnvOk p se env W) (I : Inv c.h₀ p.fl s.σ W sh.heap) (X : c.K.In c.h₀)
    (hf : keepIn c.K fv = true ∨ (∃ i, fv = .builtin i) ∨ (∃ t, fv = .type t))
    (hk : ∀ vs s1 P1, k vs s1 = some (P1, o) → okL P1 → ∀ W1 sh1 vas, Step p.fl W sh.heap W1 sh1.heap → Inv c.h₀ p.fl s1.σ W1 sh1.heap → VRs W1 vs vas → Run c p (call fv (first ++ vas)) VR o W1 sh1) :
    Run c p (callWith pos fv first (backTo pos (starEach args env)) []) VR o W sh := by
  intro Q E z
  have pl := plain_any (pos := pos) (env := env) hl
  have core : wpAny c.M p.A (evalArgs fv true (backTo pos (starEach args env)) []) (fun a s₁ => c.K.In s₁.heap ∧ wpAny c.M p.A (call fv (first ++ a.pos) a.kw) Q E s₁) E sh := by
    refine evalArgs_sp hl ?_
    exact bndS h hp (fun P o h hp => S.es _ _ _ hl pos _ _ h hp p env W sh A V I) (fun x q => by subst q; exact z) fun _ vs s1 sh1 W1 vas h p1 S1 I1 R1 r1 => ⟨X.keeps I1.h0, hk _ _ _ h p1 W1 sh1 vas S1 I1 r1 _ _ (z.after S1 R1)⟩
  rcases hf with hf | ⟨i, rfl⟩ | ⟨t, rfl⟩
  · exact callWith_of (by rw [pl]; rfl) (keeps_K hf) core
  · exact Calls.callWith_builtin pl (wpAny_mono core (fun a s' z => z.2) fun _ _ e => e)
  · exact PySem.callWith_type pl (wpAny_mono core (fun a s' z => z.2) fun _ _ e => e)
theorem okTop_ok (hkp : ∀ a, T.kp a = true → keepIn c.K (.ref a) = true) {fv : SV} {va : Value} (hk : okTop T fv = true) (r : VR W fv va) : keepIn c.K va = true ∨ (∃ i, va = .builtin i) ∨ (∃ t, va = .type t) := by
  cases fv with
  | d x => cases x with
    | top v =>
      obtain ⟨_, rfl⟩ := r.i
      cases va with
      | ref a => exact .inl (hkp _ hk)
      | builtin i => exact .inr (.inl ⟨_, rfl⟩)
      | type t => exact .inr (.inr ⟨_, rfl⟩)
      | _ => cases hk
    | _ => cases hk
  | _ => cases hk
theorem snd_call (S : Snd c R) (X : c.K.In c.h₀) (hkp : ∀ a, T.kp a = true → keepIn c.K (.ref a) = true) {f : Expr} {args : List Expr} {pos : Pos}
    (he : ∀ env, eval (.Call f args [] pos) env = (do callWith pos (← eval f env) [] (backTo pos (starEach args env)) (backToKw pos (keywordEach [] env)))) :
    Rt c se (evCa T R se f args s) s.σ (eval (.Call f args [] pos)) VR := by
  intro P o h hp p env W sh A V I Q E z
  refine uW.r h fun h hl => ?_
  rw [he]
  exact wpAny_bind (bndR h hp (S.e se f s) A V I z fun _ fv s1 sh1 W1 va h p1 L1 I1 r1 z => uW.r h fun h hk => snd_callWith (first := []) S hl h p1 A (V.mono L1) I1 X (okTop_ok hkp hk r1) (fun vs s2 P3 h3 p3 W2 sh2 vas S2 I2 r2 => S.ap _ _ _ _ _ _ h3 p3 p W2 sh2 va vas A I2 (r1.mono S2.le) r2) _ _ z)
theorem meth_get (X : c.K.In c.h₀) {o : SV} {va : Value} {x : Str} {f : Addr} {pl : Sem Bool} {Q : Value × List Value → Shared → Prop} {E : Value → Shared → Prop} (hmt : ∀ C x f, T.Mt C x = some f → MtOk c.K C x f) (h : meth T o x s = some f) (I : Inv c.h₀ p.fl s.σ W sh.heap) (r : VR W o va)
    (z : keepIn c.K (.ref f) = true → Q (.ref f, [va]) sh) : wpAny c.M p.A (getMethod va x pl) Q E sh := by
  have key : ∀ {C a dx es n} {l : List (Str × SV)}, (uO (T.Mt C x) fun f => match lk l x with | none => some f | some _ => none) = some f → W.Z a = some ⟨.ref C, some dx, .plain, #[]⟩ → sh.heap.get? dx = some (dictOf es n) → VRf W l es → (keepIn c.K (.ref f) = true → Q (.ref f, [.ref a]) sh) → wpAny c.M p.A (getMethod (.ref a) x pl) Q E sh := fun {C a dx es n l} h z1 g v z => by
    refine uO.r h fun f' h q => ?_
    cases e : lk l x with
    | some => rw [e] at h; exact nn h
    | none =>
      rw [e] at h
      cases h
      obtain ⟨m1, m2, m3, m4⟩ := hmt _ _ _ q
      exact method_fn (X.keeps I.h0) (⟨I.zk _ _ z1, rfl, rfl, g⟩ : InstAt sh.heap a ⟨.ref C, some dx, .plain, #[]⟩ C (some (dictOf es n))) (plainGet_of m1).1 (plainGet_of m1).2 m2 (beq_iff_eq.mp m3) (by show (lookIn x (dictOf es n)).map _ = _; rw [lookIn_dict, v.none e]; rfl) (z m4)
  refine uM.r (G := fun va => (keepIn c.K (.ref f) = true → Q (.ref f, [va]) sh) → wpAny c.M p.A (getMethod va x pl) Q E sh) h I r (fun C i l a dx es n h z1 hd zz nf g v c => key h z1 g v) (fun C l a dx es n h z1 z2 v => key (l := l.map fun p => (p.1, .d p.2)) ?_ z1 (I.zk _ _ z2) v.toR) z
  rw [lk_mapD]
  cases e : lk l x <;> rw [e] at h <;> exact h
theorem snd_method (S : Snd c R) (X : c.K.In c.h₀) (hmt : ∀ C x f, T.Mt C x = some f → MtOk c.K C x f)
    (hg : ∀ m o x s, bmet T o x s = some m → ∀ (p : Pl) W sh va pl (Q : Value × List Value → Shared → Prop) E, Inv c.h₀ p.fl s.σ W sh.heap → VR W o va → Q (.builtin (bid m), [va]) sh → wpAny c.M p.A (getMethod va x pl) Q E sh)
    (hm : ∀ m o vs s P oc, tyM T m o vs s = some (P, oc) → okL P → ∀ p W sh va vas d, AOk p.A p.fl p.envs d → Inv c.h₀ p.fl s.σ W sh.heap → VR W o va → VRs W vs vas → Run c p (call (.builtin (bid m)) (va :: vas)) VR oc W sh)
    {o : Expr} {x : Str} {ap : Pos} {args : List Expr} {pos : Pos} : Rt c se (evMe T R se o x ap args pos s) s.σ (eval (.Call (.Attribute o x ap) args [] pos)) VR := by
  intro P oc h hp p env W sh A V I Q E z
  refine uW.r h fun h hl => uW.r h fun h hlt => uW.r h fun h hline => uW.r h fun h hsup => ?_
  have hlt : args.length < 20 := by rw [← len_eq]; exact Nat.le_of_ble_eq_true hlt
  rw [arm_eval_Call, base_plain hsup]
  have hform : methodCallForm (args.length + ([] : List Keyword).length) (backTo pos (starEach args env)) (backToKw pos (keywordEach [] env)) = true := by
    unfold methodCallForm
    rw [plain_all hl]
    exact decide_eq_true (Nat.lt_trans hlt (by decide))
  have hpos : methodCallPos true o env ap pos = pure pos := by
    unfold methodCallPos
    have : (ap.endLine == pos.line) = true := by rw [beq_iff_eq]; exact Nat.eq_of_beq_eq_true hline
    simp [this]
  refine wpAny_bind (bndR h hp (S.e se o s) A V I z fun _ ov s1 sh1 W1 va h p1 L1 I1 r1 z => wpAny_bind (wpAny_standAt ?_))
  unfold methodCall
  rw [hform]
  cases hf : meth T ov x s1 with
  | some f =>
    rw [hf] at h
    refine wpAny_bind (wpAny_holding (meth_get X hmt hf I1 r1 fun mk => ?_))
    dsimp only
    rw [hpos]
    exact wpAny_bind (wpAny_pure (snd_callWith (first := [va]) S hl h p1 A (V.mono L1) I1 X (.inl mk) (fun vs s2 P3 h3 p3 W2 sh2 vas S2 I2 r2 => S.ap _ _ _ _ _ _ h3 p3 p W2 sh2 (.ref f) (va :: vas) A I2 (.d (.top rfl)) (.cons (r1.mono S2.le) r2)) _ _ z))
  | none =>
    rw [hf] at h
    refine uO.r h fun m h hm' => wpAny_bind (wpAny_holding (hg m ov x s1 hm' p W1 sh1 va _ _ _ I1 r1 ?_))
    dsimp only
    rw [hpos]
    exact wpAny_bind (wpAny_pure (snd_callWith (first := [va]) S hl h p1 A (V.mono L1) I1 X (.inr (.inl ⟨_, rfl⟩)) (fun vs s2 P3 h3 p3 W2 sh2 vas S2 I2 r2 => hm m ov vs s2 _ _ h3 p3 p W2 sh2 va vas _ A I2 (r1.mono S2.le) r2) _ _ z))
end
theorem Inv.pushes {h₀ h h' : Heap} {fl : List Addr} {σ : St} {W : Wd} (I : Inv h₀ fl σ W h) {as : List Addr} {es : List En} (hl : as.length = es.length) (nd : as.Nodup) (lo : ∀ a ∈ as, h.objs.size ≤ a ∧ a < h'.objs.size) (sz : h.objs.size ≤ h'.objs.size)
    (k : ∀ b o, h.get? b = some o → h'.get? b = some o) (he : ∀ W', W' = ⟨W.ρ ++ as, W.Z⟩ → WLe W W' → ∀ (i : Nat) a e, as[i]? = some a → es[i]? = some e → ER W' fl h' a e) :
    Inv h₀ fl (σ ++ es) ⟨W.ρ ++ as, W.Z⟩ h' ∧ Step fl W h ⟨W.ρ ++ as, W.Z⟩ h' := by
  obtain ⟨J, S⟩ := I.keeps k sz
  have le : WLe W ⟨W.ρ ++ as, W.Z⟩ := ⟨⟨as, rfl⟩, fun _ _ e => e⟩
  refine ⟨⟨I.base, J.zk, by simp [I.len, hl], ?_, fun b m => ?_, fun i e' q => ?_, I.frz, J.stk, J.gr⟩, ⟨⟨as, rfl, fun b m => (lo b m).1⟩, fun _ _ e => e, fun _ _ e => .inl e, S.keep, S.slots, sz⟩⟩
  · refine List.nodup_append.mpr ⟨I.nodup, nd, fun b m c m' => ?_⟩
    rintro rfl
    exact absurd (I.low b m).2 (Nat.not_lt.mpr (lo b m').1)
  · rcases List.mem_append.mp m with m | m
    · exact J.low b m
    · exact ⟨Nat.le_trans I.gr (lo b m).1, (lo b m).2⟩
  · by_cases hi : i < σ.length
    · rw [List.getElem?_append_left hi] at q
      obtain ⟨b, x, rr⟩ := I.ent i e' q
      exact ⟨b, le.at x, rr.move le id id fun _ o g => k b o g⟩
    · rw [List.getElem?_append_right (Nat.not_lt.mp hi)] at q
      have hj : i - σ.length < as.length := by rw [hl]; exact (List.getElem?_eq_some_iff.mp q).1
      refine ⟨as[i - σ.length], ?_, he _ rfl le _ _ _ (List.getElem?_eq_getElem hj) q⟩
      rw [List.getElem?_append_right (by rw [I.len]; exact Nat.not_lt.mp hi), I.len]
      exact List.getElem?_eq_getElem hj
theorem Exd.leave {M : Model} {A : Around} {E : Value → Shared → Prop} {env : Env} {envs : List Env} {L : Addr} {fl : List Addr} {W W1 : Wd} {h h1 : Heap} {x : Exn} {e : Value} {sh : Shared} {Q : Unit → Shared → Prop}
    (hfr : A.frames = some (env :: envs)) (hf : env.frame = some L) (X : Exd (env :: envs) (L :: fl) W1 h1 x e sh.heap) (S : Step fl W h W1 h1) (hL : h.objs.size ≤ L)
    (k : ∀ h'', Exd envs fl W h x e h'' → Q () { sh with heap := h'' }) : wpAny M A (leaving env e) Q E sh := by
  have X' := X
  obtain ⟨ea, base, dx, es, n, rfl, X1, q1, q2, q3, q4⟩ := X.up
  obtain ⟨t, et, lt⟩ := S.ρ
  have nm : ∀ b o, h.get? b = some o → b ∉ W.ρ → b ∉ W1.ρ := fun b o hb n q => by
    rw [et] at q
    rcases List.mem_append.mp q with q | q
    · exact n q
    · exact absurd (Heap.lt_size hb) (Nat.not_lt.mpr (lt b q))
  have nL : ∀ b o, h.get? b = some o → b ≠ L := fun b o hb q => absurd (Heap.lt_size hb) (Nat.not_lt.mpr (q ▸ hL))
  refine leave_rule hfr hf X1 fun h' X2 N U Z => k h' ⟨⟨ea, base, dx, es, n, rfl, X2, q1, q2, fun b o z => q3 b o (S.Z b o z), fun b o g r f => q4 b o (S.keep b o g r f) (nm b o g r) fun m => (List.mem_cons.mp m).elim (nL b o g) f⟩, fun b o g r f => ?_, fun a m => ?_, ?_⟩
  · obtain ⟨sl, hs⟩ := S.slots b o g r f
    obtain ⟨sl', hs'⟩ := X'.slots b _ hs (nm b o g r) (List.mem_cons_of_mem _ f)
    obtain ⟨m, o', es', ep, g', hd, _⟩ := X'.ns b (List.mem_cons_of_mem _ f)
    rw [hs'] at g'
    obtain ⟨sl'', hs''⟩ := U b _ hs' fun vs q => by
      obtain rfl := Option.some.inj g'
      exact absurd (q.symm.trans hd) (by simp)
    exact ⟨sl'', hs''⟩
  · obtain ⟨m, g⟩ := X'.ns a (List.mem_cons_of_mem _ m)
    exact ⟨m, U.ns g⟩
  · exact Nat.le_trans S.size (Nat.le_trans X'.size Z)
inductive BRs (W : Wd) : List (Str × SV) → List (Str × Value) → Prop
  | nil : BRs W [] []
  | cons {n x v l r} : VR W x v → BRs W l r → BRs W ((n, x) :: l) ((n, v) :: r)
theorem BRs.mono {W W' : Wd} (h : WLe W W') {l r} (b : BRs W l r) : BRs W' l r := by
  induction b with
  | nil => exact .nil
  | cons a _ ih => exact .cons (a.mono h) ih
theorem BRs.names {W : Wd} {l r} (b : BRs W l r) : l.map (·.1) = r.map (·.1) := by
  induction b with
  | nil => rfl
  | cons _ _ ih => exact congrArg (_ :: ·) ih
theorem bindL_miss (kind : Str → Option NameKind) (x : Str) : ∀ (r : List (Str × Value)) (m : Str → Option Value), x ∉ r.map (·.1) → bindL kind r m x = m x
  | [], _, _ => rfl
  | (n, v) :: r, m, h => by
    simp only [List.map_cons, List.mem_cons, not_or] at h
    rw [bindL, bindL_miss kind x r _ h.2]
    split
    · exact if_neg h.1
    · rfl
theorem bindC_miss (kind : Str → Option NameKind) (x : Str) : ∀ (r : List (Str × Value)) (m : Str → Option Value), x ∉ r.map (·.1) → bindC kind r m x = m x
  | [], _, _ => rfl
  | (n, v) :: r, m, h => by
    simp only [List.map_cons, List.mem_cons, not_or] at h
    rw [bindC, bindC_miss kind x r _ h.2]
    split
    · rfl
    · exact if_neg h.1
theorem lk_cons {α : Type} {x n : Str} {v s : α} {l : List (Str × α)} {B : Prop} (h : lk ((n, v) :: l) x = some s) (h1 : n = x → v = s → B) (h2 : sq n x = false → lk l x = some s → B) : B := by
  exact ifC h (fun q e => h1 (sq_eq q) (Option.some.inj e)) h2
theorem lk_mem {α : Type} {x : Str} {s : α} {l : List (Str × α)} (h : lk l x = some s) : (x, s) ∈ l := by
  induction l with
  | nil => exact nn h
  | cons a l ih => exact lk_cons h (fun e e' => e ▸ e' ▸ .head _) fun _ h => .tail _ (ih h)
theorem bindL_get {W : Wd} (kind : Str → Option NameKind) {x : Str} {s : SV} {l : List (Str × SV)} {r : List (Str × Value)} (b : BRs W l r) : ∀ (m : Str → Option Value), (l.map (·.1)).Nodup → (x, s) ∈ l → kind x = some .local → ∃ v, bindL kind r m x = some v ∧ VR W s v := by
  induction b with
  | nil => intro m _ hm; cases hm
  | @cons n y v l r a b ih =>
    intro m nd hm hk
    obtain ⟨n1, n2⟩ := List.nodup_cons.mp nd
    rcases List.mem_cons.mp hm with q | q
    · cases q
      exact ⟨v, (bindL_miss kind x r _ (b.names ▸ n1)).trans ((congrFun (if_pos hk) x).trans (if_pos rfl)), a⟩
    · exact ih _ n2 q hk
theorem bindC_get {W : Wd} (kind : Str → Option NameKind) {x : Str} {s : SV} {l : List (Str × SV)} {r : List (Str × Value)} (b : BRs W l r) : ∀ (m : Str → Option Value), (l.map (·.1)).Nodup → lk l x = some s → kind x ≠ some .local → ∃ v, bindC kind r m x = some v ∧ VR W s v := by
  induction b with
  | nil => intro m _ hm; exact nn hm
  | @cons n y v l r a b ih =>
    intro m nd hm hk
    obtain ⟨n1, n2⟩ := List.nodup_cons.mp nd
    refine lk_cons hm (fun e e' => ?_) fun _ h => ih _ n2 h hk
    subst e e'
    exact ⟨v, (bindC_miss kind n r _ (b.names ▸ n1)).trans ((congrFun (if_neg hk) n).trans (if_pos rfl)), a⟩
theorem lk_none {α : Type} {x : Str} {l : List (Str × α)} (h : lk l x = none) : x ∉ l.map (·.1) := by
  induction l with
  | nil => exact nofun
  | cons a l ih =>
    exact ifC h (fun _ h => nn h.symm) fun q h m => (List.mem_cons.mp m).elim (fun e => sq_ne q e.symm) (ih h)
theorem Step.down2 {fl fl' : List Addr} {W W' : Wd} {h h' : Heap} (S : Step fl' W h W' h') (s : ∀ a ∈ fl, a ∈ fl') (n : ∀ a ∈ fl', a ∈ fl ∨ a ∈ W.ρ) : Step fl W h W' h' :=
  ⟨S.ρ, S.Z, S.new, fun b o e r f => S.keep b o e r fun m => (n b m).elim f r, fun b o e r f => S.slots b o e r (s b f), S.size⟩
theorem Inv.kill {h₀ h : Heap} {fl : List Addr} {W : Wd} : ∀ (n k : Nat) {σ : St}, Inv h₀ fl σ W h → Inv h₀ fl (kill k n σ) W h
  | 0, _, _, I => I
  | n + 1, k, _, I => Inv.kill n (k + 1) (I.drop k)
theorem binds_names : ∀ {ps : List Str} {vs : List SV} {df : List Dat} {bs : List (Str × SV)}, binds ps vs df = some bs → bs.map (·.1) = ps := by
  intro ps
  induction ps with
  | nil => intro vs df bs h; cases vs with | nil => cases h; rfl | cons => exact nn h
  | cons x xs ih =>
    intro vs df bs h
    cases vs with
    | cons v vs => exact uO.r h fun r h e => by cases h; exact congrArg (x :: ·) (ih e)
    | nil =>
      refine uW.r h fun h q => ?_
      cases h
      have q := Nat.eq_of_beq_eq_true q
      rw [len_eq, len_eq] at q
      exact List.map_fst_zip (by rw [List.length_map, ← q]; exact Nat.le_refl _)
theorem mem_cellNames {x : Str} {l : List (Str × NameKind)} (h : lk l x = some .cell) : x ∈ cellNames l := by
  induction l with
  | nil => exact nn h
  | cons a l ih =>
    obtain ⟨n, k⟩ := a
    refine lk_cons h (fun e e' => ?_) fun _ q => ?_
    · subst e e'; exact .head _
    · have q := ih q
      cases k <;> first | exact .tail _ q | exact q
inductive Cls (n : Addr) : List Str → List (Str × Addr) → Prop
  | none : Cls n [] []
  | one (y : Str) : Cls n [y] [(y, n)]
theorem cls_of {n : Addr} : ∀ {l : List (Str × NameKind)}, few (cellNames l) = true → Cls n (cellNames l) (cellsFrom n l []) := by
  have key : ∀ (l : List (Str × NameKind)) (n : Nat) (acc : List (Str × Addr)), cellNames l = [] → cellsFrom n l acc = acc := by
    intro l
    induction l with
    | nil => intro _ _ _; rfl
    | cons a l ih =>
      obtain ⟨y, k⟩ := a
      intro n acc h
      cases k <;> first | exact ih n acc h | cases h
  intro l
  induction l with
  | nil => intro _; exact .none
  | cons a l ih =>
    obtain ⟨y, k⟩ := a
    intro h
    cases k with
    | cell =>
      have e : cellNames l = [] := by
        change few (y :: cellNames l) = true at h
        cases q : cellNames l with
        | nil => rfl
        | cons => rw [q] at h; cases h
      show Cls n (y :: cellNames l) (cellsFrom (n + 1) l [(y, n)])
      rw [key l _ _ e, e]
      exact .one y
    | _ => exact ih h
inductive FnObj (c : Cx) (a : Addr) (i : FI) : Prop
  | mk (o : Obj) (fd : FuncData) (f1 : c.K.lookup a = some o) (f2 : o.data = .func fd) (f3 : fd.body = .stmts i.body) (f4 : fd.scope.names = i.nm) (f5 : fd.scope.kind = .function) (f6 : fd.scope.isCoroutine = false) (f7 : fd.scope.isGenerator = false) (f8 : fd.closure = [])
    (f9 : fd.globals = mainGlobals) (f10 : fd.builtins = builtinsNs) (cd : ∃ cd oc vs t, fd.code = .ref cd ∧ c.K.lookup cd = some oc ∧ oc.data = .fields vs ∧ vs[1]? = some (.str fd.qualname t))
    (fb : ∀ vs bs W vals (sh : Shared), binds i.ps vs i.df = some bs → c.K.In sh.heap → (∀ a o, c.h₀.get? a = some o → W.Z a = some o) → VRs W vs vals → ∃ bv, BindsTo sh fd ⟨vals, []⟩ bv ∧ BRs W bs bv)
structure FnOk (c : Cx) (a : Addr) (i : FI) : Prop where
  obj : FnObj c a i
  nodup : i.ps.Nodup
  kinds : ∀ x ∈ i.ps, lk i.nm x = some .local ∨ lk i.nm x = some .cell
  cells : ∀ y ∈ cellNames i.nm, lk i.nm y = some .cell
theorem AOk.in_ {A : Around} {fl : List Addr} {envs : List Env} {d : Nat} {L : Addr} {env : Env} (K : AOk A fl envs (d + 1)) (eF : env.frame = some L) (ek : env.scope.kind = .function) : AOk (A.deeper env) (L :: fl) (env :: envs) d :=
  ⟨K.handled, by have := K.depth; show A.depth + 1 + 3 * d < 900; omega, by have := K.units; show A.units + 3 + 30 * d + 30 < cLine; omega, by show A.frames.map _ = _; rw [K.frames]; rfl, by rw [List.map_cons, List.map_cons, eF, K.fl], fun e m => (List.mem_cons.mp m).elim (fun q => by rw [q, ek]; decide) (K.kinds e)⟩
section
variable {c : Cx} {se : SE} {s : S} {T : Tb} {R : Rec} {p : Pl} {env : Env} {W : Wd} {sh : Shared}
theorem AOk.room {d : Nat} (A : AOk p.A p.fl p.envs d) : p.A.depth < recursionLimit := Nat.lt_of_le_of_lt (Nat.le_add_right _ _) (Nat.lt_trans A.depth (by decide))
structure CIn (c : Cx) (p : Pl) (a : Addr) (i : FI) (d : Nat) (σ : St) (bs : List (Str × SV)) (env : Env) (W : Wd) (h : Heap) (W1 : Wd) (h1 : Heap) : Prop where
  I : Inv c.h₀ p.fl (σ ++ (.loc (bs.filter fun b => isLoc i.nm b.1) :: (cellNames i.nm).map fun x => .cell (lk bs x))) W1 h1
  S : Step p.fl W h W1 h1
  V : EnvOk ⟨p.A.deeper env, h.objs.size :: p.fl, env :: p.envs⟩ ⟨d, a, i.nm, len σ, numb (len σ + 1) (cellNames i.nm), true⟩ env W1
  at' : W1.ρ[len σ]? = some h.objs.size
structure CHas (i : FI) (bs : List (Str × SV)) (W : Wd) (L : Addr) (h1 : Heap) (cl : List (Str × Addr)) : Prop where
  loc : ∃ m, h1.Ns L m ∧ ∀ x s, lk (bs.filter fun b => isLoc i.nm b.1) x = some s → ∃ v, m x = some v ∧ VR W s v
  cell : ∀ y b, cl.lookup y = some b → y ∈ cellNames i.nm → ∃ u, h1.IsCell b u ∧ (lk bs y = none → u = none) ∧ ∀ s, lk bs y = some s → ∃ v, u = some v ∧ VR W s v
theorem call_has {i : FI} {a : Addr} (F : FnOk c a i) {bs : List (Str × SV)} {bv : List (Str × Value)} {L : Addr} {h1 : Heap} {cl : List (Str × Addr)} {kind : Str → Option NameKind} (ek : ∀ x, kind x = lk i.nm x) (nb : bs.map (·.1) = i.ps) (hbr : BRs W bs bv)
    (hn : h1.Ns L (bindL kind bv fun _ => none)) (hc : ∀ y b, cl.lookup y = some b → h1.IsCell b (bindC kind bv (fun _ => none) y)) : CHas i bs W L h1 cl := by
  have ndb : (bs.map (·.1)).Nodup := nb ▸ F.nodup
  refine ⟨⟨_, hn, fun x s hx => ?_⟩, fun y b e m => ⟨_, hc y b e, fun q => bindC_miss _ _ _ _ (hbr.names ▸ lk_none q), fun s q => bindC_get kind hbr _ ndb q (by rw [ek, F.cells y m]; decide)⟩⟩
  obtain ⟨m1, m2⟩ := List.mem_filter.mp (lk_mem hx)
  exact bindL_get kind hbr _ ndb m1 ((ek x).trans (isLoc_ok m2))
theorem ER.ofCell {fl : List Addr} {h : Heap} {b : Addr} {u : Option Value} {x : Option SV} (z : W.Z b = none) (g : h.IsCell b u) (n : x = none → u = none) (k : ∀ s, x = some s → ∃ v, u = some v ∧ VR W s v) : ER W fl h b (.cell x) := by
  cases x with
  | none => rw [n rfl] at g; exact .cellN z g
  | some s => obtain ⟨v, rfl, r⟩ := k s rfl; exact .cell z g r
theorem call_in {i : FI} {a : Addr} {d : Nat} {bs : List (Str × SV)} {h1 : Heap} {cl : List (Str × Addr)} (I : Inv c.h₀ p.fl s.σ W sh.heap) (K : CHas i bs W sh.heap.objs.size h1 cl) (C : Cls (sh.heap.objs.size + 1) (cellNames i.nm) cl)
    (keep : ∀ b o, sh.heap.get? b = some o → h1.get? b = some o) (lt : sh.heap.objs.size < h1.objs.size) (ek : env.scope.kind = .function) (en : env.scope.names = i.nm) (eL : env.locals = sh.heap.objs.size) (eg : env.globals = mainGlobals) (eb : env.builtins = builtinsNs) (eC : env.cells = cl) (eF : env.frame = some sh.heap.objs.size) :
    ∃ W1, CIn c p a i d s.σ bs env W sh.heap W1 h1 := by
  obtain ⟨zL, rL, fL⟩ := I.fresh (Nat.le_refl sh.heap.objs.size)
  obtain ⟨zC, rC, fC⟩ := I.fresh (Nat.le_succ sh.heap.objs.size)
  obtain ⟨⟨m, hn, hm⟩, hc⟩ := K
  have loc : ∀ as, WLe W ⟨W.ρ ++ as, W.Z⟩ → ER ⟨W.ρ ++ as, W.Z⟩ p.fl h1 sh.heap.objs.size (.loc (bs.filter fun b => isLoc i.nm b.1)) := fun as le => .loc zL hn fun x s hx => let ⟨v, e1, e2⟩ := hm x s hx; ⟨v, e1, e2.mono le⟩
  have hat : ∀ as, (W.ρ ++ sh.heap.objs.size :: as)[len s.σ]? = some sh.heap.objs.size := fun as => by rw [len_eq, ← I.len]; simp
  revert hc
  generalize hcn : cellNames i.nm = cn at C
  intro hc
  cases C with
  | none =>
    obtain ⟨I1, S1⟩ := I.pushes (h' := h1) (as := [sh.heap.objs.size]) (es := [.loc (bs.filter fun b => isLoc i.nm b.1)]) rfl (by simp) (fun b m => by rw [List.mem_singleton.mp m]; exact ⟨Nat.le_refl _, lt⟩) (Nat.le_of_lt lt) keep (fun W' eW le j b e hj he => by
      subst eW
      cases j with
      | zero => cases hj; cases he; exact loc _ le
      | succ => exact nn hj)
    exact ⟨_, by rw [hcn]; exact I1, S1, ⟨ek, en, eL ▸ hat _, eg, eb, fun x k e => (by rw [hcn] at e; exact nn e), ⟨_, eF, rfl⟩, fun _ => eL ▸ eF⟩, hat _⟩
  | one y =>
    obtain ⟨u, hu, u1, u2⟩ := hc y (sh.heap.objs.size + 1) (by simp [List.lookup]) (.head _)
    obtain ⟨I1, S1⟩ := I.pushes (h' := h1) (as := [sh.heap.objs.size, sh.heap.objs.size + 1]) (es := [.loc (bs.filter fun b => isLoc i.nm b.1), .cell (lk bs y)]) rfl (by simp) (fun b m => by
        rcases List.mem_cons.mp m with rfl | m
        · exact ⟨Nat.le_refl _, lt⟩
        · rw [List.mem_singleton.mp m]; obtain ⟨o, g, _⟩ := hu; exact ⟨Nat.le_succ _, Heap.lt_size g⟩) (Nat.le_of_lt lt) keep (fun W' eW le j b e hj he => by
      subst eW
      cases j with
      | zero => cases hj; cases he; exact loc _ le
      | succ j => cases j with
        | zero => cases hj; cases he; exact .ofCell zC hu u1 fun s q => let ⟨v, e, r⟩ := u2 s q; ⟨v, e, r.mono le⟩
        | succ => exact nn hj)
    refine ⟨_, by rw [hcn]; exact I1, S1, ⟨ek, en, eL ▸ hat _, eg, eb, fun x k e => ?_, ⟨_, eF, rfl⟩, fun _ => eL ▸ eF⟩, hat _⟩
    rw [hcn] at e
    refine lk_cons (l := []) e (fun e1 e2 => ?_) fun _ h => nn h
    subst e1 e2
    refine ⟨sh.heap.objs.size + 1, by rw [eC]; simp [List.lookup], ?_⟩
    show (W.ρ ++ [sh.heap.objs.size, sh.heap.objs.size + 1])[len s.σ + 1]? = _
    rw [len_eq, ← I.len]; simp
theorem call_body (S : Snd c R) {a : Addr} {i : FI} {d : Nat} {bs : List (Str × SV)} {h1 : Heap} {tk : Nat} {W1 : Wd} {P : List Prop} {o : Oc SV} {Rr : Result → Shared → Prop} (K : CIn c p a i d s.σ bs env W sh.heap W1 h1) (A1 : AOk (p.A.deeper env) (sh.heap.objs.size :: p.fl) (env :: p.envs) d) (eF : env.frame = some sh.heap.objs.size)
    (h : bnd (R.ss ⟨d, a, i.nm, len s.σ, numb (len s.σ + 1) (cellNames i.nm), true⟩ i.body ⟨s.σ ++ (.loc (bs.filter fun b => isLoc i.nm b.1) :: (cellNames i.nm).map fun x => .cell (lk bs x)), s.hs⟩) (fun fl s' => ret (retV fl) ⟨kill (len s.σ) (len (cellNames i.nm) + 1) s'.σ, s'.hs⟩) = some (P, o)) (hp : okL P)
    (z : Post c p VR o W sh (fun v s' => Rr (.ok (.ret v)) s') (fun e s' => Rr (.error e) s')) : codeAny c.M p.A (.func i.body env) Rr { sh with heap := h1, toks := tk } := by
  have I1 := K.I.up (k := len s.σ) (l := bs.filter fun b => isLoc i.nm b.1) K.at' (by rw [len_eq]; simp)
  refine codeAny_func (bndS (p := ⟨p.A.deeper env, sh.heap.objs.size :: p.fl, env :: p.envs⟩) h hp (fun P o h hp => S.ss _ _ _ _ _ h hp ⟨p.A.deeper env, sh.heap.objs.size :: p.fl, env :: p.envs⟩ env _ { sh with heap := h1, toks := tk } A1 K.V I1)
    (fun x q sh2 e X2 R2 => X2.leave A1.frames eF K.S (Nat.le_refl _) fun h'' X3 => by subst q; exact z { sh2 with heap := h'' } e X3 R2) fun _ fv s1 sh2 W2 f h2 p2 S2 I2 R2 r2 => ?_)
  have J := (Inv.down (fl := p.fl) I2 fun b m => List.mem_cons_of_mem _ m).kill (len (cellNames i.nm) + 1) (len s.σ)
  have fin : Step p.fl W sh.heap W2 sh2.heap := K.S.trans (S2.down2 (fun b m => List.mem_cons_of_mem _ m) fun b m => (List.mem_cons.mp m).elim (fun q => .inr (by rw [q]; exact List.mem_of_getElem? K.at')) .inl)
  cases h2
  cases fv with
  | next => subst r2; exact z sh2 W2 _ fin J R2 (.d .none)
  | ret v => obtain ⟨x, rfl, r2⟩ := r2; exact z sh2 W2 _ fin J R2 r2
theorem snd_callF (S : Snd c R) (X : c.K.In c.h₀) (hlim : c.h₀.NoLimit) {a : Addr} {i : FI} (F : FnOk c a i) {d : Nat} {vs : List SV} {P : List Prop} {o : Oc SV} {as : List Value} (h : callF R a i d vs s = some (P, o)) (hp : okL P)
    (A : AOk p.A p.fl p.envs d) (I : Inv c.h₀ p.fl s.σ W sh.heap) (r : VRs W vs as) : ∀ Rr : Result → Shared → Prop, Post c p VR o W sh (fun v s' => Rr (.ok (.ret v)) s') (fun e s' => Rr (.error e) s') → codeAny c.M p.A (.call (.ref a) ⟨as, []⟩) Rr sh := by
  intro Rr z
  cases d with
  | zero => exact nn h
  | succ d =>
  refine uO.r h fun bs h hbs => uW.r h fun h hfew => ?_
  have X' : c.K.In sh.heap := X.keeps I.h0
  have F' := F
  obtain ⟨⟨oa, fd, f1, f2, f3, f4, f5, f6, f7, f8, f9, f10, ⟨cd, oc, cvs, ct, g1, g2, g3, g4⟩, fb⟩, fnd, fki, fce⟩ := F
  obtain ⟨bv, hbt, hbr⟩ := fb vs bs W as sh hbs X' I.base r
  have nb : bs.map (·.1) = i.ps := binds_names hbs
  have C := cls_of (n := sh.heap.objs.size + 1) hfew
  rw [← f4] at C
  have kd : ∀ x, fd.scope.names.lookup x = lk i.nm x := fun x => by rw [f4, lk_lookup]
  refine codeAny_call_function A.room (X' _ _ f1) f2 f6 f7 f3 ⟨cd, oc, cvs, ct, g1, X' _ _ g2, g3, g4⟩ (hbt _ _ _ _ ?_)
  rw [f8]
  refine wpAny_newFunctionEnv_cells f5 (fun x hx => ?_) fun env he s' xx => ?_
  · have hm : x.1 ∈ i.ps := nb ▸ hbr.names ▸ List.mem_map_of_mem hx
    rw [kd]
    refine (fki _ hm).imp id fun q => ⟨q, ?_⟩
    have m : x.1 ∈ cellNames fd.scope.names := f4 ▸ mem_cellNames q
    revert C m
    generalize cellNames fd.scope.names = cn
    generalize cellsFrom (sh.heap.objs.size + 1) fd.scope.names [] = cl
    intro C m
    cases C with
    | none => cases m
    | one y => rw [List.mem_singleton.mp m]; simp [List.lookup]
  · have eL : env.locals = sh.heap.objs.size := by rw [he]; rfl
    have eC : env.cells = cellsFrom (sh.heap.objs.size + 1) fd.scope.names [] := by rw [he]; rfl
    have eF : env.frame = some sh.heap.objs.size := by rw [he]; rfl
    have eS : env.scope = fd.scope := by rw [he]; rfl
    have eg : env.globals = mainGlobals := by rw [he]; exact f9
    have eb : env.builtins = builtinsNs := by rw [he]; exact f10
    clear he
    rw [eL] at xx
    obtain ⟨h1, tk, rfl⟩ := xx.toInCall.same
    have K := call_has F' (cl := env.cells) (fun x => (congrArg (·.names.lookup x) eS).trans (kd x)) nb hbr xx.toInCall.ns fun y b e => xx.cell y b e
    rw [eC] at K
    obtain ⟨W1, K⟩ := call_in (a := a) (d := d) (p := p) I K (f4 ▸ C) xx.toInCall.keep xx.toInCall.ns.lt (eS ▸ f5) (eS ▸ f4) eL eg eb eC eF
    exact ⟨hlim.keeps (h' := h1) fun b o e => xx.toInCall.keep b o (I.h0 b o e), call_body S K (A.in_ eF (eS ▸ f5)) eF h hp z⟩
end
section
variable {h₀ h : Heap} {fl : List Addr} {σ : St} {W : Wd}
theorem not_frame (I : Inv h₀ fl σ W h) {a : Addr} {xs ep d sl} {cl : Value} (g : h.get? a = some ⟨cl, d, .seq xs ep, sl⟩) : a ∉ fl := fun m => by
  obtain ⟨_, o, es, ep', g1, g2, _⟩ := I.stk _ m
  rw [g] at g1; obtain rfl := Option.some.inj g1; cases g2
theorem shut_ok (I : Inv h₀ fl σ W h) {v : SV} {d : Dat × St} {x : Value} (e : shut σ v = some d) (r : VR W v x) :
    ∃ Z', Inv h₀ fl d.2 ⟨W.ρ, Z'⟩ h ∧ Step fl W h ⟨W.ρ, Z'⟩ h ∧ VD Z' d.1 x := by
  cases v with
  | d y => cases e; exact ⟨W.Z, I, .refl .., r.di⟩
  | lst k =>
    refine uL.r (o := .lst k) (σ := σ) (k := fun k l => some (Dat.lst false l, σ.set k .dead)) (G := fun x => ∃ Z', Inv h₀ fl d.2 ⟨W.ρ, Z'⟩ h ∧ Step fl W h ⟨W.ρ, Z'⟩ h ∧ VD Z' d.1 x) e I r fun k l a xs ep e hr zz g vs => ?_
    cases e
    obtain ⟨J, S⟩ := I.freeze hr g zz (not_frame I g)
    exact ⟨_, J, S, .lst (zput_self ..) (vs.mono (zput_le zz))⟩
  | _ => exact nn e
theorem shuts_ok : ∀ {l : List (Str × SV)} {es : List DictEntry} {σ : St} {W : Wd} {q : List (Str × Dat) × St}, Inv h₀ fl σ W h → shuts σ l = some q → VRf W l es →
    ∃ Z', Inv h₀ fl q.2 ⟨W.ρ, Z'⟩ h ∧ Step fl W h ⟨W.ρ, Z'⟩ h ∧ VDf Z' q.1 es := by
  intro l
  induction l with
  | nil => intro es σ W q I e r; cases e; cases r; exact ⟨W.Z, I, .refl .., .nil⟩
  | cons y l ih =>
    obtain ⟨x, v⟩ := y
    intro es σ W q I e r
    cases r with
    | cons a b =>
      refine uO.r e fun d e h1 => uO.r e fun l' e h2 => ?_
      cases e
      obtain ⟨Z1, I1, S1, r1⟩ := shut_ok I h1 a
      obtain ⟨Z2, I2, S2, r2⟩ := ih I1 h2 (b.mono S1.le)
      exact ⟨Z2, I2, S1.trans S2, .cons (r1.mono S2.Z) r2⟩
theorem uFl.r {γ : Type} {g : γ} {i : Nat} {a : Addr} {k : List (Str × SV) → Option γ} {B : Prop} (e : uFl σ i k = some g) (I : Inv h₀ fl σ W h) (ha : W.ρ[i]? = some a)
    (H : ∀ l es n, k l = some g → W.Z a = none → a ∉ fl → h.get? a = some (dictOf es n) → VRf W l es → B) : B := by
  unfold uFl at e
  cases q : nth σ i with
  | none => rw [q] at e; exact nn e
  | some en =>
    rw [q] at e
    cases en with
    | flds l => obtain ⟨es, n, z, f, g, v, -⟩ := (I.at q ha).fi; exact H l es n e z f g v
    | _ => exact nn e
end
structure CkOk (c : Cx) (C : Addr) (i : CI) : Prop where
  make : makesIn c.K C = true
  init : findIn c.K (.ref C) "__init__" = some (some (.ref i.ini))
  fn : typeIn c.K (.ref i.ini) = some (.type "function")
section
variable {c : Cx} {se : SE} {s : S} {T : Tb} {R : Rec} {p : Pl} {env : Env} {W : Wd} {sh : Shared}
theorem AOk.make {d : Nat} {C : Addr} {as : List Value} (A : AOk p.A p.fl p.envs (d + 1)) : AOk (p.A.under (.builtin "type.__call__" ⟨.ref C :: as, []⟩)) p.fl p.envs d := by
  obtain ⟨a1, a2, a3, a4, a5, a6⟩ := A
  have e1 : (Code.builtin "type.__call__" ⟨.ref C :: as, []⟩).weight ≤ 1 := Nat.le_of_ble_eq_true rfl
  have e2 : (Code.builtin "type.__call__" ⟨.ref C :: as, []⟩).cUnits ≤ 4 := Nat.le_of_ble_eq_true rfl
  exact ⟨a1, by show p.A.depth + _ + 3 * d < 900; omega, by show p.A.units + _ + 30 * d + 30 < cLine; omega, a4, a5, a6⟩
theorem mk_end {C : Addr} {l0 : Nat} {sld : Bool} {x dx : Addr} {P : List Prop} {o : Oc SV} {Q : Value → Shared → Prop} {E : Value → Shared → Prop}
    (h : (match sld with | false => ret (.inst C l0) s | true => uFl s.σ l0 fun l => uO (shuts s.σ l) fun q => uFl q.2 l0 fun _ => ret (.d (.inst C q.1)) ⟨q.2.set l0 .dead, s.hs⟩) = some (P, o)) (z : Post c p VR o W sh Q E) (I : Inv c.h₀ p.fl s.σ W sh.heap)
    (g : W.Z x = some ⟨.ref C, some dx, .plain, #[]⟩) (hr : W.ρ[l0]? = some dx) : Q (.ref x) sh := by
  cases sld with
  | false => exact z.ret h I (.inst g hr)
  | true =>
    refine uFl.r h I hr fun l es n h zz nf g2 v => uO.r h fun q h hs => ?_
    obtain ⟨Z4, I4, S4, r4⟩ := shuts_ok I hs v
    refine uFl.r h I4 hr fun l' es' n' h zz' nf' g2' v' => ?_
    obtain ⟨J, S5⟩ := I4.freeze hr g2 zz' nf
    cases h
    exact z sh _ _ (S4.trans S5) J (.refl _) (.d (.inst (S5.Z _ _ (S4.Z _ _ g)) (zput_self ..) (r4.mono (zput_le zz'))))
theorem mk_in {C : Addr} {H : Heap} (I : Inv c.h₀ p.fl s.σ W H) : ∃ W1, Inv c.h₀ p.fl (s.σ ++ [.flds []]) W1 ((H.push emptyDict).push (instObj C H.objs.size)) ∧ Step p.fl W H W1 ((H.push emptyDict).push (instObj C H.objs.size)) ∧
    W1.ρ[len s.σ]? = some H.objs.size ∧ W1.Z (H.objs.size + 1) = some ⟨.ref C, some H.objs.size, .plain, #[]⟩ := by
  have k1 : ∀ b o, H.get? b = some o → (H.push emptyDict).get? b = some o := fun b o e => Heap.get?_push_of_some _ e
  obtain ⟨dz, -, df⟩ := I.fresh (Nat.le_refl H.objs.size)
  obtain ⟨I1, S1⟩ := I.push (h' := H.push emptyDict) (e := .flds []) (a := H.objs.size) (Nat.le_refl _) (by rw [Heap.size_push]; exact Nat.lt_succ_self _) k1
    (fun W' e le => .flds (n := 0) (e ▸ dz) df (Heap.get?_push_size _ rfl) .nil (Nat.zero_le _))
  have hx : ((H.push emptyDict).push (instObj C H.objs.size)).get? (H.objs.size + 1) = some ⟨.ref C, some H.objs.size, .plain, #[]⟩ := by
    have := Heap.get?_push_size (H.push emptyDict) (o := instObj C H.objs.size) rfl
    rwa [Heap.size_push] at this
  obtain ⟨I2, S2⟩ := I1.cold (h' := (H.push emptyDict).push (instObj C H.objs.size)) (a := H.objs.size + 1) (by rw [Heap.size_push]; exact Nat.le_refl _) hx (fun b o e => Heap.get?_push_of_some _ e) (by rw [Heap.size_push (H.push emptyDict)]; exact Nat.le_succ _)
  exact ⟨_, I2, S1.trans S2, by rw [len_eq, ← I.len]; simp, zput_self ..⟩
theorem snd_mk (S : Snd c R) (X : c.K.In c.h₀) (hlim : c.h₀.NoLimit) {C : Addr} {i : CI} {fi : FI} (F : FnOk c i.ini fi) (Ck : CkOk c C i) {d : Nat} {vs : List SV} {P : List Prop} {o : Oc SV} {as : List Value} (h : mk R C i fi d vs s = some (P, o)) (hp : okL P)
    (A : AOk p.A p.fl p.envs d) (I : Inv c.h₀ p.fl s.σ W sh.heap) (r : VRs W vs as) : ∀ Rr : Result → Shared → Prop, Post c p VR o W sh (fun v s' => Rr (.ok (.ret v)) s') (fun e s' => Rr (.error e) s') → codeAny c.M p.A (.call (.ref C) ⟨as, []⟩) Rr sh := by
  intro Rr z
  cases d with
  | zero => exact nn h
  | succ d =>
  have X' : c.K.In sh.heap := X.keeps I.h0
  obtain ⟨H, G, D, TK, OS⟩ := sh
  obtain ⟨W1, I2, S12, hk, hx⟩ := mk_in (C := C) I
  refine make_core (makes_of (M := c.M) X' Ck.make) (looks_findIn X' Ck.init) (fun self => bind_fn X' self Ck.fn) (.inl (by simp)) ?_
  rcases bnd_inv h hp with ⟨P1, x, h1, p1, rfl⟩ | ⟨P1, v, s1, P2, h1, p1, h2, p2⟩
  · exact snd_callF (p := ⟨p.A.under (.builtin "type.__call__" ⟨.ref C :: as, []⟩), p.fl, p.envs⟩) (sh := ⟨(H.push emptyDict).push (instObj C H.objs.size), G, D, TK, OS⟩) S X hlim F h1 p1 A.make I2 (.cons (.inst hx hk) (r.mono S12.le)) _ fun sh' e X2 R2 => z sh' e (X2.back S12) R2
  · refine snd_callF (p := ⟨p.A.under (.builtin "type.__call__" ⟨.ref C :: as, []⟩), p.fl, p.envs⟩) (sh := ⟨(H.push emptyDict).push (instObj C H.objs.size), G, D, TK, OS⟩) S X hlim F h1 p1 A.make I2 (.cons (.inst hx hk) (r.mono S12.le)) _ fun sh3 W3 va S3 I3 R3 r3 => uW.r h2 fun h2 hn => ?_
    refine ⟨isNone.r (G := fun v => v = .none) hn r3 rfl, ?_⟩
    exact mk_end (Q := fun v s' => Rr (.ok (.ret v)) s') h2 (z.after (s' := sh3) (S12.trans S3) R3) I3 (S3.Z _ _ hx) (S3.le.at hk)
end
theorem posOf_get {k n : Nat} {ix : List Nat} (h : posOf k ix = some n) : ix[n]? = some k := by
  induction ix generalizing n with
  | nil => exact nn h
  | cons a l ih =>
    exact ifC h (fun q h => by cases h; exact congrArg some (Nat.eq_of_beq_eq_true q)) fun _ h => uO.r h fun m h q => by cases h; exact ih q
theorem memK_not {k : Nat} {ix : List Nat} (h : memK k ix = false) : k ∉ ix := by
  induction ix with
  | nil => exact fun m => nomatch m
  | cons a l ih =>
    obtain ⟨x, y⟩ := Bool.or_eq_false_iff.mp h
    exact fun m => (List.mem_cons.mp m).elim (fun e => by rw [e, Nat.beq_refl] at x; cases x) (ih y)
theorem nodup_of {ix : List Nat} (h : nodup ix = true) : ix.Nodup := by
  induction ix with
  | nil => exact .nil
  | cons k l ih =>
    obtain ⟨x, y⟩ := andT h
    exact List.nodup_cons.mpr ⟨memK_not ((Bool.not_eq_true' _).mp x), ih y⟩
theorem got {γ : Type} {a b : γ} {P : γ → Prop} (h : some a = some b) (p : P a) : P b := Option.some.inj h ▸ p
section
variable {W Ws : Wd} {ix : List Nat}
structure Sml (W : Wd) (ix : List Nat) (Ws : Wd) : Prop where
  ρ : ∀ (n k : Nat) (a : Addr), ix[n]? = some k → W.ρ[k]? = some a → Ws.ρ[n]? = some a
  Z : Ws.Z = W.Z
theorem shrV_ok (M : Sml W ix Ws) {v v' : SV} {x : Value} (h : shrV ix v = some v') (r : VR W v x) : VR Ws v' x :=
  VR.rec (motive_1 := fun v x _ => ∀ v', shrV ix v = some v' → VR Ws v' x) (motive_2 := fun l xs _ => ∀ l', shrVs ix l = some l' → VRs Ws l' xs)
    (fun a _ h => got (P := fun v => VR Ws v _) h (.d (M.Z ▸ a))) (fun g hr _ h => uO.r h fun _ h q => got (P := fun v => VR Ws v _) h (.inst (M.Z ▸ g) (M.ρ _ _ _ (posOf_get q) hr)))
    (fun hr _ h => uO.r h fun _ h q => got (P := fun v => VR Ws v _) h (.lst (M.ρ _ _ _ (posOf_get q) hr))) (fun g _ ih _ h => uO.r h fun _ h q => got (P := fun v => VR Ws v _) h (.tup (M.Z ▸ g) (ih _ q)))
    (fun _ h => got (P := fun v => VRs Ws v _) h .nil) (fun _ _ i1 i2 _ h => uO.r h fun _ h q => uO.r h fun _ h q' => got (P := fun v => VRs Ws v _) h (.cons (i1 _ q) (i2 _ q'))) r v' h
theorem shrVs_ok (M : Sml W ix Ws) {v v' : List SV} {x : List Value} (h : shrVs ix v = some v') (r : VRs W v x) : VRs Ws v' x :=
  VRs.ind (M := fun v x => ∀ {v'}, shrVs ix v = some v' → VRs Ws v' x) (fun h => got (P := fun v => VRs Ws v _) h .nil) (fun a _ ih _ h => uO.r h fun _ h q => uO.r h fun _ h q' => got (P := fun v => VRs Ws v _) h (.cons (shrV_ok M q a) (ih q'))) r h
theorem shrF_ok (M : Sml W ix Ws) {l l' : List (Str × SV)} {es : List DictEntry} (h : shrF ix l = some l') (r : VRf W l es) : VRf Ws l' es := by
  induction r generalizing l' with
  | nil => exact got (P := fun v => VRf Ws v _) h .nil
  | cons a _ ih => exact uO.r h fun _ h q => uO.r h fun _ h q' => got (P := fun v => VRf Ws v _) h (.cons (shrV_ok M q a) (ih q'))
theorem shrE_ok (M : Sml W ix Ws) {e e' : En} {fl : List Addr} {h : Heap} {a : Addr} (q : shrE ix e = some e') (r : ER W fl h a e) : ER Ws fl h a e' := by
  revert q
  cases r with
  | flds z nf g v le => exact fun q => uO.r q fun _ q q' => got (P := ER Ws fl h a) q (.flds (M.Z ▸ z) nf g (shrF_ok M q' v) le)
  | lst z g v => exact fun q => got (P := ER Ws fl h a) q (.lst (M.Z ▸ z) g (M.Z ▸ v))
  | _ => exact fun q => nn q
theorem shrS_len {σ : St} {l : List Nat} {σ' : St} (h : shrS ix σ l = some σ') : σ'.length = l.length := by
  induction l generalizing σ' with
  | nil => exact got (P := fun s => s.length = ([] : List Nat).length) h rfl
  | cons k l ih => exact uO.r h fun _ h _ => uO.r h fun _ h _ => uO.r h fun _ h q => got (P := fun s => s.length = _) h (congrArg (· + 1) (ih q))
theorem shrS_get {σ : St} {l : List Nat} {σ' : St} {i : Nat} {e' : En} (h : shrS ix σ l = some σ') (q : σ'[i]? = some e') : ∃ k e, l[i]? = some k ∧ nth σ k = some e ∧ shrE ix e = some e' := by
  induction l generalizing σ' i with
  | nil => cases h; exact nn q
  | cons k l ih =>
    refine uO.r h fun e h he => uO.r h fun a h ha => uO.r h fun r h hr => ?_
    cases h
    cases i with
    | zero => cases q; exact ⟨k, e, rfl, he, ha⟩
    | succ i => exact ih hr q
theorem shrS_in {σ : St} {l : List Nat} {σ' : St} (h : shrS ix σ l = some σ') (k : Nat) (m : k ∈ l) : k < σ.length := by
  induction l generalizing σ' with
  | nil => exact nomatch m
  | cons j l ih => exact uO.r h fun e h he => uO.r h fun _ h _ => uO.r h fun _ h q => (List.mem_cons.mp m).elim (fun e => e ▸ (List.getElem?_eq_some_iff.mp ((nth_eq ..).symm.trans he)).1) (ih q)
end
structure Big (Ws : Wd) (ix : List Nat) (n m : Nat) (Wb : Wd) : Prop where
  ρ : ∀ (k : Nat) (a : Addr), Ws.ρ[k]? = some a → Wb.ρ[toBig ix n m k]? = some a
  Z : Wb.Z = Ws.Z
section
variable {Ws Wb : Wd} {ix : List Nat} {n m : Nat}
theorem grwV_ok (B : Big Ws ix n m Wb) {v : SV} {x : Value} (r : VR Ws v x) : VR Wb (grwV ix n m v) x :=
  VR.rec (motive_1 := fun v x _ => VR Wb (grwV ix n m v) x) (motive_2 := fun l xs _ => VRs Wb (grwVs ix n m l) xs)
    (fun a => .d (B.Z ▸ a)) (fun g hr => .inst (B.Z ▸ g) (B.ρ _ _ hr)) (fun hr => .lst (B.ρ _ _ hr)) (fun g _ ih => .tup (B.Z ▸ g) ih) .nil (fun _ _ a b => .cons a b) r
theorem grwF_ok (B : Big Ws ix n m Wb) {l : List (Str × SV)} {es : List DictEntry} (r : VRf Ws l es) : VRf Wb (grwF ix n m l) es := by
  induction r with
  | nil => exact .nil
  | cons a _ ih => exact .cons (grwV_ok B a) ih
theorem grwE_ok (B : Big Ws ix n m Wb) {e e' : En} {fl : List Addr} {h : Heap} {a : Addr} (q : grwE ix n m e = some e') (r : ER Ws fl h a e) : ER Wb fl h a e' := by
  revert q
  cases r with
  | flds z nf g v le => exact fun q => got (P := ER Wb fl h a) q (.flds (B.Z ▸ z) nf g (grwF_ok B v) le)
  | lst z g v => exact fun q => got (P := ER Wb fl h a) q (.lst (B.Z ▸ z) g (B.Z ▸ v))
  | dead => exact fun q => got (P := ER Wb fl h a) q .dead
  | _ => exact fun q => nn q
theorem grwS_len {σ σ' : St} (h : grwS ix n m σ = some σ') : σ'.length = σ.length := by
  induction σ generalizing σ' with
  | nil => exact got (P := fun s => s.length = ([] : St).length) h rfl
  | cons e l ih => exact uO.r h fun _ h _ => uO.r h fun _ h q => got (P := fun s => s.length = _) h (congrArg (· + 1) (ih q))
theorem grwS_get {σ σ' : St} {i : Nat} {e' : En} (h : grwS ix n m σ = some σ') (q : σ'[i]? = some e') : ∃ e, σ[i]? = some e ∧ grwE ix n m e = some e' := by
  induction σ generalizing σ' i with
  | nil => cases h; exact nn q
  | cons e l ih =>
    refine uO.r h fun a h ha => uO.r h fun r h hr => ?_
    cases h
    cases i with
    | zero => cases q; exact ⟨e, rfl, ha⟩
    | succ i => exact ih hr q
end
theorem setAll_len (ix : List Nat) (l σ : St) : (setAll ix l σ).length = σ.length := by
  induction ix generalizing l σ with
  | nil => rfl
  | cons k ix ih => cases l with
    | nil => rfl
    | cons e l => exact (ih l _).trans List.length_set
theorem setAll_out {i : Nat} (ix : List Nat) (l σ : St) (h : i ∉ ix) : (setAll ix l σ)[i]? = σ[i]? := by
  induction ix generalizing l σ with
  | nil => rfl
  | cons k ix ih => cases l with
    | nil => rfl
    | cons e l => exact (ih l _ fun m => h (.tail _ m)).trans (List.getElem?_set_ne fun q => h (by rw [q]; exact .head _))
theorem setAll_in (ix : List Nat) (l σ : St) (i j : Nat) (nd : ix.Nodup) (hj : ix[j]? = some i) (hl : ix.length = l.length) (hi : i < σ.length) : (setAll ix l σ)[i]? = l[j]? := by
  induction ix generalizing l σ j with
  | nil => exact nn hj
  | cons k ix ih => cases l with
    | nil => exact nomatch hl
    | cons e l => cases j with
      | zero =>
        cases hj
        exact (setAll_out ix l _ (List.nodup_cons.mp nd).1).trans (List.getElem?_set_self hi)
      | succ j => exact ih l (σ.set k e) j (List.nodup_cons.mp nd).2 hj (Nat.succ.inj hl) (by rw [List.length_set]; exact hi)
noncomputable def CallOk (c : Cx) (n : Nat) (f : Addr) (vs : List SV) (σ : St) (r : CR) : Prop :=
  ∀ (p : Pl) W sh as, AOk p.A p.fl p.envs n → Inv c.h₀ p.fl σ W sh.heap → VRs W vs as → ∀ Rr : Result → Shared → Prop,
    (match r with
      | .ok v σ' => ∀ sh' W' x, Step p.fl W sh.heap W' sh'.heap → Inv c.h₀ p.fl σ' W' sh'.heap → Rest sh sh' → VR W' v x → Rr (.ok (.ret x)) sh'
      | .exc x => ∀ sh' e, Exd p.envs p.fl W sh.heap x e sh'.heap → Rest sh sh' → Rr (.error e) sh') → codeAny c.M p.A (.call (.ref f) ⟨as, []⟩) Rr sh
section
variable {c : Cx} {T : Tb} {p : Pl} {W : Wd} {sh : Shared}
theorem ixρ {W : Wd} {ix : List Nat} {n : Nat} (hl : W.ρ.length = n) (hin : ∀ k ∈ ix, k < n) : ∃ as : List Addr, as.length = ix.length ∧ ∀ (i k : Nat) (a : Addr), ix[i]? = some k → W.ρ[k]? = some a → as[i]? = some a := by
  induction ix with
  | nil => exact ⟨[], rfl, fun i k a h => by cases h⟩
  | cons k ix ih =>
    obtain ⟨as, h1, h2⟩ := ih fun j m => hin j (.tail _ m)
    have hk : k < W.ρ.length := hl ▸ hin k (.head _)
    refine ⟨W.ρ[k] :: as, by simp [h1], fun i j a hi ha => ?_⟩
    cases i with
    | zero => cases hi; rw [List.getElem?_eq_getElem hk] at ha; exact ha
    | succ i => exact h2 i j a hi ha
structure SmlOk (W : Wd) (σ : St) (ix : List Nat) (ra : List Addr) : Prop where
  len : ra.length = ix.length
  to : ∀ (n k : Nat) (a : Addr), ix[n]? = some k → W.ρ[k]? = some a → ra[n]? = some a
  at' : ∀ (i : Nat) (a : Addr), ra[i]? = some a → ∃ k, ix[i]? = some k ∧ W.ρ[k]? = some a
  nd : ra.Nodup
theorem SmlOk.mem {σ : St} {ix : List Nat} {ra : List Addr} (M : SmlOk W σ ix ra) {a : Addr} (m : a ∈ ra) : a ∈ W.ρ := by
  obtain ⟨i, hi⟩ := List.getElem?_of_mem m
  obtain ⟨k, _, e⟩ := M.at' i a hi
  exact List.mem_of_getElem? e
theorem SmlOk.sml {σ : St} {ix : List Nat} {ra : List Addr} (M : SmlOk W σ ix ra) : Sml W ix ⟨ra, W.Z⟩ := ⟨M.to, rfl⟩
theorem sml_of {σ : St} {h₀ h : Heap} {fl : List Addr} {ix : List Nat} (I : Inv h₀ fl σ W h) (nd : ix.Nodup) (hin : ∀ k ∈ ix, k < σ.length) : ∃ ra, SmlOk W σ ix ra := by
  obtain ⟨ra, l1, l2⟩ := ixρ I.len hin
  have at_ : ∀ (i : Nat) (a : Addr), ra[i]? = some a → ∃ k, ix[i]? = some k ∧ W.ρ[k]? = some a := fun i a e => by
    have hi : i < ix.length := by rw [← l1]; exact (List.getElem?_eq_some_iff.mp e).1
    have e1 : ix[i]? = some ix[i] := List.getElem?_eq_getElem hi
    have hk : ix[i] < W.ρ.length := I.len ▸ hin _ (List.getElem_mem hi)
    have e2 : W.ρ[ix[i]]? = some W.ρ[ix[i]] := List.getElem?_eq_getElem hk
    exact ⟨_, e1, e2.trans ((l2 _ _ _ e1 e2).symm.trans e)⟩
  refine ⟨ra, l1, l2, at_, ?_⟩
  rw [List.Nodup, List.pairwise_iff_getElem]
  intro i j hi' hj hij e
  obtain ⟨k1, a1, b1⟩ := at_ i _ (List.getElem?_eq_getElem hi')
  obtain ⟨k2, a2, b2⟩ := at_ j _ (List.getElem?_eq_getElem hj)
  rw [e] at b1
  have := (List.getElem?_inj (List.getElem?_eq_some_iff.mp b1).1 I.nodup).mp (b1.trans b2.symm)
  exact Nat.ne_of_lt hij ((List.getElem?_inj (List.getElem?_eq_some_iff.mp a1).1 nd).mp (a1.trans (this ▸ a2.symm)))
theorem sml_inv {σ σ' : St} {h₀ h : Heap} {fl : List Addr} {ix : List Nat} {ra : List Addr} (I : Inv h₀ fl σ W h) (M : SmlOk W σ ix ra) (hσ : shrS ix σ ix = some σ') : Inv h₀ fl σ' ⟨ra, W.Z⟩ h :=
  ⟨I.base, I.zk, M.len.trans (shrS_len hσ).symm, M.nd, fun a m => I.low a (M.mem m), fun i e q => by
    obtain ⟨k, e0, e1, e2, e3⟩ := shrS_get hσ q
    rw [nth_eq] at e2
    obtain ⟨a, e4, e5⟩ := I.ent k e0 e2
    exact ⟨a, M.to _ _ _ e1 e4, shrE_ok M.sml e3 e5⟩, I.frz, I.stk, I.gr⟩
theorem sml_exd {σ : St} {ix : List Nat} {ra : List Addr} (M : SmlOk W σ ix ra) {envs : List Env} {fl : List Addr} {h h' : Heap} {x : Exn} {e : Value} (X : Exd envs fl ⟨ra, W.Z⟩ h x e h') : Exd envs fl W h x e h' := by
  obtain ⟨⟨ea, base, dx, es, n, q1, q2, q3, q4, q5, q6⟩, y1, y2, y3⟩ := X
  exact ⟨⟨ea, base, dx, es, n, q1, q2, q3, q4, q5, fun b o g rr f => q6 b o g (fun m => rr (M.mem m)) f⟩, fun b o g rr f => y1 b o g (fun m => rr (M.mem m)) f, y2, y3⟩
theorem sml_big {σ : St} {ix : List Nat} {ra t : List Addr} {Ws : Wd} (M : SmlOk W σ ix ra) (hl : W.ρ.length = σ.length) (et : Ws.ρ = ra ++ t) : Big Ws ix (len σ) (len ix) ⟨W.ρ ++ t, Ws.Z⟩ := ⟨fun k a e => by
  show (W.ρ ++ t)[toBig ix (len σ) (len ix) k]? = some a
  unfold toBig
  rw [nth_eq]
  by_cases hk : k < ix.length
  · rw [List.getElem?_eq_getElem hk]
    rw [et, List.getElem?_append_left (by rw [M.len]; exact hk)] at e
    obtain ⟨j, e1, e2⟩ := M.at' k a e
    rw [List.getElem?_eq_getElem hk] at e1
    cases e1
    exact (List.getElem?_append_left (List.getElem?_eq_some_iff.mp e2).1).trans e2
  · rw [List.getElem?_eq_none (Nat.not_lt.mp hk)]
    rw [et, List.getElem?_append_right (by rw [M.len]; exact Nat.not_lt.mp hk)] at e
    show (W.ρ ++ t)[len σ + (k - len ix)]? = some a
    rw [len_eq, len_eq, ← hl, List.getElem?_append_right (Nat.le_add_right _ _), Nat.add_sub_cancel_left, ← M.len]; exact e, rfl⟩
theorem no_cell {h₀ h : Heap} {fl : List Addr} {σ : St} (I : Inv h₀ fl σ W h) {a : Addr} {u : Option Value} (g : h.IsCell a u) : a ∉ fl := fun hf => by
  obtain ⟨o, g, gd⟩ := g
  obtain ⟨_, o', es, ep, g1, g2, _⟩ := I.stk a hf
  exact nomatch (g2.symm.trans ((congrArg Obj.data (Option.some.inj (g1.symm.trans g))).trans gd))
theorem sml_kept {h₀ h h' : Heap} {fl : List Addr} {σ : St} {ra : List Addr} {Ws Wb : Wd} (I : Inv h₀ fl σ W h) (S1 : Step fl ⟨ra, W.Z⟩ h Ws h') (le : WLe W Wb) (ez : Wb.Z = Ws.Z) {a : Addr} (na : a ∉ ra) (ha : a < h.objs.size) {e : En} (r : ER W fl h a e) : ER Wb fl h' a e := by
  have zz : W.Z a = none → Wb.Z a = none := fun zn => by
    rw [ez]
    cases q : Ws.Z a with
    | none => rfl
    | some o => exact (S1.new a o q).elim (fun q => nomatch zn.symm.trans q) fun q => q.elim (fun q => absurd q na) fun q => absurd ha (Nat.not_lt.mpr q)
  cases r with
  | loc zn ns m =>
    refine .loc (zz zn) ?_ fun x s e => let ⟨v, q, r⟩ := m x s e; ⟨v, q, r.mono le⟩
    by_cases hf : a ∈ fl
    · obtain ⟨o, es, ep, g, gd, gr⟩ := ns
      obtain ⟨sl, hs⟩ := S1.slots a o g na hf
      exact ⟨_, es, ep, hs, gd, gr⟩
    · exact ns.at' fun o g => S1.keep a o g na hf
  | flds zn nf g v le' => exact .flds (zz zn) nf (S1.keep a _ g na nf) (v.mono le) le'
  | lst zn g v => exact .lst (zz zn) (S1.keep a _ g na (not_frame I g)) (v.mono le.Z)
  | cellN zn g => have n := no_cell I g; obtain ⟨o, g, gd⟩ := g; exact .cellN (zz zn) ⟨o, S1.keep a _ g na n, gd⟩
  | cell zn g v => have n := no_cell I g; obtain ⟨o, g, gd⟩ := g; exact .cell (zz zn) ⟨o, S1.keep a _ g na n, gd⟩ (v.mono le)
  | dead => exact .dead
theorem big_inv {h₀ h h' : Heap} {fl : List Addr} {σ σ'' all : St} {ix : List Nat} {ra t : List Addr} {Ws : Wd} (I : Inv h₀ fl σ W h) (M : SmlOk W σ ix ra) (nd : ix.Nodup) (hin : ∀ k ∈ ix, k < σ.length) (S1 : Step fl ⟨ra, W.Z⟩ h Ws h') (I1 : Inv h₀ fl σ'' Ws h') (et : Ws.ρ = ra ++ t) (lt : ∀ a ∈ t, h.objs.size ≤ a)
    (hall : grwS ix (len σ) (len ix) σ'' = some all) : Inv h₀ fl (setAll ix (all.take (len ix)) σ ++ all.drop (len ix)) ⟨W.ρ ++ t, Ws.Z⟩ h' ∧ Step fl W h ⟨W.ρ ++ t, Ws.Z⟩ h' := by
  have hal : all.length = ix.length + t.length := by rw [grwS_len hall, ← I1.len, et, List.length_append, M.len]
  have B := sml_big M I.len et
  have Sb : Step fl W h ⟨W.ρ ++ t, Ws.Z⟩ h' := ⟨⟨t, rfl, lt⟩, S1.Z, fun a o e => (S1.new a o e).imp id (Or.imp M.mem id), fun b o e rr f => S1.keep b o e (fun m => rr (M.mem m)) f, fun b o e rr f => S1.slots b o e (fun m => rr (M.mem m)) f, S1.size⟩
  have ent : ∀ (i : Nat) (e : En), all[i]? = some e → ∃ a, (W.ρ ++ t)[toBig ix (len σ) (len ix) i]? = some a ∧ ER ⟨W.ρ ++ t, Ws.Z⟩ fl h' a e := fun i e q => by
    obtain ⟨e0, q1, q2⟩ := grwS_get hall q
    obtain ⟨a, a1, a2⟩ := I1.ent i e0 q1
    exact ⟨a, B.ρ _ _ a1, grwE_ok B q2 a2⟩
  refine ⟨⟨I1.base, I1.zk, ?_, ?_, fun a m => ?_, fun i e q => ?_, I1.frz, I1.stk, I1.gr⟩, Sb⟩
  · show (W.ρ ++ t).length = _
    rw [List.length_append, List.length_append, setAll_len, I.len, List.length_drop, len_eq, hal, Nat.add_sub_cancel_left]
  · refine List.nodup_append.mpr ⟨I.nodup, ?_, fun a m b m' => ?_⟩
    · have := I1.nodup; rw [et] at this; exact (List.nodup_append.mp this).2.1
    · rintro rfl; exact absurd (I.low a m).2 (Nat.not_lt.mpr (lt a m'))
  · exact (List.mem_append.mp m).elim (fun m => ⟨(I.low a m).1, Nat.lt_of_lt_of_le (I.low a m).2 S1.size⟩) fun m => I1.low a (by rw [et]; exact List.mem_append_right _ m)
  · have ltk : (all.take (len ix)).length = ix.length := by rw [List.length_take, len_eq, hal, Nat.min_eq_left (Nat.le_add_right _ _)]
    by_cases hi : i < σ.length
    · rw [List.getElem?_append_left (by rw [setAll_len]; exact hi)] at q
      by_cases hm : i ∈ ix
      · obtain ⟨j, hj⟩ := List.getElem?_of_mem hm
        have hjl : j < ix.length := (List.getElem?_eq_some_iff.mp hj).1
        rw [setAll_in ix _ _ i j nd hj ltk.symm hi, List.getElem?_take_of_lt (by rw [len_eq]; exact hjl)] at q
        obtain ⟨a, a1, a2⟩ := ent j e q
        rw [show toBig ix (len σ) (len ix) j = i from by unfold toBig; rw [nth_eq, hj]] at a1
        exact ⟨a, a1, a2⟩
      · rw [setAll_out ix _ _ hm] at q
        obtain ⟨a, x, r⟩ := I.ent i e q
        refine ⟨a, Sb.le.at x, sml_kept I S1 Sb.le rfl (fun m => hm ?_) (I.low a (List.mem_of_getElem? x)).2 r⟩
        obtain ⟨j, hj⟩ := List.getElem?_of_mem m
        obtain ⟨k, k1, k2⟩ := M.at' j a hj
        rw [← (List.getElem?_inj (List.getElem?_eq_some_iff.mp k2).1 I.nodup).mp (k2.trans x.symm)]
        exact List.mem_of_getElem? k1
    · rw [List.getElem?_append_right (by rw [setAll_len]; exact Nat.not_lt.mp hi), setAll_len, List.getElem?_drop] at q
      obtain ⟨a, a1, a2⟩ := ent _ e q
      rw [show toBig ix (len σ) (len ix) (len ix + (i - σ.length)) = i from by unfold toBig; rw [nth_eq, List.getElem?_eq_none (by rw [len_eq]; exact Nat.le_add_right _ _)]; dsimp only; rw [Nat.add_sub_cancel_left, len_eq]; exact Nat.add_sub_of_le (Nat.not_lt.mp hi)] at a1
      exact ⟨a, a1, a2⟩
theorem snd_byC (hCK : ∀ n f vs σ r, T.CK n f vs σ r → CallOk c n f vs σ r) {d : Nat} {f : Addr} {vs : List SV} {s : S} {P : List Prop} {o : Oc SV} {as : List Value} (h : byC T d f vs s = some (P, o)) (hp : okL P)
    (A : AOk p.A p.fl p.envs d) (I : Inv c.h₀ p.fl s.σ W sh.heap) (r : VRs W vs as) : ∀ Rr : Result → Shared → Prop, Post c p VR o W sh (fun v s' => Rr (.ok (.ret v)) s') (fun e s' => Rr (.error e) s') → codeAny c.M p.A (.call (.ref f) ⟨as, []⟩) Rr sh := by
  intro Rr z
  refine hC.r h fun ix n cr hs h => uW.r h fun h hn => uW.r h fun h hnd => uO.r h fun vs' h hvs => uO.r h fun σ' h hσ => ?_
  have nd := nodup_of hnd
  have hin := shrS_in hσ
  obtain ⟨ra, M⟩ := sml_of I nd hin
  have Is := sml_inv I M hσ
  have An := A.le (Nat.le_of_ble_eq_true hn)
  have rs := shrVs_ok M.sml hvs r
  cases cr with
  | exc x =>
    cases h
    exact hCK _ _ _ _ _ hp.1 p _ sh as An Is rs Rr fun sh' e X2 R2 => z sh' e (sml_exd M X2) R2
  | ok v σ'' =>
    refine uO.r h fun all h hall => ?_
    cases h
    refine hCK _ _ _ _ _ hp.1 p _ sh as An Is rs Rr fun sh' Ws x S1 I1 R1 r1 => ?_
    obtain ⟨t, et, lt⟩ := S1.ρ
    obtain ⟨J, Sb⟩ := big_inv I M nd hin S1 I1 et lt hall
    exact z sh' ⟨W.ρ ++ t, Ws.Z⟩ x Sb J R1 (grwV_ok (sml_big M I.len et) r1)
end
section
open PySem.Calls PySem.NumText
theorem typeCall_int_2 (a b : Value) : checkTypeCall "int" ⟨[a, b], []⟩ = pure () := by kernel_rfl
theorem newCall_int_2 (a b : Value) : checkBuiltinCall "int.__new__" ⟨[.type "int", a, b], []⟩ = pure () := by kernel_rfl
set_option maxHeartbeats 4000000 in
theorem gives_base {x : PySem.Str} {u v : Tok} {n : Int} (hl : x.length ≤ 640) (hn : PySem.intText? x = some n) : Gives (Builtin.«int.__new__» ⟨[.type "int", .str x u, .int 10 v], []⟩) (.int n) :=
  .of_wp fun M A E s Q h => by
    obtain ⟨hp, g, d, tk, os⟩ := s
    have f1 := F.conv_sub_int
    have f2 := F.madeHere_int
    have f3 := KIN.str_int
    have f4 := KIN.str_idx
    have f5 := KIN.str_trunc
    have f6 : typeOf (.str x u) = pure (.type "str") := rfl
    have hs : (numSeenOf x).length ≤ 640 := Nat.le_trans (seen_length x) hl
    have hr : (int_private% "readNumeral") 0 10 (numSeenOf x) = (int_private% "Numeral.value") n ∧ ((numSeenOf x).length == (numTextOf x).length) = true := by
      rcases read0 x hs with ⟨m, h1, h2, h3⟩ | ⟨h1, _⟩
      · rw [hn] at h1
        injection h1 with h1
        subst h1
        exact ⟨h3, h2⟩
      · rw [hn] at h1
        cases h1
    have hk := KIN.Hid.mk (And.intro hs hr)
    clear hs hr hl hn
    repeat (any_goals (first
      | assumption
      | ((with_reducible show wpAny _ _ ((int_private% "intFromText") _ _ _) _ _ _); refine KIN.wp_text hk.out.1 hk.out.2.1 hk.out.2.2 ?_)
      | wp_step))
    all_goals first | exact ⟨_, rfl, h⟩ | skip
section
variable {prog : Program} {w : World} {A : Around} {E : Value → Shared → Prop} {s : Shared} {Q : Value → Shared → Prop} {x : PySem.Str} {t v : Tok} {n : Int}
theorem call_base (hn : PySem.intText? x = some n) (hl : x.length ≤ 640) (h : Q (.int n s.toks) { s with toks := s.toks + 1 }) : wpAny (model prog w) A (call (.type "int") [.str x t, .int 10 v]) Q E s :=
  callType_new F.called_int F.newNe_int (typeCall_int_2 _ _) (newCall_int_2 _ _) (fun obj => F.args_object_init_3 obj _ _) F.entry_int_new (gives_base hl hn).meets (show (Made.int n).post _ s from ⟨rfl, h⟩)
end
end
structure ClsOk (K : Frag) (D : Addr) : Prop where
  get : plainGet K D "__class__" = true
  dict : hasDictIn K D = true
  find : findIn K (.ref D) "__class__" = some (some (.builtin "object.__class__"))
  mro : mroIn K D (.type "object") = some true
structure IzOk (c : Cx) (T : Tb) : Prop where
  get : specialIn c.K (.builtin "object.__class__") "__get__" = some (some (.builtin "getset_descriptor.__get__"))
  takes : takesIn c.K (.builtin "object.__class__") = some true
  one : ∀ t v b, T.Iz t v = some b → kitOne c.K t v = some b ∧ ∀ D, t = .ref D → ClsOk c.K D
section
variable {c : Cx} {T : Tb} {p : Pl} {W : Wd} {sh : Shared} {s : S} {d : Nat}
theorem collect_sz {prog : Program} {w : World} {A : Around} {E : Value → Shared → Prop} {s : Shared} {Q : List Value → Shared → Prop} (it : Addr) {o : Obj} {items : Array Value} {n : Nat}
    (ho : s.heap.get? it = some o) (hc : o.cls = .type "list") (hd : o.data = .seq items n)
    (hQ : ∀ h', (∀ b o', s.heap.get? b = some o' → h'.get? b = some o') → s.heap.objs.size ≤ h'.objs.size → Q items.toList { s with heap := h' }) (hsz : items.size ≤ sizeLine) :
    wpAny (model prog w) A (collect (.ref it)) Q E s :=
  with_size (wpAny_collect_seq it (.inl rfl) ho hc hd (fun h' k sz => hQ h' k sz) hsz)
theorem tuple_new_sz (l : Addr) (o : Obj) (items : Array Value) (n : Nat) (hc : o.cls = .type "list") (hd : o.data = .seq items n) (hsz : items.size ≤ sizeLine) :
    Meets (Builtin.«tuple.__new__» ⟨[.type "tuple", .ref l], []⟩)
      (fun _ R s => s.heap.get? l = some o ∧ ∀ h' : Heap, (∀ b o', s.heap.get? b = some o' → h'.get? b = some o') → s.heap.objs.size ≤ h'.objs.size → R (.ok (.ret (.ref h'.objs.size))) { s with heap := h'.push { cls := .type "tuple", data := .seq items } }) :=
  .of_wp fun prog w A R s h => by
    obtain ⟨hp, g, d, tk, os⟩ := s; obtain ⟨ht, h⟩ := h
    have hsub := sub_tuple_self
    have hinit := init_tuple_lookup
    have hmh := madeHere_tuple
    have hT : Shared.TypeIs ⟨hp, g, d, tk, os⟩ (.ref l) "list" := ⟨o, ht, hc⟩
    wp_walk using AutoSeq1.wpAny_loadPart' ht, wpAny_typeOf hT, collect_sz (hsz := hsz) l ht hc hd
    intro h' hk sz
    show wpAny _ _ (Builtin.Tuple.tupleExact items.toList.toArray >>= fun v => PySem.ret v) _ _ _
    unfold Builtin.Tuple.tupleExact
    refine wpAny_bind (wpAny_newObj_type ?_ (by show items.toList.toArray.size ≤ sizeLine; simpa using hsz))
    refine wpAny_pure ⟨_, rfl, ?_⟩
    have e : items.toList.toArray = items := by simp
    rw [e]
    exact h h' hk sz
theorem ble_len {l : List Dat} (h : Nat.ble (len l) 100000 = true) : l.length ≤ 100000 := by have := Nat.le_of_ble_eq_true h; rwa [len_eq] at this
theorem and_dec {a b : Prop} [Decidable a] [Decidable b] (h : (decide a && decide b) = true) : a ∧ b := by rw [Bool.and_eq_true] at h; exact ⟨of_decide_eq_true h.1, of_decide_eq_true h.2⟩
theorem isas_c {t : Value} {x : Dat} {l : List Dat} {b : Bool} {B : Prop} (h : isas T t (x :: l) = some b) (H : ∀ v r, x = .top v → T.Iz t v = some r → (bif r then some true else isas T t l) = some b → B) : B := by
  cases x with
  | top v =>
    exact uO.r h fun r h q => H v r rfl q h
  | _ => exact nn h
theorem isas_ok {t : Value} {l : List Dat} {vs : List Value} {b : Bool} (Z : IzOk c T) (h : isas T t l = some b) (r : VDs W.Z l vs) : kitAny c.K t vs = some b := by
  refine VDs.ind (M := fun l vs => ∀ {b}, isas T t l = some b → kitAny c.K t vs = some b) (fun h => h) (fun {x l v vs} a _ ih b h => isas_c h fun w r e q h => ?_) r h
  subst e
  obtain ⟨-, rfl⟩ := a.i
  unfold kitAny
  rw [(Z.one _ _ _ q).1]
  cases r with
  | true => exact h
  | false => exact ih h
theorem isas_cls {t : Value} {D : Addr} (e : t = .ref D) {l : List Dat} {b : Bool} (Z : IzOk c T) (h : isas T t l = some b) (n : l ≠ []) : ClsOk c.K D := by
  cases l with
  | nil => exact absurd rfl n
  | cons x l => exact isas_c h fun v r _ q _ => (Z.one _ _ _ q).2 D e
inductive KVal (K : Frag) (h : Heap) (va t : Value) : Prop
  | mk {H : Heap → Prop} (a : KitX K va t H) (b : H h) (c : va ≠ .builtin "__main__.__loader__#opaque")
theorem isa_val (Z : IzOk c T) {o : SV} {t va : Value} (ht : tyOf o = some t) (cls : ∀ D, t = .ref D → ClsOk c.K D) (I : Inv c.h₀ p.fl s.σ W sh.heap) (r : VR W o va) : KVal c.K sh.heap va t := by
  revert ht
  cases r with
  | d r => cases r with
    | int => intro ht; cases ht; exact ⟨kitx_int, trivial, nofun⟩
    | bool => intro ht; cases ht; exact ⟨kitx_bool, trivial, nofun⟩
    | str => intro ht; cases ht; exact ⟨kitx_str, trivial, nofun⟩
    | none => intro ht; cases ht; exact ⟨kitx_none, trivial, nofun⟩
    | byt => intro ht; cases ht; exact ⟨kitx_bytes, trivial, nofun⟩
    | inst g g2 v =>
      intro ht
      cases ht
      obtain ⟨c1, c2, c3, c4⟩ := cls _ rfl
      exact ⟨kitx_own c1 c2 c3 Z.get Z.takes c4, (⟨I.zk _ _ g, rfl, rfl, I.zk _ _ g2⟩ : InstAt sh.heap _ _ _ (some (dictOf _ _))), nofun⟩
    | _ => exact fun ht => nn ht
  | _ => exact fun ht => nn ht
theorem snd_isa (X : c.K.In c.h₀) (Z : IzOk c T) {o : SV} {cd : Dat} {t : Value} {b : Bool} {va cv : Value} {Q : Value → Shared → Prop} {E : Value → Shared → Prop} (ht : tyOf o = some t) (h : isa T t cd = some b)
    (I : Inv c.h₀ p.fl s.σ W sh.heap) (r : VR W o va) (rc : VD W.Z cd cv) (hne : noNil cd = true) (q : ∀ tk, Q (.bool b) { sh with toks := tk }) : wpAny c.M p.A (call (.builtin "isinstance") [va, cv]) Q E sh := by
  cases cd with
  | top v =>
    obtain ⟨a1, a2, a3⟩ := isa_val Z ht (fun D e => (Z.one _ _ _ h).2 D e) I r
    rw [rc.i.2]; exact kia_one a1 (X.keeps I.h0) a2 (Z.one _ _ _ h).1 a3 q
  | tup l =>
    obtain ⟨a1, a2, a3⟩ := isa_val Z ht (fun D e => isas_cls e Z h fun q => by rw [q] at hne; cases hne) I r
    obtain ⟨a, xs, ep, g, vs, rfl⟩ := rc.i
    exact kia_tup a1 (X.keeps I.h0) a2 (its := xs.toList) (by rw [Array.toArray_toList]; exact I.zk _ _ g) (isas_ok Z h vs) a3 q
  | _ => exact nn h
theorem max_eq (a b : Int) : (if b > a then b else a) = max a b :=
  (Decidable.em (b > a)).elim (fun h => (if_pos h).trans (Int.max_eq_right (Int.le_of_lt h)).symm) fun h => (if_neg h).trans (Int.max_eq_left (Int.not_lt.mp h)).symm
theorem min_eq (a b : Int) : (if b < a then b else a) = min a b :=
  (Decidable.em (b < a)).elim (fun h => (if_pos h).trans (Int.min_eq_right (Int.le_of_lt h)).symm) fun h => (if_neg h).trans (Int.min_eq_left (Int.not_lt.mp h)).symm
section
variable {Q : Value → Shared → Prop} {E : Value → Shared → Prop} {oc : Oc SV} {P : List Prop} {v w : SV} {va vb : Value}
theorem Post.kp {x : Value} {h' : Heap} {tk : Nat} (z : Post c p VR oc W sh Q E) (h : P465.ret v s = some (P, oc)) (I : Inv c.h₀ p.fl s.σ W sh.heap) (k : ∀ b o, sh.heap.get? b = some o → h'.get? b = some o) (sz : sh.heap.objs.size ≤ h'.objs.size) (r : VR W v x) : Q x { sh with heap := h', toks := tk } := by
  obtain ⟨J, S⟩ := I.keeps k sz
  cases h
  exact z { sh with heap := h', toks := tk } W x S J ⟨rfl, rfl⟩ r
theorem len_at {l : List Dat} {a : Addr} {xs : Array Value} {ep : Nat} {b : Bool} (g : sh.heap.get? a = some ⟨.type "list", none, .seq xs ep, #[]⟩) (vs : VDs W.Z l xs.toList) (hle : l.length ≤ 100000) (h : ret (.d (.int b (len l))) s = some (P, oc)) (I : Inv c.h₀ p.fl s.σ W sh.heap) (z : Post c p VR oc W sh Q E) :
    wpAny c.M p.A (call (.builtin "len") [.ref a]) Q E sh := by
  have hl : l.length = xs.size := vs.len.trans Array.length_toList
  rw [len_eq, hl] at h
  exact PySem.Calls.call_len_list ⟨_, g, rfl, ep, rfl⟩ (by omega) (z.tk h I (.d .int))
theorem len_str {y : Bool} {x : Str} {tk : Tok} (hl : x.length ≤ 100000) (h : ret (.d (.int y x.length)) s = some (P, oc)) (I : Inv c.h₀ p.fl s.σ W sh.heap) (z : Post c p VR oc W sh Q E) : wpAny c.M p.A (call (.builtin "len") [.str x tk]) Q E sh :=
  PySem.P.len_str (by omega) (z.tk h I (.d .int))
theorem snd_len (h : lenF T v s = some (P, oc)) (hp : okL P) (I : Inv c.h₀ p.fl s.σ W sh.heap) (ra : VR W v va) (z : Post c p VR oc W sh Q E) : wpAny c.M p.A (call (.builtin "len") [va]) Q E sh :=
  uC.r (G := fun v => wpAny _ _ (call _ [v]) _ _ _) h I ra (fun _ _ _ _ _ h _ _ g vs => owe.r h hp fun _ h _ hle => len_at g vs hle h I z) (fun _ _ _ _ _ h g vs => owb.r h hp ble_len fun _ h _ hle => len_at (I.zk _ _ g) vs hle h I z) (fun _ _ _ _ h => nn h)
    (fun _ _ _ h => siz.r h hp fun _ h _ hl => len_str hl h I z) fun _ _ h => nn h
theorem ord_str {y : Bool} {x : Str} {ch : Nat} {tk : Tok} (hc : x.cps.toList = [ch]) (h : ret (.d (.int y ch)) s = some (P, oc)) (I : Inv c.h₀ p.fl s.σ W sh.heap) (z : Post c p VR oc W sh Q E) : wpAny c.M p.A (call (.builtin "ord") [.str x tk]) Q E sh := by
  obtain ⟨⟨cl⟩⟩ := x
  dsimp only at hc
  subst hc
  exact PySem.P.ord_of_char (z.tk h I (.d .int))
theorem snd_ord (h : ordF v s = some (P, oc)) (I : Inv c.h₀ p.fl s.σ W sh.heap) (ra : VR W v va) (z : Post c p VR oc W sh Q E) : wpAny c.M p.A (call (.builtin "ord") [va]) Q E sh :=
  uS.r (G := fun v => wpAny _ _ (call _ [v]) _ _ _) h ra fun _ x tk h => nC.r (G := fun l => x.cps.toList = l → wpAny _ _ (call _ [.str x tk]) _ _ _) h (fun _ _ h => n0.r (G := fun l => x.cps.toList = _ :: l → wpAny _ _ (call _ [.str x tk]) _ _ _) h fun h e => ord_str e h I z) rfl
theorem str_int {i : Int} {tk : Tok} (q : i.natAbs < 2 ^ 64) (h : ret (.d (.str false (Str.ofString (toString i)))) s = some (P, oc)) (I : Inv c.h₀ p.fl s.σ W sh.heap) (z : Post c p VR oc W sh Q E) : wpAny c.M p.A (call (.type "str") [.int i tk]) Q E sh := by
  refine PySem.P.str_of_int ?_ (z.tk h I (.d .str))
  by_cases h0 : i.natAbs = 0
  · rw [h0]; decide
  · have := (Nat.log2_lt h0).mpr q
    omega
theorem range_int {i : Int} {tk0 : Tok} (h : ret (.d (.rng i)) s = some (P, oc)) (I : Inv c.h₀ p.fl s.σ W sh.heap) (z : Post c p VR oc W sh Q E) : wpAny c.M p.A (call (.type "range") [.int i tk0]) Q E sh := by
  refine call_range_1 ?_
  have g := Heap.get?_push_size sh.heap (o := { cls := .type "range", data := .fields #[.int 0 sh.toks, .int i tk0, .int 1 (sh.toks + 1)] }) rfl
  obtain ⟨J, S⟩ := I.cold (Nat.le_refl _) g (fun b o e => Heap.get?_push_of_some _ e) (by rw [Heap.size_push]; exact Nat.le_succ _)
  cases h
  exact z { sh with heap := _, toks := _ } _ _ S J ⟨rfl, rfl⟩ (.d (.rng (zput_self ..)))
theorem tuple_list {l : List Dat} {a : Addr} {xs : Array Value} {ep : Nat} (hle : l.length ≤ 100000) (g : W.Z a = some ⟨.type "list", none, .seq xs ep, #[]⟩) (vs : VDs W.Z l xs.toList) (h : ret (.d (.tup l)) s = some (P, oc)) (I : Inv c.h₀ p.fl s.σ W sh.heap) (z : Post c p VR oc W sh Q E) : wpAny c.M p.A (call (.type "tuple") [.ref a]) Q E sh := by
  have hl : xs.size ≤ sizeLine := by rw [← Array.length_toList, ← vs.len]; exact Nat.le_trans hle (by rw [sizeLine_eq]; decide)
  refine callType_new F.called_tuple (by decide) (F.typeCall_tuple_1 _) (F.newCall_tuple_1 _) (fun obj => F.args_object_init_2 obj _) F.entry_tuple_new (tuple_new_sz a _ xs ep rfl rfl hl)
    ⟨I.zk _ _ g, fun h' k sz => ⟨⟨_, Heap.get?_push_size _ rfl, rfl⟩, ?_⟩⟩
  have g' := Heap.get?_push_size h' (o := { cls := .type "tuple", data := .seq xs }) rfl
  obtain ⟨J, S⟩ := I.cold (h' := h'.push { cls := .type "tuple", data := .seq xs }) (a := h'.objs.size) sz g' (fun b o e => Heap.get?_push_of_some _ (k b o e)) (by rw [Heap.size_push]; exact Nat.le_succ_of_le sz)
  cases h
  exact z { sh with heap := _ } _ _ S J ⟨rfl, rfl⟩ (.d (.tup (zput_self ..) (vs.mono S.Z)))
theorem snd_int (h : intF v s = some (P, oc)) (I : Inv c.h₀ p.fl s.σ W sh.heap) (ra : VR W v va) (z : Post c p VR oc W sh Q E) : wpAny c.M p.A (call (.type "int") [va]) Q E sh := by
  refine uD.r h ra fun x h ra => ?_
  cases x with
  | int y i => obtain ⟨_, rfl⟩ := ra.i; exact call_int_int (z.ret h I (.d .int))
  | bool b => obtain ⟨_, rfl⟩ := ra.i; exact call_int_bool (z.tk h I (by cases b <;> exact .d .int))
  | _ => exact nn h
theorem snd_tupF (h : tupF v s = some (P, oc)) (hp : okL P) (I : Inv c.h₀ p.fl s.σ W sh.heap) (ra : VR W v va) (z : Post c p VR oc W sh Q E) : wpAny c.M p.A (call (.type "tuple") [va]) Q E sh := by
  refine uD.r h ra fun x h ra => ?_
  cases x with
  | lst y l => obtain ⟨a, xs, ep, g, vs, rfl⟩ := ra.i; exact owb.r h hp ble_len fun _ h _ hle => tuple_list hle g vs h I z
  | _ => exact nn h
theorem two_max {b : Bool} {i j : Int} {t u : Tok} (A : AOk p.A p.fl p.envs d) (h : ret (.d (.int b (max i j))) s = some (P, oc)) (I : Inv c.h₀ p.fl s.σ W sh.heap) (z : Post c p VR oc W sh Q E) : wpAny c.M p.A (call (.builtin "max") [.int i t, .int j u]) Q E sh := by
  refine with_size (max_two_ints A.handled fun h' tk k sz => ?_)
  by_cases q : j > i
  · rw [if_pos q]; exact z.kp h I k sz (by rw [← max_eq, if_pos q]; exact .d .int)
  · rw [if_neg q]; exact z.kp h I k sz (by rw [← max_eq, if_neg q]; exact .d .int)
theorem two_min {b : Bool} {i j : Int} {t u : Tok} (A : AOk p.A p.fl p.envs d) (h : ret (.d (.int b (min i j))) s = some (P, oc)) (I : Inv c.h₀ p.fl s.σ W sh.heap) (z : Post c p VR oc W sh Q E) : wpAny c.M p.A (call (.builtin "min") [.int i t, .int j u]) Q E sh := by
  refine with_size (min_two_ints A.handled fun h' tk k sz => ?_)
  by_cases q : j < i
  · rw [if_pos q]; exact z.kp h I k sz (by rw [← min_eq, if_pos q]; exact .d .int)
  · rw [if_neg q]; exact z.kp h I k sz (by rw [← min_eq, if_neg q]; exact .d .int)
theorem snd_intB (h : intB v w s = some (P, oc)) (I : Inv c.h₀ p.fl s.σ W sh.heap) (ra : VR W v va) (rb : VR W w vb) (z : Post c p VR oc W sh Q E) : wpAny c.M p.A (call (.type "int") [va, vb]) Q E sh :=
  uS.r (G := fun v => wpAny _ _ (call _ [v, _]) _ _ _) h ra fun _ _ _ h => uN.r h fun h _ => uI.r (G := fun v => wpAny _ _ (call _ [_, v]) _ _ _) h rb fun _ _ _ h => uN.r h fun h _ => uW.r h fun h q1 => uW.r h fun h q2 => uO.r h fun _ h q3 => by
    rw [of_decide_eq_true q1]
    exact call_base q3 (by simpa [Str.length] using Nat.le_of_ble_eq_true q2) (z.tk h I (.d .int))
end
theorem snd_blt (X : c.K.In c.h₀) (Z : IzOk c T) {f : BF} {fv : Value} {vs : List SV} {as : List Value} {P : List Prop} {oc : Oc SV} (hf : bfOf fv = some f) (h : blt T f vs s = some (P, oc)) (hp : okL P)
    (A : AOk p.A p.fl p.envs d) (I : Inv c.h₀ p.fl s.σ W sh.heap) (r : VRs W vs as) : Run c p (call fv as) VR oc W sh := by
  intro Q E z
  have hv := bfOf_eq hf
  subst hv
  cases vs with
  | nil => exact nn h
  | cons v vs =>
    obtain ⟨va, as, rfl, ra, rs⟩ := r.ic
    cases vs with
    | nil =>
      cases rs.i0
      cases f with
      | len => exact snd_len h hp I ra z
      | ord => exact snd_ord h I ra z
      | int => exact snd_int h I ra z
      | str => exact uI.r (G := fun v => wpAny _ _ (call _ [v]) _ _ _) h ra fun _ _ _ h => uN.r h fun h _ => uW.r h fun h q => str_int (Nat.le_of_ble_eq_true q) h I z
      | range => exact uI.r (G := fun v => wpAny _ _ (call _ [v]) _ _ _) h ra fun _ _ _ h => range_int h I z
      | tuple => exact snd_tupF h hp I ra z
      | _ => exact nn h
    | cons w vs =>
      obtain ⟨vb, as, rfl, rb, rs⟩ := rs.ic
      cases vs with
      | cons => exact nn h
      | nil =>
        cases rs.i0
        cases f with
        | max => exact i2.r (G := fun v w => wpAny _ _ (call _ [v, w]) _ _ _) h ra rb fun _ _ _ _ _ _ h => two_max A h I z
        | min => exact i2.r (G := fun v w => wpAny _ _ (call _ [v, w]) _ _ _) h ra rb fun _ _ _ _ _ _ h => two_min A h I z
        | isin => exact uD.r h rb fun cd h rb => uO.r h fun t h ht => uW.r h fun h hn => uO.r h fun b h hb => snd_isa X Z ht hb I ra rb hn fun tk => z.tk h I (.d .bool)
        | int => exact snd_intB h I ra rb z
        | _ => exact nn h
end
section
open PyProof.V
theorem pick1 {n : String} {b m : BM} {x : Str} (h : pick [(n, b)] x = some m) : x = Str.ofString n ∧ b = m := ifC h (fun q e => ⟨sq_eq q, Option.some.inj e⟩) fun _ h => nn h
noncomputable def StrM (n : String) (m : BM) : Prop := Slot "str" (Str.ofString n) (bid m) ∧ typeOf (.builtin (bid m)) = pure (.type "method_descriptor")
theorem strM : alQ StrM strMs := ⟨⟨F.slot_str_upper, F.type_str_upper⟩, ⟨F.slot_str_lower, F.type_str_lower⟩, ⟨F.slot_str_isascii, F.type_str_isascii⟩, ⟨F.slot_str_find, F.type_str_find⟩, ⟨F.slot_str_lstrip, F.type_str_lstrip⟩, ⟨F.slot_str_replace, F.type_str_replace⟩, ⟨F.slot_str_join, F.type_str_join⟩, trivial⟩
structure DOk (c : Cx) (T : Tb) : Prop where
  tab : ∀ k l, T.D k = some l → StrTab pw c.w c.h₀ k (l.map fun p => (.str p.1, toPy p.2)) ∧ ∀ p ∈ l, flat p.2 = true
theorem flat_vd {Z : ZH} {d : Dat} {v : Value} (h : flat d = true) (f : Flat v (toPy d)) : VD Z d v := by
  cases d with
  | int y i => obtain ⟨t, rfl⟩ := Flat.int_inv f; exact .int
  | str y x =>
    have := f {}
    cases this with
    | str => exact .str
  | _ => cases h
theorem lookup_map (x : Str) (l : List (Str × Dat)) : Spec.lookup (.str x) (l.map fun p => (PyData.str p.1, toPy p.2)) = (lk l x).map toPy := by
  induction l with
  | nil => rfl
  | cons a r ih =>
    have e : Spec.lookup (.str x) ((a :: r).map fun p => (PyData.str p.1, toPy p.2)) = if a.1 = x then some (toPy a.2) else Spec.lookup (.str x) (r.map fun p => (PyData.str p.1, toPy p.2)) := by
      simp only [List.map_cons, Spec.lookup]
      by_cases q : a.1 = x
      · subst q; simp [Spec.same]
      · simp [Spec.same, q, Ne.symm q]
    rw [e, ih]
    show _ = (bif sq a.1 x then some a.2 else lk r x).map toPy
    cases q : sq a.1 x with
    | true => rw [if_pos (sq_eq q)]; rfl
    | false => rw [if_neg (sq_ne q)]; rfl
section
variable {c : Cx} {T : Tb} {p : Pl} {W : Wd} {sh : Shared} {s : S} {d : Nat}
theorem gm {M : Model} {A : Around} {E : Value → Shared → Prop} {s : Shared} {x : Str} {t : Tok} {pl : Sem Bool} {Q : Value × List Value → Shared → Prop} {n : Str} {id : String} (sl : Slot "str" n id) (ty : typeOf (.builtin id) = pure (.type "method_descriptor"))
    (q : Q (.builtin id, [.str x t]) s) : wpAny M A (getMethod (.str x t) n pl) Q E s := by
  with_reducible exact GM.of (.str x t) (typeIs_str _ _ _) sl ty GM.noRef q
theorem snd_bmet (D : DOk c T) {o : SV} {x : Str} {m : BM} (h : bmet T o x s = some m) {va : Value} {pl : Sem Bool} {Q : Value × List Value → Shared → Prop} {E : Value → Shared → Prop}
    (I : Inv c.h₀ p.fl s.σ W sh.heap) (r : VR W o va) (q : Q (.builtin (bid m), [va]) sh) : wpAny c.M p.A (getMethod va x pl) Q E sh := by
  have h : (uC T o s.σ (fun _ _ => pick [("append", .append)] x) (fun _ _ => none) (fun _ => none) (fun _ _ => pick strMs x) fun _ => pick [("get", .get)] x) = some m ∨ (uB o fun _ => pick [("hex", .hex)] x) = some m := Option.or_eq_some_iff.mp h |>.imp id (·.2)
  refine h.elim (fun h => uC.r (G := fun va => Q (.builtin (bid m), [va]) sh → wpAny c.M p.A (getMethod va x pl) Q E sh) h I r (fun i l a xs ep h hr zz g v q => ?_) (fun _ _ _ _ _ h => nn h) (fun _ _ _ _ h => nn h) (fun y t tk h q => ?_) (fun a l h hl q => ?_) q)
    fun h => uB.r (G := fun va => Q (.builtin (bid m), [va]) sh → wpAny c.M p.A (getMethod va x pl) Q E sh) h r (fun b t h q => ?_) q
  · obtain ⟨rfl, rfl⟩ := pick1 h
    have hT : sh.TypeIs (.ref a) "list" := ⟨_, g, rfl⟩
    have hd : ∀ b, Value.ref a = .ref b → ∃ o, sh.heap.get? b = some o ∧ o.dict = none := fun b e => by cases e; exact ⟨_, g, rfl⟩
    have q : Q (.builtin "list.append", [.ref a]) sh := q
    with_reducible exact getMethod_builtin hT F.plainAttrs_list F.slot_list_append F.type_list_append hd q
  · obtain ⟨n, rfl, k1, k2⟩ := pick_r h strM
    exact gm k1 k2 q
  · obtain ⟨rfl, rfl⟩ := pick1 h
    have q : Q (.builtin "dict.get", [.ref a]) sh := q
    with_reducible exact getMethod_strTab_get ((D.tab _ _ hl).1.keep I.h0) q
  · obtain ⟨rfl, rfl⟩ := pick1 h
    have hd : ∀ a, Value.bytes b t = .ref a → ∃ o, sh.heap.get? a = some o ∧ o.dict = none := fun _ e => nomatch e
    have q : Q (.builtin "bytes.hex", [.bytes b t]) sh := q
    with_reducible exact getMethod_builtin (typeIs_bytes sh b t) FB.plainAttrs_bytes FB.slot_bytes_hex FB.type_bytes_hex hd q
end
end
section
open PyProof.V
theorem bdec.r {β : Type} {y b : Bool} {s : S} {k : Bool → S → Res β} {P : List Prop} {o : Oc β} {B : Prop} (h : bnd (dec y b s) k = some (P, o)) (hp : okL P) (H : ∀ P' s', k b s' = some (P', o) → okL P' → s'.σ = s.σ → B) : B := by
  cases y with
  | false => exact H _ _ (bret h) hp rfl
  | true =>
    obtain ⟨σ, hs⟩ := s
    cases hs with
    | nil => exact nn h
    | cons x hs => cases x with
      | b v =>
        rcases bnd_inv h hp with ⟨P1, x, h1, p1, rfl⟩ | ⟨P1, a, s1, P2, h1, p1, h2, p2⟩
        · cases h1
        · cases h1; obtain ⟨rfl, -⟩ := p1; exact H _ _ h2 p2 rfl
      | _ => exact nn h
theorem jok.r {β : Type} {y : Bool} {t : Str} {r : List Str} {s : S} {k : Unit → S → Res β} {P : List Prop} {o : Oc β} {B : Prop} (h : bnd (jok y t r s) k = some (P, o)) (hp : okL P) (H : ∀ P', k () s = some (P', o) → okL P' → JoinOk t r = true → B) : B := by
  cases y with
  | true => exact owe.r h hp H
  | false =>
    revert h
    unfold jok
    cases q : JoinOk t r with
    | false => exact nn
    | true => exact fun h => H _ (bret h) hp q
theorem fit_of {t : Str} (h : t.length ≤ 100000) : Builtin.Str.tooLong t.length = false := by
  unfold Builtin.Str.tooLong sizeLine
  exact decide_eq_false (by omega)
theorem le_size' {n : Nat} (h : n ≤ 100000) : n ≤ sizeLine := Nat.le_trans h (by rw [sizeLine_eq]; decide)
theorem le_size {t : Str} (h : t.length ≤ 100000) : t.length ≤ sizeLine := le_size' h
theorem cat_ok {Z : ZH} {l : List Dat} {vs : List Value} {q : Bool × List Str} (h : cat l = some q) (r : VDs Z l vs) : ∃ tl : List (Str × Tok), vs = strValues tl ∧ tl.map (·.1) = q.2 := by
  refine VDs.ind (M := fun l vs => ∀ {q}, cat l = some q → ∃ tl : List (Str × Tok), vs = strValues tl ∧ tl.map (·.1) = q.2) (fun h => by cases h; exact ⟨[], rfl, rfl⟩) (fun {x l v vs} a _ ih q h => ?_) r h
  cases x with
  | str y x =>
    refine uO.r h fun w h e => ?_
    cases h
    obtain ⟨tk, rfl⟩ := a.i
    obtain ⟨tl, rfl, e⟩ := ih e
    exact ⟨(x, tk) :: tl, rfl, congrArg (x :: ·) e⟩
  | _ => exact nn h
theorem hex0 (t : Tok) : Gives (Builtin.«bytes.hex» ⟨[.bytes #[] t], []⟩) (.str (Str.ofString "")) := .of_eq (by kernel_rfl)
theorem hex1 (t : Tok) : Gives (Builtin.«bytes.hex» ⟨[.bytes #[0, 175] t], []⟩) (.str (Str.ofString "00af")) := .of_eq (by kernel_rfl)
theorem un8 : ∀ {l m : List UInt8}, l.map (·.toNat) = m.map (·.toNat) → l = m
  | [], [], _ => rfl
  | _ :: _, _ :: _, e => by
    obtain ⟨a, b⟩ := List.cons.inj e
    rw [un8 b, UInt8.toNat_inj.mp a]
theorem arr_eq {b : Array UInt8} {l : List UInt8} (q : b.toList.map (·.toNat) = l.map (·.toNat)) : b = l.toArray := by
  rw [← un8 q, Array.toArray_toList]
theorem lq_ok {a b : List Nat} (h : lq a b = true) : a = b := congrArg (·.cps.toList) (sq_eq (a := ⟨a.toArray⟩) (b := ⟨b.toArray⟩) (by show lq a.toArray.toList b.toArray.toList = true; simpa using h))
theorem hexS_ok {b : Array UInt8} {x : Str} (h : hexS b = some x) : (b = #[] ∧ x = Str.ofString "") ∨ (b = #[0, 175] ∧ x = Str.ofString "00af") := by
  exact ifC h (fun q h => .inl ⟨arr_eq (l := []) (lq_ok q), (Option.some.inj h).symm⟩) fun _ h => uW.r h fun h q => .inr ⟨arr_eq (l := [0, 175]) (lq_ok q), (Option.some.inj h).symm⟩
theorem VDs.app {Z : ZH} {l : List Dat} {us : List Value} {x : Dat} {v : Value} (r : VDs Z l us) (b : VD Z x v) : VDs Z (l ++ [x]) (us ++ [v]) := VDs.ind (M := fun l us => VDs Z (l ++ [x]) (us ++ [v])) (.cons b .nil) (fun a _ ih => .cons a ih) r
section
variable {c : Cx} {T : Tb} {p : Pl} {W : Wd} {sh : Shared} {s : S} {d : Nat} {o : SV} {vs : List SV} {P : List Prop} {oc : Oc SV} {va : Value} {vas : List Value} {Q : Value → Shared → Prop} {E : Value → Shared → Prop}
theorem listOf.r {a : SV} {va : Value} {l : List Dat} {G : Value → Prop} (h : listOf a s = some l) (I : Inv c.h₀ p.fl s.σ W sh.heap) (r : VR W a va) (H : ∀ b xs, VDs W.Z l xs.toList → sh.heap.IsList b xs → G (.ref b)) : G va := by
  cases a with
  | d x => cases x with
    | lst y m => obtain ⟨b, xs, ep, g, vs, rfl⟩ := r.i; cases h; exact H _ _ vs ⟨_, I.zk _ _ g, rfl, _, rfl⟩
    | _ => exact nn h
  | lst k =>
    have h : uL (.lst k) s.σ (fun _ l => some l) = some l := by
      revert h
      show (match nth s.σ k with | some (.lst l) => some l | _ => none) = some l → (match nth s.σ k with | some e => (match e with | .lst l => some l | _ => none) | none => none) = some l
      cases nth s.σ k with
      | none => exact id
      | some e => cases e <;> exact id
    exact uL.r h I r fun i m a xs ep h hr zz g vs => by cases h; exact H _ _ vs ⟨_, g, rfl, _, rfl⟩
  | _ => exact nn h
theorem ty_join {y : Bool} {t : Str} {tk : Tok} {a : SV} (h : (uO (listOf a s) fun l => uO (cat l) fun zr => bnd (jok (y || zr.1) t zr.2 s) fun _ s => ret (.d (.str (y || zr.1) (Txt.join t zr.2))) s) = some (P, oc)) (hp : okL P)
    (I : Inv c.h₀ p.fl s.σ W sh.heap) (r : VR W a va) (z : Post c p VR oc W sh Q E) : wpAny c.M p.A (call (.builtin "str.join") [.str t tk, va]) Q E sh := by
  refine uO.r h fun l h hl => uO.r h fun zr h hc => listOf.r (G := fun v => wpAny _ _ (call _ [_, v]) Q E sh) hl I r fun b xs vs hb => jok.r h hp fun P' h _ hj => ?_
  obtain ⟨tl, e1, e2⟩ := cat_ok hc vs
  rw [show xs = (strValues tl).toArray by rw [← e1, Array.toArray_toList]] at hb
  exact SC.join hb e2 hj fun t' k => z.tk h I (.d .str)
theorem ty_append {k : Nat} {l : List Dat} {a : Addr} {xs : Array Value} {ep : Nat} {v : Dat} (h : (bnd (owe (l.length ≤ 100000) s) fun _ s => ret (.d .none) (put s k (.lst (l ++ [v])))) = some (P, oc)) (hp : okL P)
    (I : Inv c.h₀ p.fl s.σ W sh.heap) (hr : W.ρ[k]? = some a) (zz : W.Z a = none) (g : sh.heap.get? a = some ⟨.type "list", none, .seq xs ep, #[]⟩) (vs : VDs W.Z l xs.toList) (rv : VD W.Z v va) (z : Post c p VR oc W sh Q E) :
    wpAny c.M p.A (call (.builtin "list.append") [.ref a, va]) Q E sh := by
  refine owe.r h hp fun P' h _ hle => wpAny_list_append_plain (hsz := by rw [← Array.length_toList, ← vs.len]; exact le_size' hle) ⟨ep, g⟩ fun h' hl' hs' => ?_
  obtain ⟨n', g'⟩ := hl'
  obtain ⟨J, S⟩ := I.put (e := .lst (l ++ [v])) hr hs' zz (fun m => absurd m (not_frame I g)) (.lst zz g' (by rw [Array.toList_push]; exact vs.app rv))
  cases h
  exact z { sh with heap := h' } W _ S J ⟨rfl, rfl⟩ (.d .none)
theorem ty_get (D : DOk c T) {a : Addr} {l : List (Str × Dat)} {y : Bool} {u : Str} {tk : Tok} {v : Dat} (hl : T.D a = some l) (h : itm y (some (match lk l u with | some w => w | none => v)) s = some (P, oc)) (hp : okL P) (hf : flat v = true)
    (I : Inv c.h₀ p.fl s.σ W sh.heap) (rb : VD W.Z v va) (z : Post c p VR oc W sh Q E) : wpAny c.M p.A (call (.builtin "dict.get") [.ref a, .str u tk, va]) Q E sh := by
  obtain ⟨t1, t2⟩ := D.tab _ _ hl
  have fl : Flat va (toPy v) := by
    cases v with
    | int => obtain ⟨_, rfl⟩ := rb.i; exact Flat.int _ _
    | str => obtain ⟨_, rfl⟩ := rb.i; exact Flat.str _ _
    | _ => cases hf
  refine call_get2_strTab (t1.keep I.h0) fl fun v' hv' => z.itm h hp I fun dd hd fin => fin _ _ ?_
  rw [lookup_map] at hv'
  cases hw : lk l u with
  | some w => rw [hw] at hv' hd; exact Option.some.inj hd ▸ flat_vd (t2 _ (lk_mem hw)) hv'
  | none => rw [hw] at hv' hd; exact Option.some.inj hd ▸ flat_vd hf hv'
theorem ty_hex {b : Array UInt8} {tk : Tok} {x : Str} (hx : hexS b = some x) (h : ret (.d (.str false x)) s = some (P, oc)) (I : Inv c.h₀ p.fl s.σ W sh.heap) (z : Post c p VR oc W sh Q E) : wpAny c.M p.A (call (.builtin "bytes.hex") [.bytes b tk]) Q E sh := by
  rcases hexS_ok hx with ⟨rfl, rfl⟩ | ⟨rfl, rfl⟩
  · exact call_gives FB.slot_bytes_hex (typeIs_bytes sh _ tk) FB.entry_bytes_hex (FB.args_bytes_hex_1 _) (hex0 tk) ⟨by decide, z.tk h I (.d .str)⟩
  · exact call_gives FB.slot_bytes_hex (typeIs_bytes sh _ tk) FB.entry_bytes_hex (FB.args_bytes_hex_1 _) (hex1 tk) ⟨by decide, z.tk h I (.d .str)⟩
theorem find3_ok {y w : Bool} {n : Int} (h : find3 y w n s = some (P, oc)) (hp : okL P) : ∃ q s', s'.σ = s.σ ∧ oc = .ok (.d (.int q n)) s' := by
  cases y with
  | false => cases h; exact ⟨w, s, rfl, rfl⟩
  | true => exact hI.r h fun q j hs h => by cases h; obtain ⟨rfl, -⟩ := hp; exact ⟨q, ⟨s.σ, hs⟩, rfl, rfl⟩
theorem snd_tyM (D : DOk c T) {m : BM} (h : tyM T m o vs s = some (P, oc)) (hp : okL P)
    (A : AOk p.A p.fl p.envs d) (I : Inv c.h₀ p.fl s.σ W sh.heap) (r : VR W o va) (rs : VRs W vs vas) : Run c p (call (.builtin (bid m)) (va :: vas)) VR oc W sh := by
  intro Q E z
  cases m with
  | upper => exact a0.r (G := fun l => wpAny _ _ (call _ (_ :: l)) _ _ _) h rs fun h => uS.r (G := fun v => wpAny _ _ (call _ [v]) _ _ _) h r fun y t tk h => siz.r h hp fun P' h _ hl => SC.upper (fit_of hl) (z.tk h I (.d .str))
  | lower => exact a0.r (G := fun l => wpAny _ _ (call _ (_ :: l)) _ _ _) h rs fun h => uS.r (G := fun v => wpAny _ _ (call _ [v]) _ _ _) h r fun y t tk h => siz.r h hp fun P' h _ hl => SC.lower (fit_of hl) (z.tk h I (.d .str))
  | isascii =>
    exact a0.r (G := fun l => wpAny _ _ (call _ (_ :: l)) _ _ _) h rs fun h => uS.r (G := fun v => wpAny _ _ (call _ [v]) _ _ _) h r fun y t tk h => bdec.r h hp fun P' s' h _ e => SC.isascii (z.tk h (e ▸ I) (.d .bool))
  | find =>
    refine a12.r (G := fun l => wpAny _ _ (call _ (_ :: l)) _ _ _) h rs (fun a va h ra => uS.r (G := fun v => wpAny _ _ (call _ [v, _]) _ _ _) h r fun y t tk h => uS.r (G := fun v => wpAny _ _ (call _ [_, v]) _ _ _) h ra fun z' u tk' h => SC.find (z.tk h I (.d .int)))
      fun a b va vb h ra rb => uS.r (G := fun v => wpAny _ _ (call _ [v, _, _]) _ _ _) h r fun y t tk h => uS.r (G := fun v => wpAny _ _ (call _ [_, v, _]) _ _ _) h ra fun z' u tk' h => uI.r (G := fun v => wpAny _ _ (call _ [_, _, v]) _ _ _) h rb fun w i tk'' h => ?_
    obtain ⟨q, s', e, rfl⟩ := find3_ok h hp
    exact SC.find3 (z.tk rfl (e ▸ I) (.d .int))
  | lstrip => exact a1.r (G := fun l => wpAny _ _ (call _ (_ :: l)) _ _ _) h rs fun a va h ra => uS.r (G := fun v => wpAny _ _ (call _ [v, _]) _ _ _) h r fun y t tk h => uS.r (G := fun v => wpAny _ _ (call _ [_, v]) _ _ _) h ra fun z' u tk' h => siz.r h hp fun P' h _ hl => SC.lstripChars (fun t' k => z.tk h I (.d .str)) (le_size hl)
  | join => exact a1.r (G := fun l => wpAny _ _ (call _ (_ :: l)) _ _ _) h rs fun a va h ra => uS.r (G := fun v => wpAny _ _ (call _ [v, _]) _ _ _) h r fun y t tk h => ty_join h hp I ra z
  | append => exact a1.r (G := fun l => wpAny _ _ (call _ (_ :: l)) _ _ _) h rs fun a va h ra => uD.r h ra fun v h rv => uL.r (G := fun v => wpAny _ _ (call _ [v, _]) _ _ _) h I r fun i l a xs ep h hr zz g vs => ty_append h hp I hr zz g vs rv z
  | get => exact a2.r (G := fun l => wpAny _ _ (call _ (_ :: l)) _ _ _) h rs fun a b va vb h ra rb => uT.r (G := fun v => wpAny _ _ (call _ [v, _, _]) _ _ _) h r fun k l h hl => uS.r (G := fun v => wpAny _ _ (call _ [_, v, _]) _ _ _) h ra fun y u tk h => uD.r h rb fun v h rv => uW.r h fun h hf => ty_get D hl h hp hf I rv z
  | hex => exact a0.r (G := fun l => wpAny _ _ (call _ (_ :: l)) _ _ _) h rs fun h => uB.r (G := fun v => wpAny _ _ (call _ [v]) _ _ _) h r fun b tk h => uO.r h fun x h hx => ty_hex hx h I z
  | replace => cases h
end
end
section
open PySem.SeqAt
theorem bytes_declines (b : Array UInt8) (u : Tok) (l : Addr) (items : Array Value) (n : Nat) (dd : Option Addr) (sl : Array (Option Value)) :
    Meets (Builtin.«bytes.__eq__» ⟨[.bytes b u, .ref l], []⟩) (fun _ R s => s.heap.get? l = some { cls := .type "tuple", dict := dd, data := .seq items n, slots := sl } ∧ R (.ok (.ret .notImplemented)) s) :=
  .of_wp fun prog w A R s h => by
    obtain ⟨hp, g, d, tk, os⟩ := s; obtain ⟨hl, h⟩ := h
    have f1 := F.sub_tuple_bytes
    have hT : Shared.TypeIs ⟨hp, g, d, tk, os⟩ (.ref l) "tuple" := ⟨_, hl, rfl⟩
    wp_walk using AutoSeq1.wpAny_loadPart' hl, wpAny_load hl, wpAny_isInstance hT f1
    exact ⟨_, rfl, h⟩
theorem tuple_declines (l : Addr) (items : Array Value) (n : Nat) (dd : Option Addr) (sl : Array (Option Value)) (b : Array UInt8) (u : Tok) :
    Meets (Builtin.«tuple.__eq__» ⟨[.ref l, .bytes b u], []⟩) (fun _ R s => s.heap.get? l = some { cls := .type "tuple", dict := dd, data := .seq items n, slots := sl } ∧ R (.ok (.ret .notImplemented)) s) :=
  .of_wp fun prog w A R s h => by
    obtain ⟨hp, g, d, tk, os⟩ := s; obtain ⟨hl, h⟩ := h
    have f1 := F.sub_bytes_tuple
    wp_walk using AutoSeq1.wpAny_loadPart' hl
    exact ⟨_, rfl, h⟩
section
variable {A : Around} {s : Shared}
theorem EqAt.bytes_tuple {l : Addr} {items : Array Value} (b : Array UInt8) (u : Tok) (hl : s.heap.IsTuple l items) (hu : A.units < cLine) : EqAt A s (.bytes b u) (.ref l) false := fun prog w E Q h => by
  obtain ⟨⟨cls, dd, data, sl⟩, ho, hc, n, hd⟩ := id hl
  simp only at hc hd
  subst hc hd
  unfold eqBool
  refine wpAny_holding ?_
  refine wpAny_ite_split (fun hab => absurd (eq_of_beq hab) nofun) (fun _ => ?_)
  refine wpAny_bind (rc_eq_decline_or (k := false) (typeIs_bytes s b u) ⟨_, ho, rfl⟩ (by decide) F.sub_tuple_bytes FB.slot_bytes_eq F.slot_tuple_eq_refl
    (fun _ hq => call_meets FB.slot_bytes_eq (typeIs_bytes s b u) FB.entry_bytes_eq (FB.args_bytes_eq_2 _ _) (bytes_declines b u l items n dd sl) ⟨ho, hq⟩)
    (fun _ hq => call_meets F.slot_tuple_eq_refl ⟨_, ho, rfl⟩ F.entry_tuple_eq (F.args_tuple_eq_2 _ _) (tuple_declines l items n dd sl b u) ⟨ho, hq⟩)
    (fun _ hq => wpAny_of_eq (rfl : isSame (.bytes b u) (.ref l) = pure false) hq) (.inr hu) (wpAny_truthy_bool h))
theorem lq_iff {l m : List Nat} : lq l m = true ↔ l = m := ⟨lq_ok, fun h => h ▸ lq_refl l⟩
theorem lq8 (a b : Array UInt8) : lq (a.toList.map (·.toNat)) (b.toList.map (·.toNat)) = (a.toList == b.toList) := by
  rw [Bool.eq_iff_iff, lq_iff, beq_iff_eq]
  exact ⟨un8, fun h => by rw [h]⟩
theorem EqAt.bytes_bytes (a : Array UInt8) (t : Tok) (b : Array UInt8) (u : Tok) : EqAt A s (.bytes a t) (.bytes b u) (a.toList == b.toList) := fun prog w E Q h => by
  unfold eqBool
  refine wpAny_holding ?_
  refine wpAny_ite_split (fun hab => ?_) (fun _ => ?_)
  · have e : a = b := by have := eq_of_beq hab; injection this
    subst e
    exact wpAny_bind (wpAny_rule (wpAny_pure (by simpa using h)))
  · exact wpAny_bind (eq_bytes (wpAny_truthy_bool h))
noncomputable def eqJ (l r : List Dat) (j : Nat) : Bool := match l[j]?, r[j]? with | some x, some y => eqB x y | _, _ => true
theorem eqJ_of {l r : List Dat} {j : Nat} {x y : Dat} (h1 : l[j]? = some x) (h2 : r[j]? = some y) : eqJ l r j = eqB x y := by unfold eqJ; rw [h1, h2]
theorem eqBs_range : ∀ (l r : List Dat), ((List.range (min l.length r.length)).all (eqJ l r) && l.length == r.length) = eqBs l r := by
  intro l
  induction l with
  | nil => intro r; cases r with | nil => rfl | cons b r => show ((List.range (min 0 _)).all _ && _) = false; rw [Nat.zero_min]; rfl
  | cons a l ih =>
    intro r
    cases r with
    | nil => show ((List.range (min _ 0)).all _ && _) = false; rw [Nat.min_zero]; rfl
    | cons b r =>
      show ((List.range (min (l.length + 1) (r.length + 1))).all (eqJ (a :: l) (b :: r)) && (l.length + 1 == r.length + 1)) = (eqB a b && eqBs l r)
      rw [Nat.add_min_add_right, List.range_succ_eq_map, List.all_cons, List.all_map, ← ih]
      show (eqB a b && (List.range (min l.length r.length)).all (eqJ l r) && (l.length + 1 == r.length + 1)) = _
      rw [Bool.and_assoc, show (l.length + 1 == r.length + 1) = (l.length == r.length) from by rw [Bool.eq_iff_iff]; simp]
theorem VDs.get {Z : ZH} {l : List Dat} {vs : List Value} {j : Nat} {v : Value} (h : VDs Z l vs) (e : vs[j]? = some v) : ∃ x, l[j]? = some x ∧ VD Z x v := h.at e
theorem all2_c {f : Dat → Dat → Bool} {a b : Dat} {l r : List Dat} (h : all2 f (a :: l) (b :: r) = true) : f a b = true ∧ all2 f l r = true := andT h
theorem all2_get {f : Dat → Dat → Bool} : ∀ {l r : List Dat} {j : Nat} {x y : Dat}, all2 f l r = true → l[j]? = some x → r[j]? = some y → f x y = true := by
  intro l
  induction l with
  | nil => intro r j x y _ e; exact nn e
  | cons a l ih =>
    intro r j x y h e1 e2
    cases r with
    | nil => exact nn e2
    | cons b r =>
      obtain ⟨h1, h2⟩ := all2_c h
      cases j with
      | zero => cases e1; cases e2; exact h1
      | succ j => exact ih h2 e1 e2
theorem vds_same {Z : ZH} {f : Dat → Dat → Bool} (hf : ∀ {x y v}, f x y = true → VD Z x v → VD Z y v → eqB x y = true) : ∀ {l r : List Dat} {vs : List Value}, all2 f l r = true → VDs Z l vs → VDs Z r vs → eqBs l r = true := by
  intro l
  induction l with
  | nil => intro r vs _ a b; cases a; cases b; rfl
  | cons x l ih =>
    intro r vs h a b
    cases a with
    | cons a1 a2 => cases b with
      | cons b1 b2 =>
        obtain ⟨h1, h2⟩ := all2_c h
        show (eqB x _ && eqBs l _) = true
        rw [hf h1 a1 b1]
        exact ih h2 a2 b2
theorem plainD.r {Z : ZH} {y : Dat} {v : Value} {G : Dat → Value → Prop} (h : plainD y = true) (r : VD Z y v) (hn : G .none .none) (hi : ∀ f i t, G (.int f i) (.int i t)) (hs : ∀ f i t, G (.str f i) (.str i t))
    (ht : ∀ l t xs ep, Z t = some ⟨.type "tuple", none, .seq xs ep, #[]⟩ → VDs Z l xs.toList → G (.tup l) (.ref t)) : G y v := by
  revert h
  cases r with
  | none => exact fun _ => hn
  | int => exact fun _ => hi _ _ _
  | str => exact fun _ => hs _ _ _
  | tup a b => exact fun _ => ht _ _ _ _ a b
  | _ => exact fun h => fT h
noncomputable def isT (y : Dat) : Bool := match y with | .tup _ => true | _ => false
theorem tup_or {n : Nat} {l : List Dat} {y : Dat} (h : eqOk (n + 1) (.tup l) y = true) : (∃ r, y = .tup r ∧ all2 (eqOk n) l r = true) ∨ (plainD y = true ∧ isT y = false) := by
  cases y with
  | tup r => exact .inl ⟨r, rfl, h⟩
  | _ => exact .inr ⟨h, rfl⟩
theorem isB_r {Z : ZH} {n : Nat} {p : Bool} {y : Dat} {v : Value} {G : Dat → Value → Prop} (h : eqOk (n + 1) (.bool p) y = true) (r : VD Z y v) (hb : ∀ q, G (.bool q) (.bool q)) : G y v := by
  revert h
  cases r with
  | bool => exact fun _ => hb _
  | _ => exact fun h => fT h
theorem isY_r {Z : ZH} {n : Nat} {p : Array UInt8} {y : Dat} {v : Value} {G : Dat → Value → Prop} (h : eqOk (n + 1) (.byt p) y = true) (r : VD Z y v) (hb : ∀ q t, G (.byt q) (.bytes q t))
    (ht : ∀ l t xs ep, Z t = some ⟨.type "tuple", none, .seq xs ep, #[]⟩ → VDs Z l xs.toList → G (.tup l) (.ref t)) : G y v := by
  revert h
  cases r with
  | byt => exact fun _ => hb _ _
  | tup a b => exact fun _ => ht _ _ _ _ a b
  | _ => exact fun h => fT h
theorem vd_same {Z : ZH} : ∀ (n : Nat) {x y : Dat} {v : Value}, eqOk n x y = true → VD Z x v → VD Z y v → eqB x y = true := by
  intro n
  induction n with
  | zero => intro x y v h; exact fT h
  | succ n ih =>
    intro x y v h a b
    revert h
    cases a with
    | none => exact fun h => plainD.r (G := fun y v => v = .none → eqB .none y = true) h b (fun _ => rfl) (fun _ _ _ q => Value.noConfusion q) (fun _ _ _ q => Value.noConfusion q) (fun _ _ _ _ _ _ q => Value.noConfusion q) rfl
    | @bool p => exact fun h => isB_r (G := fun y v => v = .bool p → eqB (.bool p) y = true) h b (fun r q => by rw [Value.bool.inj q]; cases p <;> rfl) rfl
    | @int f i t => exact fun h => plainD.r (G := fun y v => v = .int i t → eqB (.int f i) y = true) h b (fun q => Value.noConfusion q) (fun _ _ _ q => decide_eq_true (Value.int.inj q).1.symm) (fun _ _ _ q => Value.noConfusion q) (fun _ _ _ _ _ _ q => Value.noConfusion q) rfl
    | @str f i t => exact fun h => plainD.r (G := fun y v => v = .str i t → eqB (.str f i) y = true) h b (fun q => Value.noConfusion q) (fun _ _ _ q => Value.noConfusion q) (fun _ _ _ q => sq_iff.mpr (Value.str.inj q).1.symm) (fun _ _ _ _ _ _ q => Value.noConfusion q) rfl
    | @byt p t => exact fun h => isY_r (G := fun y v => v = .bytes p t → eqB (.byt p) y = true) h b (fun r _ q => by rw [(Value.bytes.inj q).1]; exact lq_refl _) (fun _ _ _ _ _ _ q => Value.noConfusion q) rfl
    | @tup l t xs ep g vs =>
      intro h
      rcases tup_or h with ⟨r, rfl, h⟩ | ⟨h, q⟩
      · obtain ⟨t', xs', ep', g', vs', q⟩ := b.i
        cases q
        rw [g] at g'
        cases g'
        exact vds_same (fun h a b => ih h a b) h vs vs'
      · exact plainD.r (G := fun y v => v = .ref t → isT y = false → eqB (.tup l) y = true) h b (fun q => Value.noConfusion q) (fun _ _ _ q => Value.noConfusion q) (fun _ _ _ q => Value.noConfusion q) (fun _ _ _ _ _ _ _ q => fT q.symm) rfl q
    | _ => exact fun h => fT h
theorem int_beq (i j : Int) : (i == j) = decide (i = j) := by rw [Bool.eq_iff_iff]; simp
theorem eqc {a b : Value} {r r' : Bool} (e : r = r') (h : EqAt A s a b r) : EqAt A s a b r' := e ▸ h
theorem bb_eq (p q : Bool) : eqB (.bool p) (.bool q) = (p == q) := by cases p <;> cases q <;> rfl
theorem eq_dat {Z : ZH} (zk : ∀ a o, Z a = some o → s.heap.get? a = some o) : ∀ {n : Nat} {A : Around} {x y : Dat} {vx vy : Value}, eqOk n x y = true → VD Z x vx → VD Z y vy → A.units + n < cLine → EqAt A s vx vy (eqB x y) := by
  intro n
  induction n with
  | zero => intro A x y vx vy h; exact fT h
  | succ n ih =>
    intro A x y vx vy h a b hu
    have hu0 : A.units < cLine := Nat.lt_of_le_of_lt (Nat.le_add_right _ _) hu
    have tp : ∀ {a xs ep}, Z a = some ⟨.type "tuple", none, .seq xs ep, #[]⟩ → s.heap.IsTuple a xs := fun g => ⟨_, zk _ _ g, rfl, _, rfl⟩
    revert h
    cases a with
    | none => exact fun h => plainD.r (G := fun y v => EqAt A s .none v (eqB .none y)) h b (EqAt.same _) (fun _ _ _ => EqAt.none_int _ _) (fun _ _ _ => EqAt.none_str _ _) (fun _ _ _ _ g _ => EqAt.none_tuple (tp g) hu0)
    | @bool p => exact fun h => isB_r (G := fun y v => EqAt A s (.bool p) v (eqB (.bool p) y)) h b fun q => eqc (bb_eq p q).symm (EqAt.bool_bool _ _)
    | @int f i t => exact fun h => plainD.r (G := fun y v => EqAt A s (.int i t) v (eqB (.int f i) y)) h b (EqAt.int_none _ _) (fun _ j _ => eqc (int_beq i j) (EqAt.int_int _ _ _ _)) (fun _ _ _ => EqAt.int_str _ _ _ _) (fun _ _ _ _ g _ => EqAt.int_tuple _ _ (tp g) hu0)
    | @str f i t => exact fun h => plainD.r (G := fun y v => EqAt A s (.str i t) v (eqB (.str f i) y)) h b (EqAt.str_none _ _) (fun _ _ _ => EqAt.str_int _ _ _ _) (fun _ j _ => eqc (sq_beq i j).symm (EqAt.str_str _ _ _ _)) (fun _ _ _ _ g _ => EqAt.str_tuple _ _ (tp g) hu0)
    | @byt p t => exact fun h => isY_r (G := fun y v => EqAt A s (.bytes p t) v (eqB (.byt p) y)) h b (fun q _ => eqc (lq8 p q).symm (EqAt.bytes_bytes _ _ _ _)) (fun _ _ _ _ g _ => EqAt.bytes_tuple _ _ (tp g) hu0)
    | @tup l t xs ep g vs =>
      intro h
      rcases tup_or h with ⟨r, rfl, h'⟩ | ⟨h', q⟩
      · obtain ⟨t', ys, ep', g', vs', rfl⟩ := b.i
        by_cases q : t = t'
        · subst q
          rw [vd_same (n + 1) h (.tup g vs) b]
          exact EqAt.same _
        · refine EqAt.of_refs q ?_
          show RcAt A s _ _ (eqBs l r)
          rw [← eqBs_range, vs.len.trans Array.length_toList, vs'.len.trans Array.length_toList]
          refine RcAt.tuples (tp g) (tp g') hu0 fun j h1 h2 => ?_
          obtain ⟨x, e1, e2⟩ := vs.get (j := j) (v := xs[j]) (Array.getElem?_toList.trans (Array.getElem?_eq_getElem h1))
          obtain ⟨y, e3, e4⟩ := vs'.get (j := j) (v := ys[j]) (Array.getElem?_toList.trans (Array.getElem?_eq_getElem h2))
          rw [eqJ_of e1 e3]
          exact ih (all2_get h' e1 e3) e2 e4 (by show A.units + 1 + n < cLine; rwa [Nat.add_assoc, Nat.add_comm 1])
      · exact plainD.r (G := fun y v => isT y = false → EqAt A s (.ref t) v (eqB (.tup l) y)) h' b (fun _ => EqAt.tuple_none (tp g) hu0) (fun _ _ _ _ => EqAt.tuple_int _ _ (tp g) hu0) (fun _ _ _ _ => EqAt.tuple_str _ _ (tp g) hu0) (fun _ _ _ _ _ _ q => fT q.symm) q
    | _ => exact fun h => fT h
end
end
section
open PyProof.V PySem.SeqAt
theorem pylong_small {a b : Int} (h0 : 0 < b) (h1 : b < 2 ^ 60) : ¬ Builtin.divisionGoesByPylong a b = true := by
  unfold Builtin.divisionGoesByPylong
  intro h
  simp only [Bool.and_eq_true, decide_eq_true_eq] at h
  have h := h.1
  have hb : (b == 0) = false := by rw [beq_eq_false_iff_ne]; omega
  rw [hb] at h
  simp only [Bool.false_eq_true, if_false] at h
  have hn : b.natAbs < 2 ^ 60 := by omega
  have : b.natAbs.log2 < 60 := (Nat.log2_lt (by omega)).mpr hn
  omega
theorem subS_one {a b : Str} {c : Nat} (h : a.cps.toList = [c]) : subS a b = decide (c ∈ b.cps.toList) := by
  unfold subS
  rw [h]
  dsimp only
  rw [Bool.eq_iff_iff, List.any_eq_true, decide_eq_true_eq]
  exact ⟨fun ⟨x, hx, e⟩ => (Nat.eq_of_beq_eq_true e) ▸ hx, fun hx => ⟨c, hx, Nat.beq_refl c⟩⟩
theorem isOne_ok {a : Str} (h : isOne a = true) : ∃ c, a.cps.toList = [c] ∧ a = ⟨#[c]⟩ := by
  obtain ⟨⟨l⟩⟩ := a
  cases l with
  | nil => exact fT h
  | cons c l => cases l with
    | nil => exact ⟨c, rfl, rfl⟩
    | cons => exact fT h
noncomputable def isTx (a : Str) : Value → Bool
  | .str b _ => a == b
  | _ => false
theorem isTx_eq (a b : Str) (t u : Tok) (A : Around) (s : Shared) : EqAt A s (.str b u) (.str a t) (isTx a (.str b u)) := by
  have := EqAt.str_str (A := A) (s := s) b u a t
  rwa [show (b == a) = isTx a (.str b u) from by unfold isTx; rw [Bool.eq_iff_iff, beq_iff_eq, beq_iff_eq]; exact eq_comm] at this
theorem memS_go {Z : ZH} {a : Str} {t : Tok} : ∀ (l : List Dat) {vs : List Value} {r : Bool × Bool}, memS a l = some r → VDs Z l vs → (∀ y ∈ vs, ∀ A s, EqAt A s y (.str a t) (isTx a y)) ∧ vs.any (isTx a) = r.1 := by
  intro l
  induction l with
  | nil => intro vs r h v; cases v; cases h; exact ⟨fun _ m => (nomatch m), rfl⟩
  | cons x l ih =>
    intro vs r h v
    cases v with
    | cons p q =>
      cases x with
      | str y x =>
        obtain ⟨u, rfl⟩ := p.i
        refine uO.r h fun w h e => ?_
        cases h
        obtain ⟨i1, i2⟩ := ih e q
        refine ⟨fun y m => (List.mem_cons.mp m).elim (fun e A s => e ▸ isTx_eq a x t u A s) (i1 y), ?_⟩
        show (a == x || _) = (sq a x || w.1)
        rw [sq_beq, i2]
      | _ => exact nn h
theorem memS_ok {Z : ZH} {a : Str} {t : Tok} {l : List Dat} {vs : List Value} {r : Bool × Bool} (h : memS a l = some r) (v : VDs Z l vs) : ∃ e : Value → Bool, (∀ y ∈ vs, ∀ A s, EqAt A s y (.str a t) (e y)) ∧ vs.any e = r.1 := ⟨_, memS_go l h v⟩
theorem lk_keyS (x : Str) (l : List (Str × Dat)) : keyS x l = (lk l x).isSome := by
  induction l with
  | nil => rfl
  | cons a r ih =>
    show (sq x a.1 || keyS x r) = (bif sq a.1 x then some a.2 else lk r x).isSome
    rw [ih, show sq x a.1 = sq a.1 x from (sq_beq _ _).trans (beq_sq _ _)]
    cases sq a.1 x <;> rfl
section
variable {c : Cx} {T : Tb} {p : Pl} {W : Wd} {sh : Shared} {s : S} {d : Nat}
theorem isSame_none {M : Model} {A : Around} {E : Value → Shared → Prop} {Q : Bool → Shared → Prop} {a : SV} {va : Value} (hd : isDat a = true) (r : VR W a va) (q : Q (isNone a) sh) : wpAny M A (isSame va .none) Q E sh := by
  cases r with
  | d r => cases r <;> first | exact wpAny_pure q | cases hd
  | inst => exact wpAny_pure q
  | lst => exact wpAny_pure q
  | tup => exact wpAny_pure q
variable {P : List Prop} {oc : Oc Bool} {va vb : Value} {Q : Value → Shared → Prop} {E : Value → Shared → Prop} {neg : Bool}
noncomputable def neO : Bool → CmpOp
  | true => .NotEq
  | false => .Eq
noncomputable def niO : Bool → CmpOp
  | true => .NotIn
  | false => .In
theorem eqT_ok {l r : List Dat} {a b : Addr} {xs ys : Array Value} {e1 e2 : Nat} (h : eqT l r neg s = some (P, oc)) (hp : okL P) (A : AOk p.A p.fl p.envs d) (I : Inv c.h₀ p.fl s.σ W sh.heap) (g1 : W.Z a = some ⟨.type "tuple", none, .seq xs e1, #[]⟩) (v1 : VDs W.Z l xs.toList)
    (g2 : W.Z b = some ⟨.type "tuple", none, .seq ys e2, #[]⟩) (v2 : VDs W.Z r ys.toList) (z : Post c p BR oc W sh Q E) : wpAny c.M p.A (richCompare (neO neg) (.ref a) (.ref b)) Q E sh := by
  have both : all2 (eqOk 7) l r = true ∧ Q (.bool (flip neg (eqBs l r))) sh := by
    refine hE.r h (fun v hs h => ?_) fun h => uW.r h fun h q => ⟨q, z.dec (n := sh.toks) h hp I rfl⟩
    cases h
    obtain ⟨q1, rfl, -⟩ := hp
    exact ⟨q1, z sh W _ (.refl ..) I (.refl _) rfl⟩
  have hu : p.A.units + 30 < cLine := Nat.lt_of_le_of_lt (Nat.add_le_add_right (Nat.le_add_right _ _) 30) A.units
  have n1 : l.length = xs.size := v1.len.trans Array.length_toList
  have n2 : r.length = ys.size := v2.len.trans Array.length_toList
  have he : ∀ j (h1 : j < xs.size) (h2 : j < ys.size), EqAt p.A.in1 sh xs[j] ys[j] (eqJ l r j) := fun j h1 h2 => by
    obtain ⟨x, e1, e2⟩ := v1.get (j := j) (v := xs[j]) (by simp [h1])
    obtain ⟨y, e3, e4⟩ := v2.get (j := j) (v := ys[j]) (by simp [h2])
    rw [eqJ_of e1 e3]
    exact eq_dat (fun a o g => I.zk a o g) (all2_get both.1 e1 e3) e2 e4 (Nat.lt_of_le_of_lt (Nat.add_le_add_left (by decide : 8 ≤ 30) _) hu)
  have hu := Nat.lt_of_le_of_lt (Nat.le_add_right _ _) hu
  have q := both.2
  rw [← eqBs_range, n1, n2] at q
  cases neg with
  | true => exact RcNeAt.tuples ⟨_, I.zk _ _ g1, rfl, _, rfl⟩ ⟨_, I.zk _ _ g2, rfl, _, rfl⟩ hu he _ _ _ _ q
  | false => exact RcAt.tuples ⟨_, I.zk _ _ g1, rfl, _, rfl⟩ ⟨_, I.zk _ _ g2, rfl, _, rfl⟩ hu he _ _ _ _ q
theorem eqS_ok {x y : Dat} (h : eqS x y neg s = some (P, oc)) (hp : okL P) (A : AOk p.A p.fl p.envs d) (I : Inv c.h₀ p.fl s.σ W sh.heap) (rx : VD W.Z x va) (ry : VD W.Z y vb) (z : Post c p BR oc W sh Q E) :
    wpAny c.M p.A (richCompare (neO neg) va vb) Q E sh := by
  cases x with
  | str y1 a => cases y with
    | str y2 b =>
      obtain ⟨_, rfl⟩ := rx.i; obtain ⟨_, rfl⟩ := ry.i
      have h : dec (y1 || y2) (flip neg (sq a b)) s = some (P, oc) := h
      have q := z.dec (n := sh.toks) h hp I rfl
      rw [sq_beq] at q
      cases neg with
      | true => exact RcNeAt.str_str _ _ _ _ _ _ _ _ q
      | false => exact RcAt.str_str _ _ _ _ _ _ _ _ q
    | _ => exact nn h
  | int y1 a => cases y with
    | int y2 b =>
      obtain ⟨_, rfl⟩ := rx.i; obtain ⟨_, rfl⟩ := ry.i
      have h : dec (y1 || y2) (flip neg (decide (a = b))) s = some (P, oc) := h
      have q := z.dec (n := sh.toks) h hp I rfl
      rw [← int_beq] at q
      cases neg with
      | true => exact RcNeAt.int_int _ _ _ _ _ _ _ _ q
      | false => exact PySem.P.eq_int q
    | _ => exact nn h
  | tup l => cases y with
    | tup r =>
      obtain ⟨a, xs, ep, g, vs, rfl⟩ := rx.i
      obtain ⟨a', xs', ep', g', vs', rfl⟩ := ry.i
      exact eqT_ok h hp A I g vs g' vs' z
    | _ => exact nn h
  | _ => exact nn h
theorem inT_ok {y : Bool} {x : Str} {tk : Tok} {l : List Dat} {a : Addr} {xs : Array Value} {ep : Nat} {r : Bool × Bool} (hm : memS x l = some r) (h : dec y (flip neg r.1) s = some (P, oc)) (hp : okL P) (I : Inv c.h₀ p.fl s.σ W sh.heap)
    (g : W.Z a = some ⟨.type "tuple", none, .seq xs ep, #[]⟩) (vs : VDs W.Z l xs.toList) (z : Post c p BR oc W sh Q E) : wpAny c.M p.A (compareOp (niO neg) (.str x tk) (.ref a)) Q E sh := by
  obtain ⟨f, f1, f2⟩ := memS_ok (t := tk) hm vs
  have q := z.dec (n := sh.toks) h hp I rfl
  rw [← f2, Array.any_toList] at q
  cases neg with
  | true => exact notIn_tupleAt f ⟨_, I.zk _ _ g, rfl, _, rfl⟩ (fun y hy => f1 y (Array.mem_toList_iff.mpr hy) _ _) q
  | false => exact in_tupleAt f ⟨_, I.zk _ _ g, rfl, _, rfl⟩ (fun y hy => f1 y (Array.mem_toList_iff.mpr hy) _ _) q
theorem inC_ok {y : Bool} {x t : Str} {tk tk' : Tok} (h1 : isOne x = true) (h : dec y (flip neg (subS x t)) s = some (P, oc)) (hp : okL P) (I : Inv c.h₀ p.fl s.σ W sh.heap)
    (z : Post c p BR oc W sh Q E) : wpAny c.M p.A (compareOp (niO neg) (.str x tk) (.str t tk')) Q E sh := by
  obtain ⟨ch, e1, e2⟩ := isOne_ok h1
  have q := z.dec (n := sh.toks) h hp I rfl
  rw [subS_one e1, ← StrLaws.found_one t ch] at q
  subst e2
  cases neg with
  | true => exact PySem.P.notIn_str q
  | false => exact PySem.P.in_str q
theorem inD_ok (D : DOk c T) {y : Bool} {x : Str} {tk : Tok} {a : Addr} {l : List (Str × Dat)} (hl : T.D a = some l) (h : dec y (flip neg (keyS x l)) s = some (P, oc)) (hp : okL P) (I : Inv c.h₀ p.fl s.σ W sh.heap)
    (z : Post c p BR oc W sh Q E) : wpAny c.M p.A (compareOp (niO neg) (.str x tk) (.ref a)) Q E sh := by
  have q := fun n => z.dec (n := n) h hp I rfl
  have f1 : keyS x l = (Spec.lookup (.str x) (l.map fun p => (PyData.str p.1, toPy p.2))).isSome := by rw [lookup_map, lk_keyS]; cases lk l x <;> rfl
  rw [f1] at q
  cases neg with
  | true => exact notin_strTab ((D.tab _ _ hl).1.keep I.h0) (q _)
  | false => exact in_strTab ((D.tab _ _ hl).1.keep I.h0) (q _)
theorem inS_ok (D : DOk c T) {a b : SV} (h : inS T a b neg s = some (P, oc)) (hp : okL P) (I : Inv c.h₀ p.fl s.σ W sh.heap) (ra : VR W a va) (rb : VR W b vb)
    (z : Post c p BR oc W sh Q E) : wpAny c.M p.A (compareOp (niO neg) va vb) Q E sh :=
  uS.r (G := fun v => wpAny _ _ (compareOp _ v _) _ _ _) h ra fun _ _ _ h => uC.r (G := fun v => wpAny _ _ (compareOp _ _ v) _ _ _) h I rb (fun _ _ _ _ _ h => nomatch h) (fun _ _ _ _ _ h => nomatch h)
    (fun _ _ _ _ h g vs => uO.r h fun _ h hm => inT_ok hm h hp I g vs z) (fun _ _ _ h => uW.r h fun h h1 => inC_ok h1 h hp I z) fun _ _ h hl => inD_ok D hl h hp I z
theorem snd_cmpP (D : DOk c T) {op : CmpOp} {a b : SV} (h : cmp T op a b s = some (P, oc)) (hp : okL P) (A : AOk p.A p.fl p.envs d) (I : Inv c.h₀ p.fl s.σ W sh.heap) (ra : VR W a va) (rb : VR W b vb) :
    Run c p (compareOp op va vb) (fun _ (x : Bool) v => v = .bool x) oc W sh := by
  intro Q E z
  cases op with
  | Is => exact uW.r h fun h hb => uW.r h fun h hd => isNone.r (G := fun v => wpAny _ _ (compareOp _ _ v) _ _ _) hb rb (wpAny_bind (isSame_none hd ra (wpAny_pure (z.tk (n := sh.toks) h I rfl))))
  | IsNot => exact uW.r h fun h hb => uW.r h fun h hd => isNone.r (G := fun v => wpAny _ _ (compareOp _ _ v) _ _ _) hb rb (wpAny_bind (isSame_none hd ra (wpAny_pure (z.tk (n := sh.toks) h I rfl))))
  | Eq => exact uD.r h ra fun x h rx => uD.r h rb fun y h ry => eqS_ok (neg := false) h hp A I rx ry z
  | NotEq => exact uD.r h ra fun x h rx => uD.r h rb fun y h ry => eqS_ok (neg := true) h hp A I rx ry z
  | Lt => exact i2.r (G := fun v w => wpAny _ _ (compareOp _ v w) _ _ _) h ra rb fun _ _ _ _ _ _ h => PySem.P.lt_int (z.dec (n := sh.toks) h hp I rfl)
  | LtE => exact i2.r (G := fun v w => wpAny _ _ (compareOp _ v w) _ _ _) h ra rb fun _ _ _ _ _ _ h => PySem.P.le_int (z.dec (n := sh.toks) h hp I rfl)
  | Gt => exact i2.r (G := fun v w => wpAny _ _ (compareOp _ v w) _ _ _) h ra rb fun _ _ _ _ _ _ h => PySem.P.gt_int (z.dec (n := sh.toks) h hp I rfl)
  | GtE => exact i2.r (G := fun v w => wpAny _ _ (compareOp _ v w) _ _ _) h ra rb fun _ _ _ _ _ _ h => PySem.P.ge_int (z.dec (n := sh.toks) h hp I rfl)
  | In => exact inS_ok (neg := false) D h hp I ra rb z
  | NotIn => exact inS_ok (neg := true) D h hp I ra rb z
end
end
section
open PyProof.V PySem.SeqAt
theorem gi_ok {l : List Dat} {i : Int} {d : Dat} (h : gi l i = some d) : ∃ n : Nat, i = (n : Int) ∧ l[n]? = some d := by
  cases i with
  | ofNat n => exact ⟨n, rfl, (nth_eq _ _).symm.trans h⟩
  | negSucc => cases h
theorem VDs.getD {Z : ZH} : ∀ (l : List Dat) {vs : List Value} {j : Nat} {d : Dat}, VDs Z l vs → l[j]? = some d → ∃ v, vs[j]? = some v ∧ VD Z d v := by
  intro l
  induction l with
  | nil => intro _ _ _ _ e; cases e
  | cons x l ih =>
    intro vs j d v e
    cases v with
    | cons a b => cases j with
      | zero => cases e; exact ⟨_, rfl, a⟩
      | succ j => obtain ⟨w, h1, h2⟩ := ih (j := j) b e; exact ⟨w, h1, h2⟩
theorem seqIndex_nat {n k : Nat} (h : n < k) : seqIndex? (n : Int) k = some n := by
  unfold seqIndex?
  have : ¬ ((n : Int) < 0) := Int.not_lt.mpr (Int.natCast_nonneg n)
  simp [this]; omega
theorem noSlice {M : Model} {A : Around} {E : Value → Shared → Prop} {s : Shared} {prog : Program} {w : World} {value slice : Expr} {o i : Value} {T id : String} {Q : Value → Shared → Prop} (hT : s.TypeIs o T)
    (hl : typeLookup (.type T) "__getitem__" = pure (some (.builtin id))) (h : wpAny (model prog w) A (getItem o i) Q E s)
    (hs : ∃ l, subscripted slice false o i = operate l (getItem o i)) : wpAny (model prog w) A (subscriptTail value slice o i) Q E s := by
  obtain ⟨l, hs⟩ := hs
  unfold subscriptTail
  refine wpAny_bind ?_
  rw [getitemInPython_of_ne hT.not_modules]
  refine wpAny_bind (wpAny_specialOf hT hl ?_)
  have fin : wpAny (model prog w) A (subscripted slice false o i) (fun r s₃ => wpAny (model prog w) A (letTemporaryGo value o r >>= fun _ => pure r) Q E s₃) E s := by
    rw [hs]
    exact wpAny_operating (wpAny_mono h (fun r s₃ h₃ => wpAny_bind (wpAny_letTemporaryGo (wpAny_pure h₃))) fun _ _ x => x)
  first
    | exact wpAny_pure (wpAny_bind fin)
    | exact wpAny_bind (wpAny_pure (wpAny_bind fin))
    | exact wpAny_bind fin
theorem sub_shape (slice : Expr) (o i : Value) : ∃ l, subscripted slice false o i = operate l (getItem o i) := by
  cases slice with
  | Slice a b c p => cases c <;> exact ⟨_, rfl⟩
  | _ => exact ⟨_, rfl⟩
theorem nil_app (u : Str) : (⟨#[]⟩ : Str) ++ u = u := by
  obtain ⟨v⟩ := u
  show Str.mk (#[] ++ v) = Str.mk v
  rw [Array.empty_append]
theorem app_nil (u : Str) : u ++ (⟨#[]⟩ : Str) = u := by
  obtain ⟨v⟩ := u
  show Str.mk (v ++ #[]) = Str.mk v
  rw [Array.append_empty]
section
variable {c : Cx} {T : Tb} {p : Pl} {W : Wd} {sh : Shared} {s : S} {d : Nat} {P : List Prop} {oc : Oc SV} {Q : Value → Shared → Prop} {E : Value → Shared → Prop} {va vb : Value}
theorem str_nil {x : Str} (q : (x.length == 0) = true) : x = ⟨#[]⟩ := by
  obtain ⟨⟨l⟩⟩ := x
  have : l.length = 0 := by simpa [Str.length] using q
  rw [List.length_eq_zero_iff.mp this]
theorem addS {y : Bool} {t u : Str} {tk tk' : Tok} (h : (bnd (siz y (t ++ u) s) fun _ s => ret (.d (.str y (t ++ u))) s) = some (P, oc)) (hp : okL P) (I : Inv c.h₀ p.fl s.σ W sh.heap) (z : Post c p VR oc W sh Q E) :
    wpAny c.M p.A (binaryOp .Add (.str t tk) (.str u tk')) Q E sh := by
  refine siz.r h hp fun P' h _ hl => PySem.P.add_str ?_
  have fin : ∀ {tk n}, Q (.str (t ++ u) tk) { sh with toks := n } := z.tk h I (.d .str)
  split
  · rename_i q
    have := str_nil q; subst this
    rw [nil_app] at fin
    exact fin
  · split
    · rename_i q
      have := str_nil q; subst this
      rw [app_nil] at fin
      exact fin
    · exact ⟨le_size hl, fin⟩
theorem VDs.cat {Z : ZH} {r : List Dat} {vs : List Value} (b : VDs Z r vs) : ∀ (l : List Dat) {us : List Value}, VDs Z l us → VDs Z (l ++ r) (us ++ vs) := by
  intro l
  induction l with
  | nil => intro us a; cases a; exact b
  | cons x l ih => intro us a; cases a with | cons p q => exact .cons p (ih q)
theorem addL {l r : List Dat} {a b : Addr} {xs ys : Array Value} {ep ep' : Nat} (h : (bnd (owe (l.length + r.length ≤ 100000) s) fun _ s => ret (.lst (len s.σ)) (new s (.lst (l ++ r)))) = some (P, oc)) (hp : okL P) (I : Inv c.h₀ p.fl s.σ W sh.heap)
    (g1 : sh.heap.get? a = some ⟨.type "list", none, .seq xs ep, #[]⟩) (v1 : VDs W.Z l xs.toList) (g2 : sh.heap.get? b = some ⟨.type "list", none, .seq ys ep', #[]⟩) (v2 : VDs W.Z r ys.toList) (z : Post c p VR oc W sh Q E) :
    wpAny c.M p.A (binaryOp .Add (.ref a) (.ref b)) Q E sh := by
  refine owe.r h hp fun P' h _ hle => ?_
  have hs : xs.size + ys.size ≤ sizeLine := by rw [← Array.length_toList, ← Array.length_toList, ← v1.len, ← v2.len]; exact Nat.le_trans hle (by rw [sizeLine_eq]; decide)
  refine concat_meets ⟨_, g1, rfl⟩ ⟨_, g2, rfl⟩ noFill_list_add seq_list_add PySem.F.slot_list_add PySem.F.entry_list_add (PySem.F.args_list_add_2 _ _) (list_addW a b xs ys ep ep' none none #[] #[] hs) ⟨g1, g2, ?_⟩
  obtain ⟨dz, -, -⟩ := I.fresh (Nat.le_refl sh.heap.objs.size)
  obtain ⟨J, S⟩ := I.push (h' := sh.heap.push { cls := .type "list", data := .seq (xs ++ ys) }) (e := .lst (l ++ r)) (Nat.le_refl _) (by rw [Heap.size_push]; exact Nat.lt_succ_self _) (fun b o e => Heap.get?_push_of_some _ e)
    (fun W' e le => .lst (e ▸ dz) (Heap.get?_push_size _ rfl) (by rw [e, Array.toList_append]; exact v2.cat l v1))
  cases h
  exact z { sh with heap := _ } _ _ S J ⟨rfl, rfl⟩ (.lst (by rw [len_eq, ← I.len]; simp))
theorem i_ne {j : Int} (h : 0 < j) : ¬(j == 0) = true := fun e => Int.lt_irrefl 0 (beq_iff_eq.mp e ▸ h)
theorem small_ok {j : Int} (h : small j = true) : 0 < j ∧ j < 2 ^ 60 := and_dec h
theorem snd_binP {op : Operator} {a b : SV} (h : bin op a b s = some (P, oc)) (hp : okL P) (A : AOk p.A p.fl p.envs d) (I : Inv c.h₀ p.fl s.σ W sh.heap) (ra : VR W a va) (rb : VR W b vb) :
    Run c p (binaryOp op va vb) VR oc W sh := by
  intro Q E z
  cases op with
  | Add =>
    have h : uA a s.σ (fun y i => uI b fun z j => ret (.d (.int (y || z) (i + j))) s) (fun y t => uS b fun z u => bnd (siz (y || z) (t ++ u) s) fun _ s => ret (.d (.str (y || z) (t ++ u))) s)
      (fun _ l => uL b s.σ fun _ r => bnd (owe (l.length + r.length ≤ 100000) s) fun _ s => ret (.lst (len s.σ)) (new s (.lst (l ++ r)))) = some (P, oc) := h
    refine uA.r (G := fun v => wpAny _ _ (binaryOp _ v _) _ _ _) h I ra (fun _ _ _ h => ?_) (fun _ _ _ h => ?_) fun _ _ _ _ _ h _ _ g v => ?_
    · exact uI.r (G := fun v => wpAny _ _ (binaryOp _ _ v) _ _ _) h rb fun _ _ _ h => PySem.P.add_int (z.tk h I (.d .int))
    · exact uS.r (G := fun v => wpAny _ _ (binaryOp _ _ v) _ _ _) h rb fun _ _ _ h => addS h hp I z
    · exact uL.r (G := fun v => wpAny _ _ (binaryOp _ _ v) _ _ _) h I rb fun _ _ _ _ _ h _ _ g' v' => addL h hp I g v g' v' z
  | Sub => exact i2.r (G := fun v w => wpAny _ _ (binaryOp _ v w) _ _ _) h ra rb fun _ _ _ _ _ _ h => PySem.P.sub_int (z.tk h I (.d .int))
  | Mult => exact i2.r (G := fun v w => wpAny _ _ (binaryOp _ v w) _ _ _) h ra rb fun _ _ _ _ _ _ h => owe.r h hp fun _ h _ ho => PySem.P.mul_int (z.tk h I (.d .int)) ho
  | Mod => exact i2.r (G := fun v w => wpAny _ _ (binaryOp _ v w) _ _ _) h ra rb fun _ _ i j _ _ h => owb.r h hp small_ok fun _ h _ q => AutoIntOps.mod_1 (i_ne q.1) (by rw [Int.fmod_eq_emod_of_nonneg _ (Int.le_of_lt q.1)]; show Q _ _; exact z.tk h I (.d .int))
  | FloorDiv => exact i2.r (G := fun v w => wpAny _ _ (binaryOp _ v w) _ _ _) h ra rb fun _ _ i j _ _ h => owb.r h hp small_ok fun _ h _ q => AutoIntOps.floordiv_1 (i_ne q.1) (pylong_small q.1 q.2) (by rw [Int.fdiv_eq_ediv_of_nonneg _ (Int.le_of_lt q.1)]; show Q _ _; exact z.tk h I (.d .int))
  | Pow =>
    refine i2.r (G := fun v w => wpAny _ _ (binaryOp _ v w) _ _ _) h ra rb fun _ _ i j _ _ h => uW.r h fun h q1 => uW.r h fun h q2 => ?_
    rw [of_decide_eq_true q1, of_decide_eq_true q2]
    have q : ∀ t n, Q (.int 1000000000000000000 t) { sh with toks := n } := fun t n => z.tk h I (.d .int)
    exact AutoIntOps.pow_4 (by decide) (by decide) (by decide) (by decide) (by decide) (q _ _)
  | _ => exact nn h
end
end
section
open PyProof.V PySem.SeqAt
noncomputable def PtR (W : Wd) (v : Option SV) (x : Value) : Prop := match v with
  | none => x = .none
  | some s => VR W s x
theorem part_of {W : Wd} {v : Option SV} {x : Value} {q : Bool × Option Int} {B : Prop} (h : sInt v = some q) (r : PtR W v x) (H : ∀ l : Option (Int × Tok), x = partValue l → l.map (·.1) = q.2 → B) : B := by
  cases v with
  | none => cases h; exact H none r rfl
  | some v => exact uI.r (G := fun x => (∀ l : Option (Int × Tok), x = partValue l → l.map (·.1) = q.2 → B) → B) h r (fun y i t h H => by cases h; exact H (some (i, t)) rfl rfl) H
theorem strAt_ok {x : Str} {i : Int} {ch : Str} {B : Prop} (h : strAt x i = some ch) (H : ∀ n cc : Nat, i = n → x.cps.toList[n]? = some cc → ch = ⟨#[cc]⟩ → n < x.length → B) : B := by
  cases i with
  | ofNat n =>
    unfold strAt at h
    dsimp only at h
    cases hcc : nth x.cps.toList n with
    | none => rw [hcc] at h; cases h
    | some cc =>
      rw [hcc] at h
      cases h
      rw [nth_eq] at hcc
      exact H n cc rfl hcc rfl (by have := (List.getElem?_eq_some_iff.mp hcc).1; simpa [Str.length] using this)
  | negSucc => cases h
section
variable {c : Cx} {T : Tb} {p : Pl} {W : Wd} {sh : Shared} {s : S} {d : Nat} {R : Rec} {se : SE} {env : Env}
theorem snd_pt (S : Snd c R) {e : Option Expr} : Rt c se (evPt R se e s) s.σ (evalPart e) PtR := by
  intro P o h hp p env W sh A V I Q E z
  cases e with
  | none => cases h; exact wpAny_pure (z.now I rfl rfl (.refl _))
  | some e =>
    rw [evalPart_some]
    exact bndR h hp (S.e se e s) A V I z fun P2 v s1 sh1 W1 va h2 p2 L1 I1 r1 z => z.ret h2 I1 r1
variable {P : List Prop} {oc : Oc SV} {Q : Value → Shared → Prop} {E : Value → Shared → Prop} {value slice : Expr}
theorem item_lst {y : Bool} {l : List Dat} {i : Int} {t : Tok} {a : Addr} {xs : Array Value} (hl : sh.heap.IsList a xs) (vs : VDs W.Z l xs.toList) (hi : i < 2 ^ 60) (h : itm y (gi l i) s = some (P, oc)) (hp : okL P) (I : Inv c.h₀ p.fl s.σ W sh.heap)
    (z : Post c p VR oc W sh Q E) : wpAny c.M p.A (subscriptTail value slice (.ref a) (.int i t)) Q E sh := by
  refine z.itm h hp I fun d hg fin => ?_
  obtain ⟨n, rfl, hn⟩ := gi_ok hg
  obtain ⟨v, e1, e2⟩ := vs.getD _ hn
  rw [Array.getElem?_toList] at e1
  exact noSlice (M := c.M) hl.typeIs slot_list_getitem.lookup (wpAny_getItem_list hl (Int.natCast_nonneg n) (Int.lt_trans hi (by decide)) e1 (fin v sh.toks e2)) (sub_shape ..)
theorem item_tup {y : Bool} {l : List Dat} {i : Int} {t : Tok} {a : Addr} {xs : Array Value} (ht : IsTup sh.heap a xs) (vs : VDs W.Z l xs.toList) (hi : i < 2 ^ 60) (h : itm y (gi l i) s = some (P, oc)) (hp : okL P) (I : Inv c.h₀ p.fl s.σ W sh.heap)
    (z : Post c p VR oc W sh Q E) : wpAny c.M p.A (subscriptTail value slice (.ref a) (.int i t)) Q E sh := by
  refine z.itm h hp I fun d hg fin => ?_
  obtain ⟨n, rfl, hn⟩ := gi_ok hg
  obtain ⟨v, e1, e2⟩ := vs.getD _ hn
  rw [Array.getElem?_toList] at e1
  exact noSlice (M := c.M) ht.typeIs PyProof.Rows.slot_tuple_getitem.lookup (getItem_tuple ht (Int.le_trans (by decide) (Int.natCast_nonneg n)) (Int.lt_trans hi (by decide)) (seqIndex_nat (Array.getElem?_eq_some_iff.mp e1).1) e1 (fin v sh.toks e2)) (sub_shape ..)
theorem item_str {y : Bool} {x : Str} {tk : Tok} {i : Int} {t : Tok} (hi : i < 2 ^ 60) (h : itmS y (strAt x i) s = some (P, oc)) (hp : okL P) (I : Inv c.h₀ p.fl s.σ W sh.heap)
    (z : Post c p VR oc W sh Q E) : wpAny c.M p.A (subscriptTail value slice (.str x tk) (.int i t)) Q E sh := by
  refine z.itmS h hp I fun u hg fin => strAt_ok hg fun n cc e hcc e' hlt => ?_
  subst e e'
  refine noSlice (M := c.M) (typeIs_str sh x _) F.slot_str_getitem.lookup (PySem.P.getItem_str (c := cc) ?_ ?_ (fin _ _)) (sub_shape ..)
  · exact Bool.or_eq_false_iff.mpr ⟨decide_eq_false (Int.not_lt.mpr (Int.le_trans (by decide) (Int.natCast_nonneg n))), decide_eq_false (Int.not_le.mpr (Int.lt_trans hi (by decide)))⟩
  · rw [seqIndex_nat hlt, ← hcc, Array.getElem?_toList]
    rfl
theorem item_tab (D : DOk c T) {a : Addr} {l : List (Str × Dat)} {x : Str} {tk : Tok} {w : Dat} (hl : T.D a = some l) (hw : lk l x = some w) (h : ret (.d w) s = some (P, oc)) (I : Inv c.h₀ p.fl s.σ W sh.heap)
    (z : Post c p VR oc W sh Q E) : wpAny c.M p.A (subscriptTail value slice (.ref a) (.str x tk)) Q E sh := by
  obtain ⟨t1, t2⟩ := D.tab _ _ hl
  have ll : Spec.lookup (.str x) (l.map fun p => (PyData.str p.1, toPy p.2)) = some (toPy w) := by rw [lookup_map, hw]; rfl
  obtain ⟨lo, kvs, hd, hf⟩ := t1.keep I.h0
  obtain ⟨v, hv, hfl⟩ := hf.of_lookup same_str ll
  exact noSlice (M := c.M) hd.typeIs slot_dict_getitem.lookup (wpAny_getItem_of (strKind_is _ _ x _) hd.mapOf hv (z.tk h I (.d (flat_vd (t2 _ (lk_mem hw)) hfl)))) (sub_shape ..)
theorem snd_item (D : DOk c T) {o i : SV} (h : sub T o i s = some (P, oc)) (hp : okL P) {vo vi : Value} (A : AOk p.A p.fl p.envs d) (I : Inv c.h₀ p.fl s.σ W sh.heap) (ro : VR W o vo) (ri : VR W i vi) :
    Run c p (subscriptTail value slice vo vi) VR oc W sh := fun Q E z =>
  uC.r (G := fun v => wpAny _ _ (subscriptTail _ _ v _) _ _ _) h I ro
    (fun _ _ _ _ _ h _ _ g vs => uI.r (G := fun v => wpAny _ _ (subscriptTail _ _ _ v) _ _ _) h ri fun _ _ _ h => owb.r h hp of_decide_eq_true fun _ h hp hi => item_lst ⟨_, g, rfl, _, rfl⟩ vs hi h hp I z)
    (fun _ _ _ _ _ h g vs => uI.r (G := fun v => wpAny _ _ (subscriptTail _ _ _ v) _ _ _) h ri fun _ _ _ h => owb.r h hp of_decide_eq_true fun _ h hp hi => item_lst ⟨_, I.zk _ _ g, rfl, _, rfl⟩ vs hi h hp I z)
    (fun _ _ _ _ h g vs => uI.r (G := fun v => wpAny _ _ (subscriptTail _ _ _ v) _ _ _) h ri fun _ _ _ h => owb.r h hp of_decide_eq_true fun _ h hp hi => item_tup ⟨_, I.zk _ _ g, rfl, _, rfl⟩ vs hi h hp I z)
    (fun _ _ _ h => uI.r (G := fun v => wpAny _ _ (subscriptTail _ _ _ v) _ _ _) h ri fun _ _ _ h => owb.r h hp of_decide_eq_true fun _ h hp hi => item_str hi h hp I z)
    fun _ _ h hl => uS.r (G := fun v => wpAny _ _ (subscriptTail _ _ _ v) _ _ _) h ri fun _ _ _ h => uW.r h fun h _ => uO.r h fun _ h hw => item_tab D hl hw h I z
theorem snd_sub (S : Snd c R) (D : DOk c T) {o i : Expr} {pos : Pos} : Rt c se (bnd (R.e se o s) fun ov s => bnd (R.e se i s) fun iv s => sub T ov iv s) s.σ (eval (.Subscript o i pos)) VR := by
  intro P oc h hp p env W sh A V I Q E z
  exact Subscript_ (bndR h hp (S.e se o s) A V I z fun _ ov s1 sh1 W1 va h p1 L1 I1 r1 z => bndR h p1 (S.e se i s1) A (V.mono L1) I1 z fun _ iv s2 sh2 W2 vb h p2 L2 I2 r2 z => snd_item D h p2 A I2 (r1.mono L2) r2 _ _ z)
theorem PtR.mono {W W' : Wd} {v : Option SV} {x : Value} (L : WLe W W') (r : PtR W v x) : PtR W' v x := by
  cases v with
  | none => exact r
  | some v => exact VR.mono L r
theorem slc_str {y : Bool} {x : Str} {tk : Tok} {l u : Option (Int × Tok)} (h : strR y (Txt.slice x (l.map (·.1)) (u.map (·.1))) s = some (P, oc)) (hp : okL P) (I : Inv c.h₀ p.fl s.σ W sh.heap)
    (z : Post c p VR oc W sh Q E) : wpAny c.M p.A (subscriptTail value slice (.str x tk) (.ref sh.heap.objs.size)) Q E { sh with heap := sh.heap.push { cls := .type "slice", data := .fields #[partValue l, partValue u, partValue none] } } := by
  obtain ⟨J, S4⟩ := I.keeps (h' := sh.heap.push { cls := .type "slice", data := .fields #[partValue l, partValue u, partValue none] }) (fun b o e => Heap.get?_push_of_some _ e) (by rw [Heap.size_push]; exact Nat.le_succ _)
  refine (z.after (s' := { sh with heap := sh.heap.push { cls := .type "slice", data := .fields #[partValue l, partValue u, partValue none] } }) S4 ⟨rfl, rfl⟩).str h hp J fun hl fin => ?_
  refine noSlice (M := c.M) (typeIs_str _ x tk) F.slot_str_getitem.lookup (wpAny_getItem_str_slice (l := l) (u := u) (st := none) ⟨_, Heap.get?_push_size _ rfl, rfl, rfl⟩ rfl ?_) (sub_shape ..)
  clear z h
  revert hl fin
  show ((if ((1 : Int) == 1 && (slicePicked x l u none).length == x.length) = true then x else ⟨((slicePicked x l u none).filterMap (x.cps[·]?)).toArray⟩).length ≤ 100000 → (∀ tk n, Q (.str (if ((1 : Int) == 1 && (slicePicked x l u none).length == x.length) = true then x else ⟨((slicePicked x l u none).filterMap (x.cps[·]?)).toArray⟩) tk) _) →
    (if ((1 : Int) == 1 && (slicePicked x l u none).length == x.length) = true then Made.val (.str x tk) else Made.str ⟨((slicePicked x l u none).filterMap (x.cps[·]?)).toArray⟩).post Q _)
  by_cases hc : ((1 : Int) == 1 && (slicePicked x l u none).length == x.length) = true
  · rw [if_pos hc, if_pos hc]; exact fun _ fin => fin tk sh.toks
  · rw [if_neg hc, if_neg hc]; exact fun hl fin => ⟨le_size hl, fin _ _⟩
theorem snd_slc (S : Snd c R) {o : Expr} {lo up : Option Expr} {q pos : Pos} : Rt c se (bnd (R.e se o s) fun ov s => bnd (evPt R se lo s) fun a s => bnd (evPt R se up s) fun b s => slc ov a b s) s.σ (eval (.Subscript o (.Slice lo up none q) pos)) VR := by
  intro P oc h hp p env W sh A V I Q E z
  refine Subscript_ (bndR h hp (S.e se o s) A V I z fun _ ov s1 sh1 W1 va h p1 L1 I1 r1 z => ?_)
  have V := V.mono L1
  refine wpAny_Slice (bndR h p1 (snd_pt S) A V I1 z fun _ a s2 sh2 W2 xa h p2 L2 I2 r2 z => ?_)
  have V := V.mono L2
  refine bndR h p2 (snd_pt S) A V I2 z fun _ b s3 sh3 W3 xb h p3 L3 I3 r3 z => ?_
  rw [evalPart_none]
  exact wpAny_pure (uS.r (G := fun v => wpAny _ _ (subscriptTail _ _ v _) _ _ _) h (r1.mono (L2.trans L3)) fun y x tk h => uO.r h fun qa h ha => uO.r h fun qb h hb => part_of ha (r2.mono L3) fun la ea e1 => part_of hb r3 fun lb eb e2 => by
    rw [← e1, ← e2] at h
    rw [ea, eb]
    exact slc_str h p3 I3 z)
end
end
section
variable {c : Cx} {T : Tb} {p : Pl} {W : Wd} {sh : Shared} {s : S} {d : Nat} {R : Rec} {se : SE}
theorem nm_eq {x : Str} {y : String} (h : nm x y = true) : x = Str.ofString y := sq_eq h
theorem line_pos {env : Env} {ap pos : Pos} {o : Expr} (h : Nat.beq ap.endLine pos.line = true) : methodCallPos true o env ap pos = pure pos := by
  unfold methodCallPos
  have : (ap.endLine == pos.line) = true := by rw [beq_iff_eq]; exact Nat.eq_of_beq_eq_true h
  simp [this]
theorem repl_len {t v : Str} (ht : t.length ≤ 100000) (h : Nat.ble (len v.cps.toList) 10 = true) : (t.length + 1) * v.length ≤ 1000010 := by
  have h1 : v.length ≤ 10 := by have := Nat.le_of_ble_eq_true h; rw [len_eq] at this; simpa [Str.length] using this
  exact Nat.mul_le_mul (Nat.succ_le_succ ht) h1
theorem snd_repl {mg mb : Str → Option Value} (G : GOk c T mg mb) {a x u v m : Str} {j1 j2 j3 : Nat} {p1 p2 p3 px ap pos q : Pos} (hm : nm m "replace" = true) (hline : Nat.beq ap.endLine pos.line = true) :
    Rt c se (evSp T R se (.repl a x u v) s) s.σ (eval (.BinOp (.Constant (.str a) j1 p1) .Add (.Call (.Attribute (.Name x px) m ap) [.Constant (.str u) j2 p2, .Constant (.str v) j3 p3] [] pos) q)) VR := by
  intro P oc h hp p env W sh A V I Q E z
  refine uN.r h fun h hd => uW.r h fun h hloc => uN.r h fun h hne => uW.r h fun h hlen => uO.r h fun w h hv => wpAny_BinOp ?_
  show wpAny _ _ (constValue env (.str a)) _ E sh
  refine wpAny_mkText ?_
  have hform : methodCallForm (2 + ([] : List Keyword).length) (backTo pos (starEach [.Constant (.str u) j2 p2, .Constant (.str v) j3 p3] env)) (backToKw pos (keywordEach [] env)) = true := rfl
  rw [arm_eval_Call, base_plain (by rfl)]
  have I' : Inv c.h₀ p.fl s.σ W ({ sh with toks := sh.toks + 1 } : Shared).heap := I
  refine wpAny_bind (ld_name G hv V I' hd fun va r => wpAny_bind (wpAny_standAt ?_))
  have hq : ∃ t tk, va = .str t tk ∧ (bnd (siz false t s) fun _ s => bin .Add (.d (.str false a)) (.d (.str false (Txt.replace t u v))) s) = some (P, oc) := uS.r (G := fun va => ∃ t tk, va = .str t tk ∧ (bnd (siz false t s) fun _ s => bin .Add (.d (.str false a)) (.d (.str false (Txt.replace t u v))) s) = some (P, oc)) h r fun y t tk h => uN.r h fun h hy => ⟨t, tk, rfl, by subst hy; exact h⟩
  obtain ⟨t, tk, rfl, h⟩ := hq
  refine siz.r h hp fun P' h hp' ht => ?_
  unfold methodCall
  rw [show ([Expr.Constant (.str u) j2 p2, .Constant (.str v) j3 p3] : List Expr).length = 2 from rfl, hform]
  have hm' := nm_eq hm
  subst hm'
  refine wpAny_bind (wpAny_holding (GM.replace ?_))
  dsimp only
  rw [line_pos hline]
  refine wpAny_bind (wpAny_pure (Calls.callWith_builtin (plain_any (pos := pos) (env := env) (by rfl)) (evalArgs_sp (by rfl) ?_)))
  show wpAny _ _ (spliced ((false, constValue env (.str u)) :: (false, constValue env (.str v)) :: [])) _ E _
  refine Calls.spliced_cons (wpAny_mkText (Calls.spliced_cons (wpAny_mkText (Calls.spliced_nil ?_))))
  refine SC.replace (Nat.succ_ne_zero _) (Nat.succ_ne_zero _) (Nat.ne_of_lt (Nat.lt_succ_self _)) (by rw [← sq_beq]; exact hne) ?_ fun t' k => ?_
  · have := repl_len ht hlen
    omega
  · refine snd_binP (sh := { sh with toks := k }) h hp' A I (.d .str) (.d .str) Q E (z.after (s' := { sh with toks := k }) (.refl ..) ⟨rfl, rfl⟩)
theorem snd_neg (S : Snd c R) {x : Expr} {pos : Pos} : Rt c se (evG T R se (.UnaryOp .USub x pos) s) s.σ (eval (.UnaryOp .USub x pos)) VR := by
  intro P oc h hp p env W sh A V I Q E z
  exact UnaryOp_ (bndR h hp (S.e se x s) A V I z fun _ a s1 sh1 W1 va h p1 L1 I1 r1 z => uI.r (G := fun v => wpAny _ _ (unaryOp _ v) _ _ _) h r1 fun y i t h => neg_int (z.tk h I1 (.d .int)))
end
section
variable {c : Cx} {T : Tb} {p : Pl} {env : Env} {W : Wd} {sh : Shared} {s : S} {d : Nat} {R : Rec} {se : SE}
theorem not_star (e : Expr) : plainArg e = true → (match e with | .Starred .. => true | _ => false) = false := by
  cases e <;> intro h <;> first | rfl | cases h
theorem dups2 {x y : Str} (h : sq x y = false) : ([x, y] : List Str).eraseDups = [x, y] := by
  have ne : (y == x) = false := by rw [beq_eq_false_iff_ne]; exact fun e => by rw [e, sq_refl] at h; cases h
  have e1 : ([y] : List Str).eraseDups = [y] := by rw [List.eraseDups_cons]; simp
  rw [List.eraseDups_cons]
  simp [ne, e1]
theorem swp_core (V : EnvOk p se env W) {x y : Str} {p0 q0 : Pos} {a b : Expr} (h1 : isLoc se.nm x = true) (h2 : isLoc se.nm y = true) (h3 : sq x y = false) (h4 : Nat.beq p0.line q0.line = true) (z1 : plainArg a = true) (z2 : plainArg b = true)
    (h6 : (foldedForSure 8 a && foldedForSure 8 b) = false) (h7 : (constantsAlone 8 a && constantsAlone 8 b) = false) {k : Nat} {tp : Pos} {k' : Nat} {q' : Pos} : swappedStores [.Tuple [.Name x p0, .Name y q0] k tp] (.Tuple [a, b] k' q') env = pure (some [x, y]) := by
  have k1 : env.kindOf x = some .local := by rw [V.kindOf]; exact isLoc_ok h1
  have k2 : env.kindOf y = some .local := by rw [V.kindOf]; exact isLoc_ok h2
  have hb : env.blockKind = .function := by unfold Env.blockKind; rw [V.kind]; rfl
  have y1 := not_star a z1
  have y2 := not_star b z2
  have pl1 : (Expr.Name x p0).pos.line = p0.line := rfl
  have h4 := Nat.eq_of_beq_eq_true h4
  clear V z1 z2 h1 h2
  unfold swappedStores
  simp only [List.length_cons, List.length_nil, hb, List.any_cons, List.any_nil, pl1, List.filterMap_cons, List.filterMap_nil, k1, k2, ← h4, List.head?_cons, Option.map_some, Option.getD_some, List.all_cons, List.all_nil, Bool.and_true, h6, h7, Bool.or_false, beq_self_eq_true, if_true, dups2 h3]
  refine (if_neg (by decide)).trans ((if_neg fun hh => ?_).trans rfl)
  exact ((Bool.or_eq_true _ _).mp hh).elim (fun q => Bool.false_ne_true (y1.symm.trans q)) fun q => Bool.false_ne_true (y2.symm.trans q)
theorem swp_ok (V : EnvOk p se env W) {ts vs : List Expr} {xy : Str × Str} (h : swp se ts vs = some xy) {k : Nat} {tp : Pos} {k' : Nat} {q' : Pos} : swappedStores [.Tuple ts k tp] (.Tuple vs k' q') env = pure (some [xy.1, xy.2]) :=
  nC.r (G := fun ts => swappedStores [.Tuple ts k tp] (.Tuple vs k' q') env = _) h fun t1 ts h => nC.r (G := fun ts => swappedStores [.Tuple (t1 :: ts) k tp] (.Tuple vs k' q') env = _) h fun t2 ts h => n0.r (G := fun ts => swappedStores [.Tuple (t1 :: t2 :: ts) k tp] (.Tuple vs k' q') env = _) h fun h =>
    nC.r (G := fun vs => swappedStores _ (.Tuple vs k' q') env = _) h fun a vs h => nC.r (G := fun vs => swappedStores _ (.Tuple (a :: vs) k' q') env = _) h fun b vs h => n0.r (G := fun vs => swappedStores _ (.Tuple (a :: b :: vs) k' q') env = _) h fun h =>
    eNm.r (G := fun t1 => swappedStores [.Tuple [t1, t2] k tp] _ env = _) h fun x p h => eNm.r (G := fun t2 => swappedStores [.Tuple [_, t2] k tp] _ env = _) h fun y q h => uW.r h fun h h1 => uW.r h fun h h2 => uN.r h fun h h3 => uW.r h fun h h4 => uW.r h fun h z1 => uW.r h fun h z2 => uN.r h fun h h6 => uN.r h fun h h7 => by
      cases h
      exact swp_core V h1 h2 h3 h4 z1 z2 h6 h7
theorem snd_assignSwap (S : Snd c R) {ts vs : List Expr} {k k' : Nat} {tp q pos : Pos} {xy : Str × Str} (hs : swp se ts vs = some xy) :
    Rt c se (bnd (R.e se (.Tuple vs k' q) s) fun v s => uO (items v) fun l => nC l fun a l => nC l fun b l => n0 l (bnd (setN se xy.2 b s) fun _ s => bnd (setN se xy.1 a s) fun _ s => ret .next s)) s.σ (exec (.Assign [.Tuple ts k tp] (.Tuple vs k' q) pos)) FwR := by
  intro P o h hp p env W sh A V I Q E z
  have sw : swapsWithSole [.Tuple ts k tp] (.Tuple vs k' q) pos.line env = pure false := rfl
  refine Assign_Tuple_swapped (bndR h hp (S.e se _ s) A V I z fun _ v s1 sh1 W1 va h p1 L1 I1 r1 z => uO.r h fun l h hi => ?_) sw (swp_ok V hs)
  have V := V.mono L1
  refine items_r (G := fun va => wpAny _ _ (unpackItems va 2 none) _ E sh1) hi r1 fun t xs ep g rs => ?_
  have hl : ∃ a b, l = [a, b] ∧ (bnd (setN se xy.2 b s1) fun _ s => bnd (setN se xy.1 a s) fun _ s => ret .next s) = some (_, o) :=
    nC.r (G := fun l => ∃ a b, l = [a, b] ∧ (bnd (setN se xy.2 b s1) fun _ s => bnd (setN se xy.1 a s) fun _ s => ret .next s) = some (_, o)) h fun a l h => nC.r (G := fun l => ∃ a' b, a :: l = [a', b] ∧ (bnd (setN se xy.2 b s1) fun _ s => bnd (setN se xy.1 a' s) fun _ s => ret .next s) = some (_, o)) h fun b l h =>
      n0.r (G := fun l => ∃ a' b', a :: b :: l = [a', b'] ∧ (bnd (setN se xy.2 b' s1) fun _ s => bnd (setN se xy.1 a' s) fun _ s => ret .next s) = some (_, o)) h fun h => ⟨a, b, rfl, h⟩
  obtain ⟨a, b, rfl, h⟩ := hl
  obtain ⟨v1, v2, e1, r1, r2⟩ := rs.i2
  have lv : xs.size = 2 := by rw [← Array.length_toList, e1]; rfl
  rw [← lv]
  refine with_size (wpAny_unpackItems_tuple A.handled ⟨_, I1.zk _ _ g, rfl, ep, rfl⟩ fun h' he sz => ?_)
  obtain ⟨J, S2⟩ := I1.keeps (fun b o e => he b o (Nat.ne_of_lt (Heap.lt_size e)) e) sz
  have z := z.after (s' := { sh1 with heap := h' }) S2 ⟨rfl, rfl⟩
  rw [e1]
  show wpAny _ _ (do holding [v1] (bindName env xy.2 v2); assignInOrder [fun v => bindName env xy.1 v] [v1]) _ E _
  refine wpAny_bind (wpAny_holding (wpAny_bindName (setR h p1 V J r2 z fun _ s3 sh3 W3 h p3 L3 I3 z => ?_)))
  show wpAny _ _ (do holding [] (bindName env xy.1 v1); assignInOrder [] []) _ E _
  exact wpAny_bind (wpAny_holding (wpAny_bindName (setR h p3 (V.mono L3) I3 (r1.mono L3) z fun _ s4 sh4 W4 h p4 L4 I4 z => wpAny_pure (z.ret h I4 rfl))))
theorem snd_assignTuple (S : Snd c R) {ts : List Expr} {e : Expr} {k : Nat} {tp pos : Pos} (hc : isComp e = false) (ht : isTu e = false) :
    Rt c se (bnd (R.e se e s) fun v s => uO (items v) fun l => uW (nms ts l) (bnd (setNs se ts l s) fun _ s => ret .next s)) s.σ (exec (.Assign [.Tuple ts k tp] e pos)) FwR := by
  intro P o h hp p env W sh A V I Q E z
  have sw : swapsWithSole [.Tuple ts k tp] e pos.line env = pure false := by
    show swapsWith e (some (.Tuple ts k tp)) pos.line env = _
    exact swaps_none hc
  have hw : swappedStores [.Tuple ts k tp] e env = pure none := by
    cases e <;> first | rfl | cases ht
  exact Assign_Tuple (bndR h hp (S.e se e s) A V I z fun _ v s1 sh1 W1 va h p1 L1 I1 r1 z => uO.r h fun l h hl => uW.r h fun h hn =>
    runR h p1 (fun _ _ h hp => snd_items hl hn h hp A (V.mono L1) I1 r1) z fun _ _ s2 sh2 W2 _ h p2 L2 I2 _ z => z.ret h I2 rfl) sw hw
end
structure UpOk (bm : List Value) : Prop where
  exc : bm.contains (.type "Exception") = true
  base : bm.contains (.type "BaseException") = true
  noA : bm.contains (.type "AttributeError") = false
  noN : bm.contains (.type "NameError") = false
noncomputable abbrev eN : String := "Exception.__new__"
noncomputable abbrev FE := PySem.F.excBase_Exception
section
variable {M : Model} {A : Around} {E : Value → Shared → Prop} {h : Heap} {g : Array GenState} {d : Drawn} {t : Nat} {os : OsState}
variable {nm q : Str} {C N : Addr} {bs bm : List Value} {hdct : Bool} {sn : List Str} {sub : List Value} {ab : Bool} {col : Option Bool} {dd : Option Addr} {k0 k1 k2 k3 k5 : Option Value}
theorem xc_check (U : UpOk bm) {rest : List Value} {Q : Unit → Shared → Prop} (hC : h.get? C = some (excClassObj nm q C N bs bm hdct sn sub ab col dd k0 k1 k2 k3 k5 eN)) (hq : Q () ⟨h, g, d, t, os⟩) :
    wpAny M A (checkBuiltinCall eN ⟨.ref C :: rest, []⟩) Q E ⟨h, g, d, t, os⟩ := by
  have hin : (Value.ref C :: bm).contains (.type "Exception") = true := by rw [List.contains_cons, U.exc, Bool.or_true]
  have hs := FE.noStar
  unfold checkBuiltinCall
  rw [FE.newKind, FE.newSplit, FE.newRow]
  dsimp only
  repeat (first | refine wpAny_loadPart_at hC ?_ | (refine wpAny_isSubtype_exc hC ?_; rw [hin]) | refine wpAny_staticBase_exc hC ?_ | refine wpAny_madeBy_exc hC ?_ | (rw [bne_self_eq_false]; refine wpAny_ite_false Bool.false_ne_true ?_) | wp_step)
  exact hq
end
section
variable {prog : Program} {w : World} {A : Around} {E : Value → Shared → Prop} {R : Result → Shared → Prop} {h : Heap} {g : Array GenState} {d : Drawn} {t : Nat} {os : OsState}
variable {nm q : Str} {C N : Addr} {bs bm : List Value} {hdct : Bool} {sn : List Str} {sub : List Value} {ab : Bool} {col : Option Bool} {dd : Option Addr} {k0 k1 k2 k3 k5 : Option Value}
noncomputable abbrev xTup (l : List Value) : Obj := { cls := .type "tuple", data := .seq l.toArray }
noncomputable abbrev xObj (C t0 : Addr) : Obj := { cls := .ref C, data := .fields #[.ref t0, .none, .none, .none, .bool false, .none] }
noncomputable abbrev xHeap (h : Heap) (C : Addr) (l : List Value) : Heap := (h.push (xTup l)).push (xObj C h.objs.size)
theorem xc_new (U : UpOk bm) {rest : List Value} (hC : h.get? C = some (excClassObj nm q C N bs bm hdct sn sub ab col dd k0 k1 k2 k3 k5 eN)) (hq : R (.ok (.ret (.ref (h.objs.size + 1)))) ⟨xHeap h C rest, g, d, t, os⟩) (hrest : rest.length ≤ sizeLine) :
    codeAny (model prog w) A (.builtin eN ⟨.ref C :: rest, []⟩) R ⟨h, g, d, t, os⟩ := by
  have hends := FE.ends
  have hB : (Value.ref C :: bm).contains (.type "Exception") = true := by rw [List.contains_cons, U.exc, Bool.or_true]
  have hA : (Value.ref C :: bm).contains (.type "AttributeError") = false := by rw [List.contains_cons, U.noA]; rfl
  have hN : (Value.ref C :: bm).contains (.type "NameError") = false := by rw [List.contains_cons, U.noN]; rfl
  refine codeAny_builtinAt FE.entry ?_
  unfold Builtin.«BaseException.__new__»
  refine PySem.wpAt_bind ?_
  show PySem.wpAt _ _ _ (stack >>= _) _ _ _
  refine PySem.wpAt_bind (PySem.wpAt_stack fun p below => PySem.wpAt_of_wpAny ?_)
  wp_walk
  refine PySem.wpAt_of_wpAny ?_
  rw [FE.owner]
  repeat (first | with_reducible refine wpAny_madeHere_exc FE.canon hC ?_ | with_reducible refine wpAny_loadPart_at hC ?_ | (with_reducible refine wpAny_isSubtype_exc hC ?_; first | rw [hB] | rw [hA] | rw [hN]) | wp_step)
  show R _ _
  rw [Heap.size_push]
  exact hq
theorem xc_make {K : Frag} (U : UpOk bm) (X : K.In h) {rest : List Value} {fI : Addr} {Q : Fin → Shared → Prop}
    (hC : h.get? C = some (excClassObj nm q C N bs bm hdct sn sub ab col dd k0 k1 k2 k3 k5 eN)) (hfi : findIn K (.ref C) "__init__" = some (some (.ref fI))) (hft : typeIn K (.ref fI) = some (.type "function"))
    (hq : wpAny (model prog w) A (call (.ref fI) (.ref (h.objs.size + 1) :: rest)) (fun r s' => r = .none ∧ Q (.done (.ret (.ref (h.objs.size + 1)))) s') E ⟨xHeap h C rest, g, d, t, os⟩) (hrest : rest.length ≤ sizeLine) :
    wpAny (model prog w) A (Builtin.«type.__call__» ⟨.ref C :: rest, []⟩) Q E ⟨h, g, d, t, os⟩ := by
  repeat (first | with_reducible refine wpAny_loadPart_at hC ?_ | with_reducible refine wpAny_madeBy_exc hC ?_ | wp_step)
  refine codeAny_call_builtin_code (Code.quiet_builtin _ FE.quiet) (xc_check U hC ?_)
  refine xc_new U hC ?_ hrest
  show wpAny _ _ _ _ _ _
  have kk : ∀ b o, h.get? b = some o → (xHeap h C rest).get? b = some o := fun b o e => Heap.get?_push_of_some _ (Heap.get?_push_of_some _ e)
  have hC₁ := kk _ _ hC
  have X₁ : K.In (xHeap h C rest) := X.keeps kk
  have hget : (xHeap h C rest).get? (h.objs.size + 1) = some (xObj C h.objs.size) := by heap_get
  have hcC : (Value.ref C :: bm).contains (.ref C) = true := by simp
  unfold isInstance
  repeat (first | with_reducible refine wpAny_loadPart_at hget ?_ | (with_reducible refine wpAny_isSubtype_exc hC₁ ?_; rw [hcC]) | wp_step)
  show wpAny _ _ (typeLookup (.ref C) _) _ _ _
  refine (looks_findIn X₁ hfi).at ?_
  refine wpAny_holding (wpAny_bind ?_)
  unfold bindSpecial
  refine wpAny_bind ((looks_typeIn X₁ hft).at ?_)
  rw [if_pos (by decide)]
  refine wpAny_pure (wpAny_bind (wpAny_mono hq (fun r s' hr => ?_) fun _ _ x => x))
  obtain ⟨rfl, hQ⟩ := hr
  wp_walk
  exact hQ
theorem xc_call {K : Frag} (U : UpOk bm) (X : K.In h) {rest : List Value} {fI : Addr} {Q : Value → Shared → Prop}
    (hC : h.get? C = some (excClassObj nm q C N bs bm hdct sn sub ab col dd k0 k1 k2 k3 k5 eN)) (hfi : findIn K (.ref C) "__init__" = some (some (.ref fI))) (hft : typeIn K (.ref fI) = some (.type "function"))
    (hq : wpAny (model prog w) (A.under (.builtin "type.__call__" ⟨.ref C :: rest, []⟩)) (call (.ref fI) (.ref (h.objs.size + 1) :: rest)) (fun r s' => r = .none ∧ Q (.ref (h.objs.size + 1)) s') E ⟨xHeap h C rest, g, d, t, os⟩) (hrest : rest.length ≤ sizeLine) :
    wpAny (model prog w) A (call (.ref C) rest) Q E ⟨h, g, d, t, os⟩ := by
  have f1 := tc_lookup
  have f2 := tc_bind (.ref C)
  have hT : (⟨h, g, d, t, os⟩ : Shared).TypeIs (.ref C) "type" := ⟨_, hC, rfl⟩
  refine wpAny_call (codeAny_of_tree ?_)
  show wpAny _ _ (callAny (.ref C) _) _ _ _
  repeat (any_goals (first | assumption | with_reducible refine wpAny_loadPart_at hC ?_ | wp_step))
  refine ⟨rfl, ?_⟩
  exact codeAny_call_builtin_at (Code.quiet_builtin _ (by decide +kernel)) entry_typeCall (wpAny_check_type_call_sub hC (xc_make U X hC hfi hft hq hrest))
end
section
open PySem.Builtin PySem.Builtin.ObjectAttr
noncomputable def tyIs (v : Value) (n : String) : Bool := match v with
  | .type m => decide (m = n)
  | _ => false
theorem tyIs_ok {v : Value} {n : String} (h : tyIs v n = true) : v = .type n := by
  cases v with
  | type m => rw [of_decide_eq_true h]
  | _ => exact fT h
noncomputable def vRef (v : Value) : Bool := match v with | .ref _ => true | _ => false
noncomputable def tys : List Value → List String → Bool
  | [], n => n.isEmpty
  | v :: l, n => (match n with | [] => false | n :: r => tyIs v n && tys l r)
theorem tys_ok {l : List Value} {n : List String} (h : tys l n = true) : l = n.map .type := by
  induction l generalizing n with
  | nil => rw [List.isEmpty_iff.mp h]; rfl
  | cons v l ih => cases n with
    | nil => exact fT h
    | cons a r => obtain ⟨x, y⟩ := andT h; rw [tyIs_ok x, ih y]; rfl
noncomputable def excMro : List Value → Bool
  | [] => false
  | v :: l => vRef v && excMro l || tys (v :: l) ["Exception", "BaseException", "object"]
theorem refuse_exc (self : Value) {l : List Value} (e : excMro l = true) : refuseLoop self "__setattr__" l = pure () := by
  induction l with
  | nil => exact fT e
  | cons v l ih =>
    rcases Bool.or_eq_true_iff.mp e with h | h
    · obtain ⟨x, y⟩ := andT h
      cases v with
      | ref c => rw [refuseLoop_ref]; exact ih y
      | _ => exact fT x
    · rw [tys_ok h]; exact PySem.F.store_Exception.passes self
theorem exc_has {l : List Value} (e : excMro l = true) : l.contains (.type "object") = true := by
  induction l with
  | nil => exact fT e
  | cons v l ih =>
    rcases Bool.or_eq_true_iff.mp e with h | h
    · rw [List.contains_cons, ih (andT h).2, Bool.or_true]
    · rw [tys_ok h]; decide
noncomputable def xOver (K : Frag) (C : Addr) : Bool := (clsIn K C).any fun cd => excMro cd.mro
section
variable {w : World} {A : Around} {E : Value → Shared → Prop} {K : Frag} {C x : Addr} {s : Shared} {R : Result → Shared → Prop} {ox : Obj} {od : Option Obj} {name : Str} {v : Value}
theorem xo_open {tk : Tok} (X : K.In s.heap) (I : InstAt s.heap x ox C od) (hp : xOver K C = true) (ht : takerIn K C name = some none)
    (h : ∀ b, wpAny (model pw w) A.in1 (storeInOwnDict (.ref x) (.ref C) (.str name tk) name v b)
      (fun fin s' => match fin with | .done f => R (.ok f) s' | .again c' => c'.quiet = true ∧ codeAny (model pw w) A c' R s') (fun e s' => R (.error e) s') s) :
    codeAny (model pw w) A (.call (.builtin "object.__setattr__") ⟨[.ref x, .str name tk, v], []⟩) R s := by
  have SF := PySem.F.store_object
  obtain ⟨cd, hc, ho⟩ := any_some hp
  have ne : cd.mro.isEmpty = false := by cases q : cd.mro with | nil => rw [q] at ho; cases ho | cons _ _ => rfl
  have isObj : Looks (model pw w) s.heap (isInstance (.ref x) (.type "object")) true := I.type.andThen (looks_mroIn X (by unfold mroIn; rw [hc, Option.bind_some, if_neg (by rw [ne]; decide), exc_has ho]))
  refine codeAny_call_builtin SF.slot.plain SF.entry (@check_slot (model pw w) _ _ s "object.__setattr__" "object" "__setattr__" (.ref x) [.str name tk, v] [] _ SF.kind SF.split isObj (SF.args (.ref x) (.str name tk) v) ?_)
  obtain ⟨attr, ha, hr⟩ := Option.bind_eq_some_iff.mp ht
  have hm : Looks (model pw w) s.heap (mroOf (.ref C)) cd.mro := (looks_clsIn X hc).andThen .now
  have L3 : Looks (model pw w) s.heap (storeTaker? attr) none := by
    cases attr with
    | none => exact .now
    | some a =>
      obtain ⟨b, hb, e⟩ := Option.map_eq_some_iff.mp hr
      refine (looks_takesIn X hb).andThen ?_
      cases b
      · exact .now
      · cases e
  rw [osa_eq, refuse_eq]
  refine wpAny_bind (wpAny_bind (I.type.here (wpAny_bind (hm.here ?_))))
  rw [refuse_exc _ ho]
  exact wpAny_pure (wpAny_bind (I.type.here (wpAny_bind ((looks_findIn X ha).here (wpAny_bind (L3.here (h _)))))))
end
end
section
open PySem.Builtin PySem.Builtin.ObjectAttr
structure XcOk (K : Frag) (C : Addr) (name : Str) : Prop where
  over : xOver K C = true
  take : takerIn K C name = some none
  dict : hasDictIn K C = true
section
variable {w : World} {A : Around} {E : Value → Shared → Prop} {K : Frag} {C x : Addr} {s : Shared} {name : Str} {v : Value} {vs : Array Value} {Q : Unit → Shared → Prop} {R : Result → Shared → Prop}
theorem xo_first' {tk : Tok} (X : K.In s.heap) (O : XcOk K C name) (hx : s.heap.get? x = some ⟨.ref C, none, .fields vs, #[]⟩)
    (h : ∀ h' tk t n, h'.get? x = some ⟨.ref C, some s.heap.objs.size, .fields vs, #[]⟩ → h'.get? s.heap.objs.size = some (dictOf [⟨PyData.keyHash w.params name, .str name t, v⟩] n) → (∀ b o, b ≠ x → s.heap.get? b = some o → h'.get? b = some o) → s.heap.objs.size ≤ h'.objs.size → R (.ok (.ret .none)) { s with heap := h', toks := tk }) :
    codeAny (model pw w) A (.call (.builtin "object.__setattr__") ⟨[.ref x, .str name tk, v], []⟩) R s := by
  have I : InstAt s.heap x ⟨.ref C, none, .fields vs, #[]⟩ C none := ⟨hx, rfl, rfl, trivial⟩
  refine xo_open X I O.over O.take fun b => ?_
  obtain ⟨cd, hc, hd'⟩ := any_some O.dict
  have hx₁ : (s.heap.push { cls := .type "dict", data := .dict #[] }).get? x = some ⟨.ref C, none, .fields vs, #[]⟩ := Heap.get?_push_of_some _ hx
  have hxs : x ≠ s.heap.objs.size := Nat.ne_of_lt (Heap.lt_size hx)
  refine wpAny_bind (wpAny_pure (wpAny_bind (wpAny_bind (wpAny_loadPart hx (wpAny_bind ((looks_clsIn X hc).here ?_))))))
  rw [hd']
  refine wpAny_bind (wpAny_alloc ?_)
  refine wpAny_bind (wpAny_update hx₁ ?_)
  refine wpAny_pure ?_
  generalize hH : (s.heap.push { cls := .type "dict", data := .dict #[] }).update x (fun o => { cls := o.cls, dict := some s.heap.objs.size, data := o.data, slots := o.slots }) = H
  have hgd : H.get? s.heap.objs.size = some (dictOf [] 0) := by
    rw [← hH]; exact (Heap.get?_update_ne _ _ _ _ hxs.symm).trans (Heap.get?_push_at rfl rfl)
  have hgx : H.get? x = some ⟨.ref C, some s.heap.objs.size, .fields vs, #[]⟩ := by
    rw [← hH]; exact Heap.get?_update_self _ hx₁ rfl
  have hgo : ∀ b o, b ≠ x → s.heap.get? b = some o → H.get? b = some o := fun b o n e => by
    rw [← hH]; exact (Heap.get?_update_ne _ _ _ _ n).trans (Heap.get?_push_of_some _ e)
  have hsz : s.heap.objs.size ≤ H.objs.size := by rw [← hH, Heap.size_update, Heap.size_push]; exact Nat.le_succ _
  refine put_tail (s := { s with heap := H }) (es := []) (n := 0) hgd rfl (by show (1 : Nat) ≤ 1000; decide) ?_
  refine h _ _ s.toks 1 ?_ ?_ (fun b o n e => ?_) (by rw [Heap.size_update]; exact hsz)
  · exact (Heap.get?_update_ne _ _ _ _ hxs).trans hgx
  · rw [Heap.get?_update_self _ hgd (by rw [putName_dict]; rfl), putName_dict]; rfl
  · exact (Heap.get?_update_ne _ _ _ _ (Nat.ne_of_lt (Heap.lt_size e))).trans (hgo b o n e)
theorem xo_next' {tk : Tok} {dx : Addr} {es : List DictEntry} {n : Nat} (X : K.In s.heap) (O : XcOk K C name) (hx : s.heap.get? x = some ⟨.ref C, some dx, .fields vs, #[]⟩) (D : s.heap.get? dx = some (dictOf es n)) (hl : (getL name es).isSome = true) (hz : es.length ≤ 100)
    (h : ∀ h' tk t n, h'.get? x = some ⟨.ref C, some dx, .fields vs, #[]⟩ → h'.get? dx = some (dictOf (putL name (PyData.keyHash w.params name) (.str name t) v es) n) → (∀ b o, b ≠ dx → s.heap.get? b = some o → h'.get? b = some o) → s.heap.objs.size ≤ h'.objs.size → R (.ok (.ret .none)) { s with heap := h', toks := tk }) :
    codeAny (model pw w) A (.call (.builtin "object.__setattr__") ⟨[.ref x, .str name tk, v], []⟩) R s := by
  have I : InstAt s.heap x ⟨.ref C, some dx, .fields vs, #[]⟩ C (some (dictOf es n)) := ⟨hx, rfl, rfl, D⟩
  refine xo_open X I O.over O.take fun b => ?_
  obtain ⟨cd, hc, hd'⟩ := any_some O.dict
  have hne : x ≠ dx := fun q => by rw [q, D] at hx; cases hx
  refine wpAny_bind (wpAny_pure (wpAny_bind (wpAny_bind (wpAny_loadPart hx (wpAny_bind ((looks_clsIn X hc).here ?_))))))
  rw [hd']
  refine wpAny_pure (a := some dx) ?_
  have hz' : ∀ (l : List DictEntry) hs k, (putL name hs k v l).length ≤ l.length + 1 := fun l hs k => by
    induction l with
    | nil => exact Nat.le_refl _
    | cons e r ih =>
      unfold putL
      split
      · exact Nat.le_succ _
      · exact Nat.succ_le_succ ih
  refine put_tail D hl (Nat.le_trans (hz' _ _ _) (by omega)) ?_
  refine h _ _ s.toks (putN name es n) ?_ ?_ (fun b o n e => ?_) (by rw [Heap.size_update]; exact Nat.le_refl _)
  · exact (Heap.get?_update_ne _ _ _ _ hne).trans hx
  · rw [Heap.get?_update_self _ D (by rw [putName_dict]; rfl), putName_dict]
  · exact (Heap.get?_update_ne _ _ _ _ n).trans e
theorem xo_first (X : K.In s.heap) (hset : findIn K (.ref C) "__setattr__" = some (some (.builtin "object.__setattr__"))) (O : XcOk K C name) (hx : s.heap.get? x = some ⟨.ref C, none, .fields vs, #[]⟩)
    (h : ∀ h' tk t n, h'.get? x = some ⟨.ref C, some s.heap.objs.size, .fields vs, #[]⟩ → h'.get? s.heap.objs.size = some (dictOf [⟨PyData.keyHash w.params name, .str name t, v⟩] n) → (∀ b o, b ≠ x → s.heap.get? b = some o → h'.get? b = some o) → s.heap.objs.size ≤ h'.objs.size → Q () { s with heap := h', toks := tk }) :
    wpAny (model pw w) A (setAttr (.ref x) name v) Q E s :=
  set_plain X (ox := ⟨.ref C, none, .fields vs, #[]⟩) (od := none) ⟨hx, rfl, rfl, trivial⟩ hset (xo_first' (s := { s with toks := s.toks + 1 }) X O hx fun h' tk t n a b c d => h h' tk t n a b c d)
theorem xo_next {dx : Addr} {es : List DictEntry} {n : Nat} (X : K.In s.heap) (hset : findIn K (.ref C) "__setattr__" = some (some (.builtin "object.__setattr__"))) (O : XcOk K C name) (hx : s.heap.get? x = some ⟨.ref C, some dx, .fields vs, #[]⟩) (D : s.heap.get? dx = some (dictOf es n)) (hl : (getL name es).isSome = true) (hz : es.length ≤ 100)
    (h : ∀ h' tk t n, h'.get? x = some ⟨.ref C, some dx, .fields vs, #[]⟩ → h'.get? dx = some (dictOf (putL name (PyData.keyHash w.params name) (.str name t) v es) n) → (∀ b o, b ≠ dx → s.heap.get? b = some o → h'.get? b = some o) → s.heap.objs.size ≤ h'.objs.size → Q () { s with heap := h', toks := tk }) :
    wpAny (model pw w) A (setAttr (.ref x) name v) Q E s :=
  set_plain X (ox := ⟨.ref C, some dx, .fields vs, #[]⟩) (od := some (dictOf es n)) ⟨hx, rfl, rfl, D⟩ hset (xo_next' (s := { s with toks := s.toks + 1 }) X O hx D hl hz fun h' tk t n a b c d => h h' tk t n a b c d)
end
end
inductive XSh (i : FI) (f1 f2 : Str) : Prop
  | mk (n0 n1 n2 : Str) (p1 p2 p3 p4 p5 p6 p7 p8 : Pos) (hb : i.body = [.Assign [.Attribute (.Name n0 p1) f1 p2] (.Name n1 p3) p4, .Assign [.Attribute (.Name n0 p5) f2 p6] (.Name n2 p7) p8]) (hps : i.ps = [n0, n1, n2])
    (l0 : lk i.nm n0 = some .local) (l1 : lk i.nm n1 = some .local) (l2 : lk i.nm n2 = some .local) (d0 : (n0 == ("__debug__" : Str)) = false) (d1 : (n1 == ("__debug__" : Str)) = false) (d2 : (n2 == ("__debug__" : Str)) = false)
structure XIni (i : FI) (f1 f2 : Str) : Prop where
  shape : XSh i f1 f2
  none : cellNames i.nm = []
  ne : sq f1 f2 = false
section
variable {c : Cx} {A : Around} {E : Value → Shared → Prop} {s : Shared} {Q : Value → Shared → Prop}
theorem cells_nil {n : Addr} {l : List (Str × NameKind)} (h : cellNames l = []) : cellsFrom n l [] = [] := by
  have := cls_of (n := n) (l := l) (by rw [h]; rfl)
  revert this
  rw [h]
  generalize cellsFrom n l [] = c
  intro q
  cases q; rfl
theorem xini_body {env : Env} {m : Str → Option Value} {C e t0 : Addr} {n0 n1 n2 f1 f2 : Str} {p1 p2 p3 p4 p5 p6 p7 p8 : Pos} {v1 v2 : Value} {h1 : Heap} {g : Array GenState} {d : Drawn} {t : Nat} {os : OsState} {Q : Flow → Shared → Prop}
    (hk : env.scope.kind = .function) (l0 : env.kindOf n0 = some .local) (l1 : env.kindOf n1 = some .local) (l2 : env.kindOf n2 = some .local) (d0 : (n0 == ("__debug__" : Str)) = false) (d1 : (n1 == ("__debug__" : Str)) = false) (d2 : (n2 == ("__debug__" : Str)) = false) (hne : sq f1 f2 = false)
    (K1 : ∀ {hh : Heap}, (∀ b o, b ≠ e → h1.get? b = some o → hh.get? b = some o) → c.K.In hh) (hset : findIn c.K (.ref C) "__setattr__" = some (some (.builtin "object.__setattr__")))
    (O1 : XcOk c.K C f1) (O2 : XcOk c.K C f2) (he1 : h1.get? e = some (xObj C t0)) (hm : h1.Ns env.locals m) (m0 : m n0 = some (.ref e)) (m1 : m n1 = some v1) (m2 : m n2 = some v2)
    (h : ∀ h' tk n t1 t2, h'.get? e = some ⟨.ref C, some h1.objs.size, (xObj C t0).data, #[]⟩ → h'.get? h1.objs.size = some (dictOf [⟨PyData.keyHash c.w.params f1, .str f1 t1, v1⟩, ⟨PyData.keyHash c.w.params f2, .str f2 t2, v2⟩] n) → (∀ b o, b ≠ e → h1.get? b = some o → h'.get? b = some o) → h1.objs.size ≤ h'.objs.size → Q .next ⟨h', g, d, tk, os⟩) :
    wpAny c.M A (execs [.Assign [.Attribute (.Name n0 p1) f1 p2] (.Name n1 p3) p4, .Assign [.Attribute (.Name n0 p5) f2 p6] (.Name n2 p7) p8] env) Q E ⟨h1, g, d, t, os⟩ := by
  refine wpAny_execs_cons (plainObj_wpAny_Assign_Attribute (wpAny_Name (wpAny_loadName_local hk l1 hm m1 (wpAny_Name (wpAny_loadName_local hk l0 hm m0 (xo_first (K1 fun b o _ z => z) hset O1 he1 fun h2 tk2 t2 k2 a1 a2 a3 a4 => ?_)) d0)) d1) rfl)
  have hm2 : h2.Ns env.locals m := by
    obtain ⟨o, es, ep, z1, z2, z3⟩ := hm
    exact ⟨o, es, ep, a3 _ _ (fun q => by rw [q, he1] at z1; cases z1; cases z2) z1, z2, z3⟩
  have isn : (Value.str f1 t2).isStr f2 = false := by rw [isStr_sq]; exact hne
  have gl : (getL f2 [⟨PyData.keyHash c.w.params f1, .str f1 t2, v1⟩]).isSome = true := by
    unfold getL
    rw [List.find?_cons_of_neg (by rw [isn]; exact Bool.false_ne_true)]; rfl
  refine wpAny_execs_cons (plainObj_wpAny_Assign_Attribute (wpAny_Name (wpAny_loadName_local hk l2 hm2 m2 (wpAny_Name (wpAny_loadName_local hk l0 hm2 m0 (xo_next (s := ⟨h2, g, d, tk2, os⟩) (K1 a3) hset O2 a1 a2 gl (by show (1 : Nat) ≤ 100; decide) fun h3 tk3 t3 k3 b1 b2 b3 b4 => wpAny_execs_nil ?_)) d0)) d2) rfl)
  refine h h3 tk3 k3 t2 t3 b1 (b2.trans (congrArg (fun l => some (dictOf l k3)) ?_)) (fun b o z q => b3 b o (Nat.ne_of_lt (Heap.lt_size q)) (a3 b o z q)) (Nat.le_trans a4 b4)
  unfold putL
  rw [isn]; rfl
theorem xini {a C e t0 : Addr} {i : FI} {f1 f2 : Str} {v1 v2 : Value} (F : FnOk c a i) (XI : XIni i f1 f2) (Xk : c.K.In c.h₀) (hset : findIn c.K (.ref C) "__setattr__" = some (some (.builtin "object.__setattr__")))
    (O1 : XcOk c.K C f1) (O2 : XcOk c.K C f2) (hlim : c.h₀.NoLimit) (ha : A.depth < 990) (h0 : ∀ b o, c.h₀.get? b = some o → s.heap.get? b = some o) (he : s.heap.get? e = some (xObj C t0)) (hnew : c.h₀.get? e = none)
    (hv1 : handedIn v1 = true) (hv2 : handedIn v2 = true)
    (h : ∀ h' tk dx n t1 t2, h'.get? e = some ⟨.ref C, some dx, (xObj C t0).data, #[]⟩ → h'.get? dx = some (dictOf [⟨PyData.keyHash c.w.params f1, .str f1 t1, v1⟩, ⟨PyData.keyHash c.w.params f2, .str f2 t2, v2⟩] n) → (∀ b o, b ≠ e → s.heap.get? b = some o → h'.get? b = some o) → s.heap.get? dx = none → s.heap.objs.size ≤ h'.objs.size → Q .none { s with heap := h', toks := tk }) :
    wpAny c.M A (call (.ref a) [.ref e, v1, v2]) Q E s := by
  obtain ⟨⟨oa, fd, q1, q2, q3, q4, q5, q6, q7, q8, q9, q10, ⟨cd, oc, cvs, ct, g1, g2, g3, g4⟩, fb⟩, fnd, fki, fce⟩ := F
  obtain ⟨⟨n0, n1, n2, p1, p2, p3, p4, p5, p6, p7, p8, hb, hps, l0, l1, l2, d0, d1, d2⟩, hcn, hne⟩ := XI
  have X' : c.K.In s.heap := Xk.keeps h0
  obtain ⟨bv, hbt, hbr⟩ := fb [.d (.top (.ref e)), .d (.top v1), .d (.top v2)] [(n0, .d (.top (.ref e))), (n1, .d (.top v1)), (n2, .d (.top v2))] ⟨[], c.h₀.get?⟩ [.ref e, v1, v2] s (by rw [hps]; rfl) X' (fun _ _ z => z)
    (.cons (.d (.top rfl)) (.cons (.d (.top hv1)) (.cons (.d (.top hv2)) .nil)))
  have kd : ∀ x, fd.scope.names.lookup x = lk i.nm x := fun x => by rw [q4, lk_lookup]
  have nd : [n0, n1, n2].Nodup := hps ▸ fnd
  have al : ∀ x ∈ [n0, n1, n2], lk i.nm x = some .local := List.forall_mem_cons.mpr ⟨l0, List.forall_mem_cons.mpr ⟨l1, List.forall_mem_cons.mpr ⟨l2, fun _ m => nomatch m⟩⟩⟩
  refine wpAny_call (codeAny_call_function (Nat.lt_trans ha (by decide)) (X' _ _ q1) q2 q6 q7 q3 ⟨cd, oc, cvs, ct, g1, X' _ _ g2, g3, g4⟩ (hbt _ _ _ _ ?_))
  rw [q8]
  refine wpAny_newFunctionEnv_cells q5 (fun x hx => .inl ((kd x.1).trans (al x.1 (hbr.names.symm.subst (motive := fun l => x.1 ∈ l) (List.mem_map_of_mem hx))))) fun env hen s' xx => ?_
  have eK : ∀ x, env.kindOf x = lk i.nm x := fun x => by rw [hen]; exact kd x
  have eL : env.locals = s.heap.objs.size := by rw [hen]; rfl
  have hk : env.scope.kind = .function := by rw [hen]; exact q5
  have get : ∀ {n v}, (n, SV.d (.top v)) ∈ [(n0, SV.d (.top (.ref e))), (n1, .d (.top v1)), (n2, .d (.top v2))] → lk i.nm n = some .local → bindL env.kindOf bv (fun _ => none) n = some v := fun {n v} hm hl => by
    obtain ⟨w, e1, r⟩ := bindL_get env.kindOf hbr (fun _ => none) nd hm ((eK n).trans hl)
    rw [e1, r.di.i.2]
  have e5 : env.cells = [] := by rw [hen]; show cellsFrom _ fd.scope.names [] = []; rw [q4]; exact cells_nil hcn
  rw [e5] at xx
  obtain ⟨h1, tk, rfl⟩ := xx.toInCall.same
  have hns := xx.toInCall.ns
  have hkeep : ∀ b o, s.heap.get? b = some o → h1.get? b = some o := xx.toInCall.keep
  have szs : s.heap.objs.size < h1.objs.size := eL ▸ hns.lt
  refine ⟨hlim.keeps (h' := h1) fun b o z => hkeep b o (h0 b o z), codeAny_func ?_⟩
  rw [hb]
  refine xini_body hk ((eK _).trans l0) ((eK _).trans l1) ((eK _).trans l2) d0 d1 d2 hne (fun k => Xk.keeps fun b o z => k b o (fun q => nn (hnew.symm.trans (q ▸ z))) (hkeep b o (h0 b o z))) hset O1 O2 (hkeep _ _ he) hns (get (.head _) l0) (get (.tail _ (.head _)) l1) (get (.tail _ (.tail _ (.head _))) l2)
    fun h' tk' n t1 t2 a1 a2 a3 a4 => h h' tk' h1.objs.size n t1 t2 a1 a2 (fun b o z q => a3 b o z (hkeep b o q)) ?_ (Nat.le_trans (Nat.le_of_lt szs) a4)
  cases q : s.heap.get? h1.objs.size with
  | none => rfl
  | some o => exact absurd (Heap.lt_size (hkeep _ _ q)) (Nat.lt_irrefl _)
end
theorem funFrames_mk {h base : Heap} : ∀ {envs : List Env} {fl : List Addr}, envs.map (·.frame) = fl.map some → (∀ e ∈ envs, e.scope.kind ≠ .module) → (∀ a ∈ fl, base.get? a = none ∧ ∃ o, h.get? a = some o ∧ ∀ vs, o.data ≠ .fields vs) → h.FunFrames base envs
  | [], _, _, _, _ => trivial
  | env :: r, [], e, _, _ => by cases e
  | env :: r, L :: fl, e, k, g => by
    simp only [List.map_cons, List.cons.injEq] at e
    obtain ⟨g1, o, g2, g3⟩ := g L (.head _)
    exact ⟨k env (.head _), ⟨L, o, e.1, g1, g2, g3⟩, funFrames_mk e.2 (fun e m => k e (.tail _ m)) fun a m => g a (.tail _ m)⟩
theorem Exd.start {h₀ h h3 : Heap} {envs : List Env} {fl : List Addr} {σ : St} {W : Wd} {C e dx t0 : Addr} {f g : Str} {u v : Dat} {v1 v2 : Value} {hs1 hs2 : Int} {t1 t2 : Tok} {n : Nat} (I : Inv h₀ fl σ W h) (hfl : envs.map (·.frame) = fl.map some) (hk : ∀ e ∈ envs, e.scope.kind ≠ .module)
    (he : h3.get? e = some ⟨.ref C, some dx, (xObj C t0).data, #[]⟩) (hd : h3.get? dx = some (dictOf [⟨hs1, .str f t1, v1⟩, ⟨hs2, .str g t2, v2⟩] n)) (keep : ∀ b o, h.get? b = some o → h3.get? b = some o) (ne : h.get? e = none) (nd : h.get? dx = none) (sz : h.objs.size ≤ h3.objs.size)
    (r1 : VD W.Z u v1) (r2 : VD W.Z v v2) : Exd envs fl W h ⟨C, [(f, u), (g, v)]⟩ (.ref e) h3 := by
  have nfl : ∀ a ∈ fl, ∃ o, h.get? a = some o ∧ ∀ vs, o.data ≠ .fields vs := fun a m => by
    obtain ⟨_, o, es, ep, g, q, _⟩ := I.stk a m
    exact ⟨o, g, fun vs z => by rw [q] at z; cases z⟩
  have efl : e ∉ fl := fun m => by obtain ⟨o, g, _⟩ := nfl e m; rw [ne] at g; cases g
  have dfl : dx ∉ fl := fun m => by obtain ⟨o, g, _⟩ := nfl dx m; rw [nd] at g; cases g
  have de : dx ≠ e := fun q => by rw [q, he] at hd; cases hd
  have base : ∀ b o, h.get? b = some o → b ∉ fl → (hideAll h3 (e :: fl)).get? b = some o := fun b o q m => hideAll_get _ (keep b o q) fun z => (List.mem_cons.mp z).elim (fun z => by rw [z, ne] at q; cases q) m
  have zle : ZLe W.Z (hideAll h3 (e :: fl)).get? := fun b o q => base b o (I.zk b o q) fun m => by rw [I.frz b m] at q; cases q
  refine ⟨⟨e, hideAll h3 (e :: fl), dx, _, n, rfl, ⟨fun b o q => of_hideAll _ q, hideAll_none _ (.head _), funFrames_mk hfl hk fun a m => ⟨hideAll_none _ (.tail _ m), ?_⟩, _, _, he, rfl, rfl, rfl, .inl rfl⟩, hideAll_get _ hd fun z => (List.mem_cons.mp z).elim de dfl, .cons (r1.mono zle) (.cons (r2.mono zle) .nil), fun b o q => zle b o q, fun b o q _ m => base b o q m⟩, fun b o q _ _ => ⟨o.slots, keep b o q⟩, fun a m => ?_, sz⟩
  · obtain ⟨o, q1, q2⟩ := nfl a m
    exact ⟨o, keep a o q1, q2⟩
  · obtain ⟨m', o, es, ep, q, r⟩ := I.stk a m
    exact ⟨m', o, es, ep, keep _ _ q, r⟩
section
variable {prog : Program} {w : World} {A : Around} {E : Value → Shared → Prop} {env : Env}
variable {nm q : Str} {C N : Addr} {bs bm : List Value} {hdct : Bool} {sn : List Str} {sub : List Value} {ab : Bool} {col : Option Bool} {dd : Option Addr} {k0 k1 k2 k3 k5 : Option Value}
theorem raise_made {s : Shared} {x : Sem Value} {Q : Flow → Shared → Prop} (U : UpOk bm) (hh : A.handled = none)
    (h : wpAny (model prog w) A x (fun v s₁ => ∃ e t dx, v = .ref e ∧ s₁.heap.get? C = some (excClassObj nm q C N bs bm hdct sn sub ab col dd k0 k1 k2 k3 k5 eN) ∧
      s₁.heap.get? e = some ⟨.ref C, some dx, (xObj C t).data, #[]⟩ ∧ E (.ref e) s₁) E s) :
    wpAny (model prog w) A (raiseStmt env (some x) none) Q E s := by
  have hcB : (Value.ref C :: bm).contains (.type "BaseException") = true := by rw [List.contains_cons, U.base, Bool.or_true]
  unfold raiseStmt
  refine wpAny_bind (wpAny_mono h (fun v s₁ h₁ => ?_) fun _ _ x => x)
  obtain ⟨e, t, dx, rfl, hC, he, hE⟩ := h₁
  obtain ⟨hp, g, d, tk, os⟩ := s₁
  repeat (first | with_reducible refine wpAny_loadPart_at he ?_ | with_reducible refine wpAny_loadPart_at hC ?_ | (with_reducible refine wpAny_isSubtype_exc hC ?_; rw [hcB]) | wp_step)
  exact wpAny_raiseNew_none hh hE
end
section
open PySem.Builtin PySem.Builtin.ObjectAttr
structure XgOk (K : Frag) (C : Addr) : Prop where
  ga : findIn K (.ref C) "__getattribute__" = some (some (.builtin "BaseException.__getattribute__"))
  no : findIn K (.ref C) "__getattr__" = some none
  base : mroIn K C (.type "BaseException") = some true
noncomputable abbrev bGA : String := "BaseException.__getattribute__"
section
variable {w : World} {A : Around} {E : Value → Shared → Prop} {K : Frag} {C x : Addr} {h : Heap} {g : Array GenState} {d : Drawn} {t : Nat} {os : OsState} {name : Str} {v : Value} {ox : Obj} {od : Option Obj} {R : Result → Shared → Prop}
theorem xg_check {nameV : Value} {Q : Unit → Shared → Prop} (X : K.In h) (O : XgOk K C) (I : InstAt h x ox C od) (hq : Q () ⟨h, g, d, t, os⟩) :
    wpAny (model pw w) A (checkBuiltinCall bGA ⟨[.ref x, nameV], []⟩) Q E ⟨h, g, d, t, os⟩ := by
  have hk : builtinKind bGA = some .slot := by decide +kernel
  have hsplit : splitId bGA = some ("BaseException", "__getattribute__") := by decide +kernel
  have isB : Looks (model pw w) h (isInstance (.ref x) (.type "BaseException")) true := I.type.andThen (looks_mroIn X O.base)
  have ha := F.args_bexc_ga (.ref x) nameV
  simp only [checkBuiltinCall, hk, hsplit]
  refine wpAny_bind (isB.at ?_)
  cases hsig : Manifest.signature? bGA with
  | none => exact wpAny_pure hq
  | some sig =>
    simp only [argsOk, hsig] at ha
    have h2 : Bind.checkArgs bGA sig ⟨[.ref x, nameV], []⟩ = pure () := ha
    show wpAny _ A (Bind.checkArgs bGA sig ⟨[.ref x, nameV], []⟩) Q E _
    rw [h2]; exact wpAny_pure hq
theorem xg_call {tk : Tok} (X : K.In h) (O : XgOk K C) (I : InstAt h x ox C od) (hf : findObj K C od name = some (.value v)) (hq : R (.ok (.ret v)) ⟨h, g, d, t, os⟩) :
    codeAny (model pw w) A (.call (.builtin bGA) ⟨[.ref x, .str name tk], []⟩) R ⟨h, g, d, t, os⟩ := by
  refine codeAny_call_builtin PySem.F.attr_Exception.ga.plain F.entry_bexc_ga (xg_check X O I ?_)
  have L1 := looks_find (M := model pw w) X I hf
  unfold Builtin.«object.__getattribute__»
  refine wpAny_bind (wpAny_pure (wpAny_bind (wpAny_pure (wpAny_bind (I.type.at (wpAny_bind (L1.at ?_)))))))
  exact wpAny_pure hq
theorem xg_attr {expr : Bool} {Q : Value → Shared → Prop} (X : K.In h) (O : XgOk K C) (I : InstAt h x ox C od) (hf : findObj K C od name = some (.value v)) (hh : handedIn v = true) (hq : Q v ⟨h, g, d, t + 1, os⟩) :
    wpAny (model pw w) A (getAttr (.ref x) name expr) Q E ⟨h, g, d, t, os⟩ := by
  unfold getAttr getAttrBy
  refine wpAny_bind (wpAny_mkText (wpAny_holding (wpAny_bind (I.type.at (wpAny_bind ((looks_findIn X O.ga).at ?_))))))
  have f3 := PySem.F.attr_Exception.ga.bind (.ref x)
  have hx2 : (Value.builtin bGA == Value.builtin "object.__getattribute__") = false := by decide +kernel
  dsimp only
  rw [hx2, Bool.and_false, if_neg (by decide)]
  unfold getAttrByItsOwn hookBefore
  refine wpAny_bind ?_
  show wpAny _ A (typeLookup (.ref C) "__getattr__") _ E _
  refine (looks_findIn X O.no).at (wpAny_bind (wpAny_attempt ?_))
  have ev : callGetattribute (.ref x) (.str name t) (.builtin bGA) expr = boundAndCalled (.builtin bGA) (.ref x) (.str name t) := by
    unfold callGetattribute
    rw [show onTheHeap (Value.builtin bGA) = false from rfl, Bool.and_false]; rfl
  refine wpAny_holding ?_
  rw [ev]
  unfold boundAndCalled
  rw [f3]
  refine wpAny_bind (wpAny_pure (wpAny_call (xg_call X O I hf ?_)))
  show wpAny _ A (handedOut v) Q E _
  rw [handedOut_of hh]; exact wpAny_pure hq
end
end
inductive XIt (c : Cx) (C : Addr) : Prop
  | mk (nm q : Str) (N : Addr) (bs bm : List Value) (hdct : Bool) (sn : List Str) (sub : List Value) (ab : Bool) (col : Option Bool) (dd : Option Addr) (k0 k1 k2 k3 k5 : Option Value) (h : c.K.lookup C = some (excClassObj nm q C N bs bm hdct sn sub ab col dd k0 k1 k2 k3 k5 eN)) (u : UpOk bm)
structure XCls (c : Cx) (C : Addr) (f g : Str) : Prop where
  it : XIt c C
  keep : keepIn c.K (.ref C) = true
  init : ∃ fI fi, findIn c.K (.ref C) "__init__" = some (some (.ref fI)) ∧ typeIn c.K (.ref fI) = some (.type "function") ∧ FnOk c fI fi ∧ XIni fi f g
  set : findIn c.K (.ref C) "__setattr__" = some (some (.builtin "object.__setattr__"))
  ok1 : XcOk c.K C f
  ok2 : XcOk c.K C g
  get : XgOk c.K C
  nof : findIn c.K (.ref C) g = some none
  has : hasDictIn c.K C = true
section
variable {c : Cx} {T : Tb} {p : Pl} {W : Wd} {sh : Shared} {s : S} {d : Nat} {R : Rec} {se : SE} {mg mb : Str → Option Value}
theorem uX.r {γ : Type} {g : γ} {x : Str} {k : Addr → Str → Str → Option γ} {B : Prop} (h : uX T x k = some g) (H : ∀ C f f2, T.X x = some (C, [f, f2]) → k C f f2 = some g → B) : B := by
  refine uO.r h fun q h hx => ?_
  obtain ⟨C, l⟩ := q
  exact nC.r (G := fun l => T.X x = some (C, l) → B) h (fun f l h => nC.r (G := fun l => T.X x = some (C, f :: l) → B) h fun f2 l h => n0.r (G := fun l => T.X x = some (C, f :: f2 :: l) → B) h fun h hx => H C f f2 hx h) hx
section
variable {P : List Prop} {oc : Oc Fw} {Q : Flow → Shared → Prop} {E : Value → Shared → Prop} {v1 v2 : Value}
variable {nm' q : Str} {N : Addr} {bs bm : List Value} {hdct : Bool} {sn : List Str} {sub : List Value} {ab : Bool} {col : Option Bool} {dd : Option Addr} {k0 k1 k2 k3 k5 : Option Value}
theorem raise_end (Xk : c.K.In c.h₀) (hlim : c.h₀.NoLimit) {C : Addr} {f g : Str} {u v : Dat} (K : XCls c C f g) (hC : c.K.lookup C = some (excClassObj nm' q C N bs bm hdct sn sub ab col dd k0 k1 k2 k3 k5 eN)) (U : UpOk bm) (h : some ([], Oc.exc ⟨C, [(f, u), (g, v)]⟩) = some (P, oc)) (A : AOk p.A p.fl p.envs d) (I : Inv c.h₀ p.fl s.σ W sh.heap)
    (r1 : VD W.Z u v1) (r2 : VD W.Z v v2) (z : Post c p FwR oc W sh Q E) :
    wpAny c.M p.A (call (.ref C) [v1, v2]) (fun w s₁ => ∃ e t dx, w = .ref e ∧ s₁.heap.get? C = some (excClassObj nm' q C N bs bm hdct sn sub ab col dd k0 k1 k2 k3 k5 eN) ∧ s₁.heap.get? e = some ⟨.ref C, some dx, (xObj C t).data, #[]⟩ ∧ E (.ref e) s₁) E sh := by
  obtain ⟨-, -, ⟨fI, fi, i1, i2, i3, i4⟩, hset, O1, O2, -, -, -⟩ := K
  obtain ⟨H, G', D, TK, OS⟩ := sh
  have X3 : c.K.In H := Xk.keeps I.h0
  have kk : ∀ b o, H.get? b = some o → (xHeap H C [v1, v2]).get? b = some o := fun b o e => Heap.get?_push_of_some _ (Heap.get?_push_of_some _ e)
  have hen : H.get? (H.objs.size + 1) = none := Heap.get?_none_of_le (Nat.le_succ _)
  refine xc_call (rest := [v1, v2]) U X3 (X3 _ _ hC) i1 i2 (xini (s := ⟨xHeap H C [v1, v2], G', D, TK, OS⟩) i3 i4 Xk hset O1 O2 hlim ?_ (fun b o q => kk b o (I.h0 b o q)) (t0 := H.objs.size) (by heap_get) ?_ r1.handed r2.handed fun h' tk dx n t1 t2 a1 a2 a3 a4 a5 => ?_) (by show (2 : Nat) ≤ sizeLine; decide)
  · exact Nat.lt_of_le_of_lt (Nat.succ_le_succ (Nat.le_add_right _ _)) (Nat.lt_trans (Nat.succ_lt_succ A.depth) (by decide))
  · cases q : c.h₀.get? (H.objs.size + 1) with
    | none => rfl
    | some o => exact nn (hen.symm.trans (I.h0 _ _ q))
  · have keep : ∀ b o, H.get? b = some o → h'.get? b = some o := fun b o q => a3 b o (fun z => by rw [z, hen] at q; cases q) (kk b o q)
    refine ⟨rfl, H.objs.size + 1, H.objs.size, dx, rfl, keep _ _ (X3 _ _ hC), a1, ?_⟩
    have sz : H.objs.size ≤ h'.objs.size := Nat.le_trans (by rw [xHeap, Heap.size_push, Heap.size_push]; exact Nat.le_add_right _ 2) a5
    have X := Exd.start I A.fl A.kinds a1 a2 keep hen (by
      cases q : H.get? dx with
      | none => rfl
      | some o => exact nn (a4.symm.trans (kk _ _ q))) sz r1 r2
    cases h
    exact z ⟨h', G', D, tk, OS⟩ _ X ⟨rfl, rfl⟩
theorem snd_raise (S : Snd c R) (G : GOk c T mg mb) (Xk : c.K.In c.h₀) (hlim : c.h₀.NoLimit) (hX : ∀ x C f g, T.X x = some (C, [f, g]) → XCls c C f g) {x : Str} {a b : Expr} {np cpos pos : Pos} :
    Rt c se (raiF T R se x a b s) s.σ (exec (.Raise (some (.Call (.Name x np) [a, b] [] cpos)) none pos)) FwR := by
  intro P oc h hp p env W sh A V I Q E z
  refine uX.r h fun C f g hx h => uW.r h fun h pa => uW.r h fun h pb => uN.r h fun h hd => uO.r h fun w h hv => ?_
  have K := hX _ _ _ _ hx
  have K' := K
  obtain ⟨⟨nm', q, N, bs, bm, hdct, sn, sub, ab, col, dd, k0, k1, k2, k3, k5, hC, U⟩, hkeep, -⟩ := K
  rw [arm_exec_Raise]
  refine wpAny_bind (wpAny_standAt ?_)
  show wpAny _ _ (raiseStmt env (some (do let v ← eval (.Call (.Name x np) [a, b] [] cpos) env; standAt pos; pure v)) none) Q E sh
  refine raise_made (C := C) (nm := nm') (q := q) (N := N) (bs := bs) (bm := bm) (hdct := hdct) (sn := sn) (sub := sub) (ab := ab) (col := col) (dd := dd) (k0 := k0) (k1 := k1) (k2 := k2) (k3 := k3) (k5 := k5) U A.handled (wpAny_bind (wpAny_mono (wpAny_Call_ofName (ld_name G hv V I hd fun va r => ?_)) (fun v s' hv => wpAny_bind (wpAny_standAt (wpAny_pure hv))) fun _ _ x => x))
  have hq : va = .ref C ∧ (bnd (R.e se a s) fun u s => bnd (R.e se b s) fun v s => uD u fun u => uD v fun v => some ([], .exc ⟨C, [(f, u), (g, v)]⟩)) = some (P, oc) :=
    uR.r (G := fun va => va = .ref C ∧ (bnd (R.e se a s) fun u s => bnd (R.e se b s) fun v s => uD u fun u => uD v fun v => some ([], .exc ⟨C, [(f, u), (g, v)]⟩)) = some (P, oc)) h r fun C' h => uW.r h fun h hc => ⟨by rw [Nat.eq_of_beq_eq_true hc], h⟩
  obtain ⟨rfl, h⟩ := hq
  have hl : plainArgs [a, b] = true := by unfold plainArgs; rw [pa]; unfold plainArgs; rw [pb]; rfl
  have plz := plain_any (pos := cpos) (env := env) hl
  refine callWith_of (by rw [plz]; rfl) (keeps_K hkeep) (evalArgs_sp hl ?_)
  rw [star_plain pa]
  show wpAny _ _ (spliced ((false, eval a env) :: backTo cpos (starEach [b] env))) _ E sh
  rw [star_plain pb]
  show wpAny _ _ (spliced ((false, eval a env) :: (false, eval b env) :: [])) _ E sh
  exact Calls.spliced_cons (bndR h hp (S.e se a s) A V I z fun _ u s1 sh1 W1 v1 h p1 L1 I1 r1 z => Calls.spliced_cons (bndR h p1 (S.e se b s1) A (V.mono L1) I1 z fun _ v s2 sh2 W2 v2 h p2 L2 I2 r2 z => Calls.spliced_nil
    (uD.r h (r1.mono L2) fun u h r1 => uD.r h r2 fun v h r2 => ⟨Xk.keeps I2.h0, raise_end Xk hlim K' hC U h A I2 r1 r2 z⟩)))
end
end
theorem map_dead (σ : St) (i : Nat) (e : En) (h : (σ.map fun _ => En.dead)[i]? = some e) : e = .dead ∧ ∃ e', σ[i]? = some e' := by
  rw [List.getElem?_map] at h
  obtain ⟨e', h1, h2⟩ := Option.map_eq_some_iff.mp h
  exact ⟨h2.symm, e', h1⟩
theorem Inv.lost {h₀ h h' : Heap} {fl : List Addr} {σ : St} {W : Wd} (I : Inv h₀ fl σ W h) (zk : ∀ a o, W.Z a = some o → h'.get? a = some o) (ns : ∀ a ∈ fl, ∃ m, h'.Ns a m) (sz : h.objs.size ≤ h'.objs.size) : Inv h₀ fl (σ.map fun _ => .dead) W h' :=
  ⟨I.base, zk, by rw [List.length_map]; exact I.len, I.nodup, fun a m => ⟨(I.low a m).1, Nat.lt_of_lt_of_le (I.low a m).2 sz⟩, fun i e q => by
    obtain ⟨rfl, e', q'⟩ := map_dead σ i e q
    obtain ⟨a, x, _⟩ := I.ent i e' q'
    exact ⟨a, x, .dead⟩, I.frz, ns, Nat.le_trans I.gr sz⟩
theorem flat_any {Z Z' : ZH} {d : Dat} {v : Value} (h : flat d = true) (r : VD Z d v) : VD Z' d v := by
  cases d with
  | int => obtain ⟨_, rfl⟩ := r.i; exact .int
  | str => obtain ⟨_, rfl⟩ := r.i; exact .str
  | _ => cases h
section
variable {c : Cx} {T : Tb} {p : Pl} {W : Wd} {sh : Shared} {s : S} {d : Nat} {R : Rec} {se : SE} {mg mb : Str → Option Value} {env : Env}
theorem ld_glob (G : GOk c T mg mb) {x : Str} {np : Pos} {C : Addr} {A : Around} {s : Shared} {Q : Value → Shared → Prop} {E : Value → Shared → Prop} (hg : T.G x = some (.top (.ref C))) (hk : env.scope.kind = .function) (hx : env.kindOf x = some .globalImplicit) (hd : nm x "__debug__" = false)
    (e1 : env.globals = mainGlobals) (e2 : env.builtins = builtinsNs) (h0 : ∀ b o, c.h₀.get? b = some o → s.heap.get? b = some o) (q : Q (.ref C) s) : wpAny c.M A (eval (.Name x np) env) Q E s := by
  have hd := no_debug hd
  rcases G.G _ _ hg with ⟨v, hm, r⟩ | ⟨hm, v, hb, hn, r⟩
  · obtain ⟨-, rfl⟩ := r.i
    exact Calls.Name_function_global hk hx (Calls.loadGlobal_global (by rw [e1]; exact G.base.g.keeps h0) hm q) hd
  · obtain ⟨-, rfl⟩ := r.i
    exact Calls.Name_function_global hk hx (Calls.loadGlobal_builtin (by rw [e1]; exact G.base.g.keeps h0) hm (by rw [e2]; exact G.base.b.keeps h0) ((G.base.builtins x hn).trans hb) q) hd
theorem uR.r2 {γ : Type} {g : γ} {d : Dat} {k : Addr → Option γ} {B : Prop} (h : uR (.d d) k = some g) (H : ∀ C, d = .top (.ref C) → k C = some g → B) : B := by
  cases d with
  | top v => cases v with
    | ref C => exact H C rfl h
    | _ => exact nn h
  | _ => exact nn h
theorem tryX.r {P' P : List Prop} {C : Addr} {fs : List (Str × Dat)} {x n n' f a : Str} {b : Bool} {oc : Oc Fw} {B : Prop} (h : tryX T se x n n' a f b P' C fs s = some (P, oc))
    (k : ∀ f1 dd, T.X x = some (C, [f1, f]) → T.G x = some (.top (.ref C)) → tryOk se x n n' = true → lk fs f = some dd → flat dd = true → some (P', Oc.ok (Fw.ret (SV.d (Dat.tup [Dat.str false a, dd, Dat.bool b]))) (⟨s.σ.map fun _ => .dead, []⟩ : S)) = some (P, oc) → B) : B :=
  uX.r h fun C1 f1 f2 hx h => uO.r h fun g h hg => uR.r2 h fun C2 hg2 h => uW.r h fun h hok => uO.r h fun dd h hf => uW.r h fun h e1 => uW.r h fun h e2 => uW.r h fun h e3 => uW.r h fun h e4 =>
    k f1 dd (by rw [hx, Nat.eq_of_beq_eq_true e1, sq_eq e3]) (by rw [hg, hg2, Nat.eq_of_beq_eq_true e2]) hok hf e4 h
structure TryOk (se : SE) (x n n' : Str) : Prop where
  e : n = n'
  tr : se.tr = true
  loc : isLoc se.nm n = true
  gl : lk se.nm x = some .globalImplicit
  d1 : nm x "__debug__" = false
  d2 : nm n "__debug__" = false
theorem tryOk_ok {x n n' : Str} (h : tryOk se x n n' = true) : TryOk se x n n' := by
  obtain ⟨a, h⟩ := Bool.and_eq_true_iff.mp h
  obtain ⟨b, h⟩ := Bool.and_eq_true_iff.mp h
  obtain ⟨c, h⟩ := Bool.and_eq_true_iff.mp h
  obtain ⟨d, h⟩ := Bool.and_eq_true_iff.mp h
  obtain ⟨e, f⟩ := Bool.and_eq_true_iff.mp h
  refine ⟨sq_eq a, b, c, ?_, (Bool.not_eq_true' _).mp e, (Bool.not_eq_true' _).mp f⟩
  revert d
  unfold isGlob
  cases lk se.nm x with
  | none => exact fun q => fT q
  | some k => cases k with
    | globalImplicit => exact fun _ => rfl
    | _ => exact fun q => fT q
theorem try_ret {f a n : Str} {b : Bool} {k1 k2 k3 : Nat} {p2 p3 p4 p5 p6 p7 : Pos} {A : Around} {E' : Value → Shared → Prop} {Q' : Flow → Shared → Prop} {h : Heap} {g : Array GenState} {d : Drawn} {t : Nat} {os : OsState} {m : Str → Option Value} {ea C : Addr} {oe : Obj} {od : Option Obj} {v : Value}
    (hk : env.scope.kind = .function) (hl : env.kindOf n = some .local) (hn : h.Ns env.locals m) (hm : m n = some (.ref ea)) (hd : (n == Str.ofString "__debug__") = false) (K6 : c.K.In h) (O : XgOk c.K C) (I6 : InstAt h ea oe C od) (hfo : findObj c.K C od f = some (.value v)) (hh : handedIn v = true)
    (z : ∀ t1 t2, Q' (.ret (.ref h.objs.size)) ⟨h.push { cls := .type "tuple", dict := none, data := .seq [Value.str a t1, v, Value.bool b].toArray }, g, d, t2, os⟩) :
    wpAny c.M A (execs [.Return (some (.Tuple [.Constant (.str a) k1 p2, .Attribute (.Name n p3) f p4, .Constant (.bool b) k2 p5] k3 p6)) p7] env) Q' E' ⟨h, g, d, t, os⟩ := by
  refine wpAny_execs_cons (wpAny_Return_some (Tuple_ ?_))
  show wpAny _ _ (spliced ((false, constValue env (.str a)) :: (false, eval (.Attribute (.Name n p3) f p4) env) :: (false, constValue env (.bool b)) :: [])) _ _ _
  have he : eval (.Attribute (.Name n p3) f p4) env = (do
    let o' ← eval (.Name n p3) env
    standAt p4.atName
    let r ← holding [o'] (getAttr o' f true)
    letTemporaryGo (.Name n p3) o' r
    pure r) := by rw [arm_eval_Attribute, base_plain (by rfl)]
  exact Calls.spliced_cons (wpAny_mkText (Calls.spliced_cons (Attribute_any_ (wpAny_Name (wpAny_loadName_local hk hl hn hm (xg_attr K6 O I6 hfo hh (Calls.spliced_cons (wpAny_pure (Calls.spliced_nil (wpAny_newObj_type (z _ _) (by show (3 : Nat) ≤ sizeLine; decide))))))) hd) he)))
theorem find_own {K : Frag} {C : Addr} {f : Str} {es : List DictEntry} {m : Nat} {v : Value} (hhas : hasDictIn K C = true) (hnof : findIn K (.ref C) f = some none) (gv : getL f es = some (some v)) : findObj K C (some (dictOf es m)) f = some (.value v) := by
  obtain ⟨cd, hc, hd'⟩ := any_some hhas
  unfold findObj
  rw [hc, hnof]
  show ((PySem.W.ownOf cd (some (dictOf es m)) f).bind _) = _
  unfold PySem.W.ownOf
  rw [if_pos hd']
  have gl : lookIn f (dictOf es m) = some (some v) := (lookIn_dict f es m).trans gv
  dsimp only
  rw [gl]
  rfl
theorem try_end {h₀ h h5 h6 h8 base : Heap} {envs : List Env} {fl : List Addr} {σ : St} {x : Exn} {e : Value} {L : Addr} {oT : Obj} {m8 : Str → Option Value} (I : Inv h₀ fl σ W h) (X : Exd envs fl W h x e h5) (st : base.StaysIn h5)
    (q3 : ∀ b o, W.Z b = some o → base.get? b = some o) (q4 : ∀ b o, h.get? b = some o → b ∉ W.ρ → b ∉ fl → base.get? b = some o) (bL : base.get? L = none) (hs6 : Heap.SameBut L h5 h6) (hn8 : h8.Ns L m8) (hs8 : Heap.SameBut L (h6.push oT) h8)
    (gT : (h6.push oT).get? h6.objs.size = some oT) (aL : h6.objs.size ≠ L) (hL : L ∈ W.ρ) : Inv h₀ fl (σ.map fun _ => .dead) ⟨W.ρ, zput W.Z h6.objs.size oT⟩ h8 ∧ Step fl W h ⟨W.ρ, zput W.Z h6.objs.size oT⟩ h8 := by
  have sz6 : h.objs.size ≤ h6.objs.size := by rw [hs6.1]; exact X.size
  have sz8 : h.objs.size ≤ h8.objs.size := by rw [hs8.1, Heap.size_push]; exact Nat.le_succ_of_le sz6
  have k58 : ∀ b o, b ≠ L → h5.get? b = some o → h8.get? b = some o := fun b o nb g => (hs8.2 b nb).trans (Heap.get?_push_of_some _ ((hs6.2 b nb).trans g))
  have bas8 : ∀ b o, base.get? b = some o → h8.get? b = some o := fun b o g => k58 b o (fun q => nn (bL.symm.trans (q ▸ g))) (st b o g)
  obtain ⟨zT, rT, fT⟩ := I.fresh sz6
  refine ⟨(I.lost (fun b o g => bas8 b o (q3 b o g)) (fun b mb => ?_) sz8).icy ((hs8.2 _ aL).trans gT) zT rT fT, Step.icy ⟨⟨[], (List.append_nil _).symm, fun _ x => nomatch x⟩, fun _ _ e => e, fun _ _ e => .inl e, fun b o g r f => bas8 b o (q4 b o g r f), fun b o g r f => ?_, sz8⟩ zT sz6⟩
  · by_cases q : b = L
    · exact ⟨m8, q ▸ hn8⟩
    · obtain ⟨mm, oo, es', ep, z1, z2⟩ := X.ns b mb
      exact ⟨mm, oo, es', ep, k58 b _ q z1, z2⟩
  · obtain ⟨sl, z⟩ := X.slots b o g r f
    exact ⟨sl, k58 b _ (fun q => r (q ▸ hL)) z⟩
theorem try_hdl (G : GOk c T mg mb) (Xk : c.K.In c.h₀) {x n f a f1 : Str} {b : Bool} {k1 k2 k3 : Nat} {p1 p2 p3 p4 p5 p6 p7 p8 : Pos} {C ea dx L : Addr} {fs : List (Str × Dat)} {dd : Dat} {Q : Flow → Shared → Prop} {E : Value → Shared → Prop} {base h3 : Heap} {g : Array GenState} {d : Drawn} {t : Nat} {os : OsState} {es : List DictEntry} {m : Nat}
    (K : XCls c C f1 f) (hg : T.G x = some (.top (.ref C))) (K' : TryOk se x n n) (hf : lk fs f = some dd) (e4 : flat dd = true) (A : AOk p.A p.fl p.envs se.d) (V : EnvOk p se env W) (I : Inv c.h₀ p.fl s.σ W sh.heap) (hfr : env.frame = some L) (hL : p.fl.head? = some L)
    (X3 : Exd p.envs p.fl W sh.heap ⟨C, fs⟩ (.ref ea) h3) (N3 : Noted (.ref ea) h3) (R1 : Rest sh ⟨h3, g, d, t, os⟩) (X4 : ExSt base p.envs C dx ea h3) (q1 : base.get? dx = some (dictOf es m)) (q2 : VDf base.get? fs es) (q3 : ∀ b o, W.Z b = some o → base.get? b = some o) (q4 : ∀ b o, sh.heap.get? b = some o → b ∉ W.ρ → b ∉ p.fl → base.get? b = some o)
    (z : Post c p FwR (.ok (.ret (.d (.tup [.str false a, dd, .bool b]))) ⟨s.σ.map fun _ => .dead, []⟩) W sh Q E) :
    wpAny c.M p.A (handleBy (.ref ea) env [.ExceptHandler (some (.Name x p1)) (some n) [.Return (some (.Tuple [.Constant (.str a) k1 p2, .Attribute (.Name n p3) f p4, .Constant (.bool b) k2 p5] k3 p6)) p7] p8]) Q E ⟨h3, g, d, t, os⟩ := by
  obtain ⟨⟨nm', q, N, bs, bm, hdct, sn, sub, ab, col, d0, k0, k1', k2', k3', k5, hC, U⟩, -, -, -, -, -, hget, hnof, hhas⟩ := K
  have fact : ∀ {hh : Heap}, base.StaysIn hh → ∀ b o, c.h₀.get? b = some o → hh.get? b = some o := fun st b o g => st b o (q3 b o (I.base b o g))
  have hLL : L = env.locals := Option.some.inj (hfr.symm.trans (V.own K'.tr))
  subst hLL
  obtain ⟨e0, outer, he0, hfr0⟩ := A.top hL
  have hnl : env.kindOf n = some .local := by rw [V.kindOf]; exact isLoc_ok K'.loc
  have hp' : (env.scope.kind == .class || (env.scope.kind == .module && env.locals != env.globals)) = false := by rw [V.kind]; rfl
  have X4c := X4
  obtain ⟨st3, -, ff3, oe, vs, g1, g2, -, -, -⟩ := X4
  have bL : base.get? env.locals = none := (ff3.mem (List.mem_filterMap.mpr ⟨e0, by rw [he0]; exact .head _, hfr0⟩)).1
  refine wpAny_handleBy_cons (codeAny_handlers_test (ld_glob G hg V.kind ((V.kindOf x).trans K'.gl) K'.d1 V.glob V.blt (fact st3) ?_)) (by intro q; cases q)
  refine wpAny_excMatches_sub_self (Xk.keeps (fact st3) _ _ hC) g1 g2 U.base ?_
  refine codeAny_handlers_suite_as (flight_rule (base := base) (envs := p.envs) X4c N3 fun h5 X5 N5 U5 Z5 => ?_)
  have X5' := X3.upd rfl X5 q1 q2 q3 q4 U5 Z5
  obtain ⟨st5, -, -, oe5, vs5, a1, a2, a3, a4, -⟩ := X5
  obtain ⟨m5, hm5⟩ := X5'.ns _ (List.mem_of_head? hL)
  refine wpAny_storeName_local hnl hm5 (fun h6 hn6 hs6 => ?_) hp'
  have st6 : base.StaysIn h6 := fun b o g => (hs6.2 b fun q => nn (bL.symm.trans (q ▸ g))).trans (st5 b o g)
  have eaL : ea ≠ env.locals := fun q => by
    obtain ⟨o, es', ep, z1, z2, _⟩ := hm5
    rw [← q, a1] at z1; cases z1; rw [a4] at z2; cases z2
  obtain ⟨v, gv, rv⟩ := (VDf.toR q2 : VRf ⟨[], base.get?⟩ (fs.map fun p => (p.1, .d p.2)) es).some (x := f) (s := .d dd) (by rw [lk_mapD, hf]; rfl)
  refine try_ret V.kind hnl hn6 (if_pos rfl) (no_debug K'.d2) (Xk.keeps (fact st6)) hget ⟨(hs6.2 ea eaL).trans a1, a2, by unfold notCls; rw [a4], by rw [a3]; exact st6 _ _ q1⟩ (find_own hhas hnof gv) rv.handed fun t1 t2 => ?_
  refine wpAny_nameGoes hnl (hn6.keeps fun b o e => Heap.get?_push_of_some _ e) hp' fun h8 m8 hn8 hs8 => ?_
  obtain ⟨J, S⟩ := try_end I X5' st5 q3 q4 bL hs6 hn8 hs8 (Heap.get?_push_size _ rfl) (fun q => absurd hn6.lt (by rw [← q]; exact Nat.lt_irrefl _)) (List.mem_of_getElem? V.loc)
  exact z _ _ _ S J (R1.trans ⟨rfl, rfl⟩) ⟨_, rfl, .d (.tup (zput_self ..) (.cons .str (.cons (flat_any e4 rv.di) (.cons .bool .nil))))⟩
theorem snd_try (S : Snd c R) (G : GOk c T mg mb) (Xk : c.K.In c.h₀) (hX : ∀ x C f g, T.X x = some (C, [f, g]) → XCls c C f g) {x n n' f a : Str} {body : List Stmt} {b : Bool} {k1 k2 k3 : Nat} {p1 p2 p3 p4 p5 p6 p7 p8 pos : Pos} :
    Rt c se (tryF T R se body x n n' a f b s) s.σ
      (exec (.Try body [.ExceptHandler (some (.Name x p1)) (some n) [.Return (some (.Tuple [.Constant (.str a) k1 p2, .Attribute (.Name n' p3) f p4, .Constant (.bool b) k2 p5] k3 p6)) p7] p8] [] [] pos)) FwR := by
  intro P oc h hp p env W sh A V I Q E z
  unfold tryF at h
  cases hr : R.ss se body s with
  | none => rw [hr] at h; exact nn h
  | some q =>
  rw [hr] at h
  obtain ⟨P', o⟩ := q
  cases o with
  | ok fw s' =>
    have h : some (P', Oc.ok fw s') = some (P, oc) := h
    cases h
    refine wpAny_Try_except (wpAny_mono (S.ss _ _ _ _ _ hr hp p env W sh A V I (fun fl s₁ => match fl with | .next => wpAny c.M p.A (execs [] env) Q E s₁ | fl => Q fl s₁) (fun _ _ => False) ?_) (fun _ _ x => x) fun _ _ x => x.elim)
    intro sh' W' v S' I' R' r'
    cases fw with
    | next => cases r'; exact wpAny_execs_nil (z sh' W' _ S' I' R' rfl)
    | ret v => obtain ⟨y, rfl, r'⟩ := r'; exact z sh' W' _ S' I' R' ⟨y, rfl, r'⟩
  | exc X =>
    obtain ⟨C, fs⟩ := X
    have h : tryX T se x n n' a f b P' C fs s = some (P, oc) := h
    refine tryX.r h fun f1 dd hx hg hok hf e4 h2 => ?_
    clear h
    have K := tryOk_ok hok
    clear hok
    obtain rfl := K.e
    cases h2
    refine wpAny_Try_except (wpAny_mono (S.ss _ _ _ _ _ hr hp p env W sh A V I (fun _ _ => False) (fun e s₁ => Exd p.envs p.fl W sh.heap ⟨C, fs⟩ e s₁.heap ∧ Rest sh s₁) fun sh' e X' R' => ⟨X', R'⟩) (fun _ _ x => x.elim) fun e s₁ hx1 => ?_)
    obtain ⟨L, hfr, hL⟩ := V.frame
    refine hx1.1.note A hfr hL fun h2 X2 N2 => ?_
    refine X2.flight (sh := ⟨h2, s₁.gens, s₁.drawn, s₁.toks, s₁.os⟩) N2 fun h3 X3 N3 => ?_
    obtain ⟨ea, base, dx, es, m, rfl, X4, q1, q2, q3, q4⟩ := X3.up
    exact try_hdl G Xk (hX _ _ _ _ hx) hg K hf e4 A V I hfr hL X3 N3 (hx1.2.trans ⟨rfl, rfl⟩) X4 q1 q2 q3 q4 z
end
section
open PySem.Calls
theorem fh0 (t : Tok) : Builtin.«bytes.fromhex» ⟨[.type "bytes", .str ⟨#[]⟩ t], []⟩ = (Made.bytes #[]).tree := by kernel_rfl
theorem fh1 (t : Tok) : Builtin.«bytes.fromhex» ⟨[.type "bytes", .str ⟨#[48, 48, 65, 70]⟩ t], []⟩ = (Made.bytes #[0, 175]).tree := by kernel_rfl
theorem type_fh : typeOf (.builtin "bytes.fromhex") = pure (.type "classmethod_descriptor") := by show builtinType _ = _; rw [builtinType_eq_fast]; kernel_rfl
theorem entry_fh : entryFor table "bytes.fromhex" = some Builtin.«bytes.fromhex» := entryFor_of_tree (by kernel_rfl)
theorem quiet_fh {as : Args} : (Code.builtin "bytes.fromhex" as).quiet = true := Code.quiet_builtin _ (by decide +kernel)
theorem is_bytes : isType (.type "bytes") = pure true := by first | rfl | kernel_rfl | (unfold isType; rw [isSubtype_type]; kernel_rfl)
theorem sub_bytes : isSubtype (.type "bytes") (.type "bytes") = pure true := by rw [isSubtype_type]; kernel_rfl
end
section
open PySem.Calls
noncomputable def fhObj : Obj := { cls := .type "builtin_function_or_method", data := .fields #[.builtin "bytes.fromhex", .type "bytes"] }
theorem owner_fh : (kfb_private% "ownerAndName") "bytes.fromhex" = ("bytes", "fromhex") := by first | decide +kernel | kernel_rfl
section
variable {w : World} {M : Model} {A : Around} {E : Value → Shared → Prop} {s : Shared} {K : Frag}
theorem fh_get {P : PySem.Fin → Shared → Prop} (h : P (.done (.ret (.ref s.heap.objs.size))) { s with heap := s.heap.push fhObj }) :
    wpAny M A (Builtin.«classmethod_descriptor.__get__» ⟨[.builtin "bytes.fromhex", .none, .type "bytes"], []⟩) P E s := by
  unfold Builtin.«classmethod_descriptor.__get__»
  refine wpAny_bind (wpAny_of_eq (a := (.builtin "bytes.fromhex", none, some (.type "bytes"))) (by first | rfl | kernel_rfl) ?_)
  simp only [owner_fh]
  refine wpAny_bind (wpAny_of_eq (a := .type "bytes") rfl ?_)
  refine wpAny_bind (wpAny_of_eq (a := true) is_bytes ?_)
  refine KFB.if_not rfl ?_
  refine wpAny_bind (wpAny_of_eq (a := true) sub_bytes ?_)
  refine KFB.if_not rfl ?_
  exact wpAny_bind (wpAny_newObj_type (wpAny_pure h))
theorem fh_method {pl : Sem Bool} {Q : Value × List Value → Shared → Prop} (X : K.In s.heap) (h : Q (.ref s.heap.objs.size, []) { s with heap := s.heap.push fhObj, toks := s.toks + 1 }) :
    wpAny (model pw w) A (getMethod (.type "bytes") (PySem.Str.ofString "fromhex") pl) Q E s := by
  have hstub : opaqueClassAbove (.type "bytes") = pure none := by unfold opaqueClassAbove; dsimp only; rw [show Manifest.isStub "bytes" = false by decide +kernel]; rfl
  have ht : typeOf (.type "bytes") = pure (.type "type") := by first | rfl | kernel_rfl
  have L0 : Looks (model pw w) s.heap (typeOf (.type "bytes")) (.type "type") := Looks.of_pure ht
  have hg : findIn K (.type "type") "__getattribute__" = some (some (.builtin "type.__getattribute__")) := type_tga
  have e : findCls K (.type "bytes") (.type "type") (PySem.Str.ofString "fromhex") = some (.get (.builtin "classmethod_descriptor.__get__") (.builtin "bytes.fromhex") .none (.type "bytes")) := by first | rfl | kernel_rfl
  unfold getMethod specialOf
  refine wpAny_bind (wpAny_bind (L0.here ((looks_findIn X hg).here ?_)))
  dsimp only
  rw [if_pos canon_tga]
  refine wpAny_bind (wpAny_mono (Q := fun v => Q (v, [])) (E := E) ?_ (fun _ _ z => wpAny_pure z) fun _ _ z => z)
  have LO : Looks (model pw w) s.heap (opaqueClassAbove (.type "bytes")) none := Looks.of_pure hstub
  refine cls_open X LO L0 hg (looks_hook X (r := none) (by rfl)) (by show subIn K _ _ = _; rfl) e ?_
  show wpAny _ _ (holding [.builtin "bytes.fromhex"] (call (.builtin "classmethod_descriptor.__get__") [.builtin "bytes.fromhex", .none, .type "bytes"]) >>= fun v => PySem.ret v) _ _ _
  exact wpAny_bind (wpAny_holding (wpAny_call_entry KFB.slot_get type_fh KFB.entry_get (fh_get ⟨_, rfl, wpAny_pure (wpAny_pure h)⟩) (KFB.args_get _ _ _)))
theorem fh_with {pos : Pos} {u : Addr} {first : List Value} {args : List (Bool × Sem Value)} {Q : Value → Shared → Prop} (hplain : args.any (·.1) = false)
    (h : wpAny M A (evalArgs (.ref u) true args []) (fun x s₁ => s₁.heap.get? u = some fhObj ∧ wpAny M A (call (.ref u) (first ++ x.pos) x.kw) Q E s₁) E s) : wpAny M A (callWith pos (.ref u) first args []) Q E s := by
  unfold callWith
  refine wpAny_bind (wpAny_holding (wpAny_mono h (fun x s₁ h₁ => wpAny_bind (wpAny_standAt ?_)) fun _ _ x => x))
  obtain ⟨ho, hcall⟩ := h₁
  simp only [hplain, List.any_nil, Bool.or_false]
  refine wpAny_bind (m := keeperOf (.ref u)) ?_
  unfold keeperOf
  refine wpAny_bind (wpAny_load ho ?_)
  simp only [fhObj, show (Value.type "builtin_function_or_method" != Value.type "method") = true by decide, show (Value.type "builtin_function_or_method" == Value.type "builtin_function_or_method" || Value.type "builtin_function_or_method" == Value.type "method-wrapper") = true by decide, if_true]
  refine wpAny_pure ?_
  exact wpAny_bind (wpAny_mono hcall (fun r s₂ hr => wpAny_bind (wpAny_holding (wpAny_point (wpAny_pure hr)))) fun _ _ x => x)
theorem check_fh {x : PySem.Str} {t : Tok} : checkBoundCall "bytes.fromhex" ⟨[.type "bytes", .str x t], []⟩ = pure () := by first | kernel_rfl | rfl
theorem fh_call {u : Addr} {x : PySem.Str} {t : Tok} {b : Array UInt8} {Q : Value → Shared → Prop} (ho : s.heap.get? u = some fhObj) (g : Builtin.«bytes.fromhex» ⟨[.type "bytes", .str x t], []⟩ = (Made.bytes b).tree) (hb : b.size ≤ sizeLine)
    (h : ∀ t k, Q (.bytes b t) { s with toks := k }) : wpAny (model pw w) A (call (.ref u) [.str x t]) Q E s := by
  refine wpAny_call (codeAny_of_tree ?_)
  show wpAny _ A.in1 (callAny (.ref u) ⟨[.str x t], []⟩) _ _ s
  simp only [callAny]
  refine wpAny_bind (wpAny_load ho ?_)
  simp only [fhObj, show (Value.type "builtin_function_or_method" == Value.type "method" || Value.type "builtin_function_or_method" == Value.type "builtin_function_or_method" || Value.type "builtin_function_or_method" == Value.type "method-wrapper") = true by decide, if_true]
  refine KFB.if_so (by decide) ?_
  refine wpAny_bind (wpAny_of_eq (a := ()) check_fh ?_)
  refine wpAny_bind (wpAny_pure (wpAny_pure ?_))
  refine ⟨quiet_fh, codeAny_builtin entry_fh ?_⟩
  show wpAny _ _ (Builtin.«bytes.fromhex» ⟨[.type "bytes", .str x t], []⟩) _ _ _
  rw [g]
  show wpAny _ _ (do PySem.ret (← mkBytes b)) _ _ _
  exact wpAny_bind (wpAny_mkBytes (wpAny_pure (h _ _)) hb)
end
section
variable {c : Cx} {T : Tb} {p : Pl} {W : Wd} {sh : Shared} {s : S} {d : Nat} {R : Rec} {se : SE} {mg mb : Str → Option Value}
theorem hexB_ok {x : PySem.Str} {b : Array UInt8} {t : Tok} (h : hexB x = some b) : Builtin.«bytes.fromhex» ⟨[.type "bytes", .str x t], []⟩ = (Made.bytes b).tree ∧ b.size ≤ sizeLine := by
  obtain ⟨⟨l⟩⟩ := x
  unfold hexB at h
  cases q : lq (PySem.Str.mk ⟨l⟩).cps.toList [] with
  | true => rw [q] at h; cases h; have := lq_ok q; dsimp only at this; subst this; exact ⟨fh0 t, by decide⟩
  | false =>
    rw [q] at h
    dsimp only at h
    cases q : lq (PySem.Str.mk ⟨l⟩).cps.toList [48, 48, 65, 70] with
    | true => rw [q] at h; cases h; have := lq_ok q; dsimp only at this; subst this; exact ⟨fh1 t, by decide⟩
    | false => rw [q] at h; exact nn h
theorem isBy.r {v : SV} {va : Value} (h : isBy v = true) (r : VR W v va) : va = .type "bytes" := by
  cases v with
  | d x => cases x with
    | top w =>
      obtain ⟨-, rfl⟩ := r.i
      cases va with
      | type t => rw [of_decide_eq_true h]
      | _ => cases h
    | _ => cases h
  | _ => cases h
theorem snd_hex (S : Snd c R) (G : GOk c T mg mb) (Xk : c.K.In c.h₀) {x m : Str} {e : Expr} {ap xp pos : Pos} (hm : nm m "fromhex" = true) (hline : Nat.beq ap.endLine pos.line = true) (hpl : plainArg e = true) :
    Rt c se (evSp T R se (.hex x e) s) s.σ (eval (.Call (.Attribute (.Name x xp) m ap) [e] [] pos)) VR := by
  intro P oc h hp p env W sh A V I Q E z
  refine uN.r h fun h hd => uO.r h fun w h hv => uW.r h fun h hb => ?_
  have hm' := nm_eq hm
  subst hm'
  have hform : methodCallForm (1 + ([] : List Keyword).length) (backTo pos (starEach [e] env)) (backToKw pos (keywordEach [] env)) = true := by
    rw [star_plain hpl]; rfl
  rw [arm_eval_Call, base_plain (by rfl)]
  refine wpAny_bind (ld_name G hv V I hd fun va r => wpAny_bind (wpAny_standAt ?_))
  have := isBy.r hb r
  subst this
  unfold methodCall
  rw [show ([e] : List Expr).length = 1 from rfl, hform]
  refine wpAny_bind (wpAny_holding (fh_method (Xk.keeps I.h0) ?_))
  dsimp only
  rw [line_pos hline]
  refine wpAny_bind (wpAny_pure ?_)
  have gu : (sh.heap.push fhObj).get? sh.heap.objs.size = some fhObj := Heap.get?_push_size _ rfl
  obtain ⟨zU, rU, fU⟩ := I.fresh (Nat.le_refl sh.heap.objs.size)
  obtain ⟨I2, S2⟩ := I.keeps (h' := sh.heap.push fhObj) (fun b o q => Heap.get?_push_of_some _ q) (by rw [Heap.size_push]; exact Nat.le_succ _)
  have z := z.after (s' := { sh with heap := sh.heap.push fhObj, toks := sh.toks + 1 }) S2 ⟨rfl, rfl⟩
  have hl : plainArgs [e] = true := by unfold plainArgs; rw [hpl]; rfl
  refine fh_with (plain_any (pos := pos) (env := env) hl) (evalArgs_sp hl ?_)
  rw [star_plain hpl]
  show wpAny _ _ (spliced ((false, eval e env) :: [])) _ E _
  refine Calls.spliced_cons (bndS (sh := { sh with heap := sh.heap.push fhObj, toks := sh.toks + 1 }) h hp (fun P o h hp => S.e _ _ _ _ _ h hp p env W _ A V I2) (fun y q sh' ev X R' => by subst q; exact z sh' ev X R') fun _ v s2 sh3 W3 va h p2 S3 I3 R3 r3 => Calls.spliced_nil ?_)
  have z := z.after S3 R3
  have hu := S3.keep _ _ gu rU fU
  refine ⟨hu, uS.r (G := fun v => wpAny _ _ (call _ [v]) _ _ _) h r3 fun y t tk h => uN.r h fun h _ => uO.r h fun b h hb => ?_⟩
  obtain ⟨g, hz⟩ := hexB_ok (t := tk) hb
  exact fh_call hu g hz fun t' k => z.tk h I3 (.d .byt)
end
end
noncomputable def SRo : SR → Oc Fw
  | .ok none σ => .ok .next ⟨σ, []⟩
  | .ok (some v) σ => .ok (.ret v) ⟨σ, []⟩
  | .exc x => .exc x
noncomputable def StOk (c : Cx) (n : Nat) (se : SE) (st : Stmt) (σ : St) (r : SR) : Prop :=
  ∀ p env W sh, AOk p.A p.fl p.envs n → EnvOk p se env W → Inv c.h₀ p.fl σ W sh.heap → Run c p (exec st env) FwR (SRo r) W sh
structure TOk (c : Cx) (T : Tb) (mg mb : Str → Option Value) : Prop where
  K : c.K.In c.h₀
  g : GOk c T mg mb
  lim : c.h₀.NoLimit
  fd : ∀ C x, T.Fd C x = true → FdOk c.K C x
  mt : ∀ C x f, T.Mt C x = some f → MtOk c.K C x f
  kp : ∀ a, T.kp a = true → keepIn c.K (.ref a) = true
  fn : ∀ a i, T.F a = some i → FnOk c a i
  ck : ∀ C i, T.C C = some i → CkOk c C i
  iz : IzOk c T
  d : DOk c T
  x : ∀ x C f g, T.X x = some (C, [f, g]) → XCls c C f g
  CK : ∀ n f vs σ r, T.CK n f vs σ r → CallOk c n f vs σ r
  SK : ∀ n se st σ r, T.SK n se st σ r → StOk c n se st σ r
section
variable {c : Cx} {T : Tb} {mg mb : Str → Option Value} {R : Rec}
theorem snd_byS (O : TOk c T mg mb) {se : SE} {st : Stmt} {s : S} : Rt c se (byS T se st s) s.σ (exec st) FwR := by
  intro P o h hp p env W sh A V I Q E z
  refine hT.r h fun n r hs h => uW.r h fun h hn => ?_
  have A' := A.le (Nat.le_of_ble_eq_true hn)
  cases r with
  | ok fl σ =>
    cases h
    refine O.SK _ _ _ _ _ hp.1 p env W sh A' V I Q E ?_
    cases fl with
    | none => exact z
    | some v => exact z
  | exc x => cases h; exact O.SK _ _ _ _ _ hp.1 p env W sh A' V I Q E z
theorem snd_ap (O : TOk c T mg mb) (S : Snd c R) (d : Nat) (f : SV) (vs : List SV) (s : P465.S) : ApOk c d (apF T R d f vs s) s.σ f vs := by
  intro P o h hp p W sh fv as A I rf rs Q E z
  refine uV.r (G := fun fv => wpAny _ _ (call fv as) Q E sh) h rf (fun a h => wpAny_call ?_) fun v h => uO.r h fun b h hb => snd_blt O.K O.iz hb h hp A I rs Q E z
  cases hc : T.con a with
  | true => rw [hc] at h; exact snd_byC O.CK h hp A I rs _ z
  | false =>
    rw [hc] at h
    dsimp only at h
    cases hi : T.F a with
    | some i => rw [hi] at h; exact snd_callF S O.K O.lim (O.fn _ _ hi) h hp A I rs _ z
    | none => rw [hi] at h; exact uO.r h fun i h hi => uO.r h fun fi h hfi => snd_mk S O.K O.lim (O.fn _ _ hfi) (O.ck _ _ hi) h hp A I rs _ z
theorem cm_ok (O : TOk c T mg mb) {d : Nat} : CmOk1 c T d := fun op a b s P o h hp p W sh va vb A I ra rb => snd_cmpP O.d h hp A I ra rb
theorem snd_g (O : TOk c T mg mb) (S : Snd c R) (se : SE) (ex : Expr) (s : P465.S) : Rt c se (evG T R se ex s) s.σ (eval ex) VR := by
  cases ex with
  | Constant k j pos => exact snd_const
  | Name x pos => exact snd_name O.g
  | BoolOp op l pos => exact S.bo se op l s pos
  | BinOp l op r pos => exact snd_bin S fun a b s P o h hp p W sh va vb A I ra rb => snd_binP h hp A I ra rb
  | UnaryOp op x pos =>
    cases op with
    | Not => exact snd_not S
    | USub => exact snd_neg S
    | _ => exact fun P o h => nn h
  | IfExp t a b pos => exact snd_ifexp S
  | List l pos => exact snd_list S
  | Tuple l k pos => exact snd_tuple S
  | Compare l ops rs pos => exact snd_cmp S (cm_ok O)
  | Attribute o x pos => exact snd_attr S O.K O.fd
  | Subscript o i pos =>
    cases i with
    | Slice lo up st q => cases st with
      | none => exact snd_slc S
      | some _ => exact fun P o h => nn h
    | _ => exact snd_sub S O.d
  | ListComp elt gens sc pos => exact snd_listcomp S
  | Call f args kws pos =>
    intro P o h hp p env W sh A V I Q E z
    refine n0.r (G := fun kws => wpAny _ _ (eval (.Call f args kws pos) env) Q E sh) h fun h => ?_
    cases f with
    | Attribute o x ap => exact snd_method S O.K O.mt (fun m o x s h p W sh va pl Q E I r q => snd_bmet O.d h I r q) (fun m o vs s P oc h hp p W sh va vas d A I r rs => snd_tyM O.d h hp A I r rs) _ _ h hp p env W sh A V I Q E z
    | _ => exact snd_call S O.K O.kp (fun env => rfl) _ _ h hp p env W sh A V I Q E z
  | _ => exact fun P o h => nn h
end
section
variable {c : Cx} {T : Tb} {mg mb : Str → Option Value} {R : Rec}
theorem sp_repl (O : TOk c T mg mb) {se : SE} {l r : Expr} {pos : Pos} {s : P465.S} {q : Spc} (h : specR l r = some q) (S : Snd c R) : Rt c se (evSp T R se q s) s.σ (eval (.BinOp l .Add r pos)) VR := by
  refine eCs.r (G := fun l => Rt c se (evSp T R se q s) s.σ (eval (.BinOp l .Add r pos)) VR) h fun c1 j1 p1 h => cS.r (H := fun c1 => Rt c se (evSp T R se q s) s.σ (eval (.BinOp (.Constant c1 j1 p1) .Add r pos)) VR) h fun a h =>
    eCa.r (G := fun r => Rt c se (evSp T R se q s) s.σ (eval (.BinOp _ .Add r pos)) VR) h fun f l w p2 h => n0.r (G := fun w => Rt c se (evSp T R se q s) s.σ (eval (.BinOp _ .Add (.Call f l w p2) pos)) VR) h fun h =>
    eAt.r (G := fun f => Rt c se (evSp T R se q s) s.σ (eval (.BinOp _ .Add (.Call f l [] p2) pos)) VR) h fun o m ap h => eNm.r (G := fun o => Rt c se (evSp T R se q s) s.σ (eval (.BinOp _ .Add (.Call (.Attribute o m ap) l [] p2) pos)) VR) h fun x px h =>
    nC.r (G := fun l => Rt c se (evSp T R se q s) s.σ (eval (.BinOp _ .Add (.Call _ l [] p2) pos)) VR) h fun e1 l h => nC.r (G := fun l => Rt c se (evSp T R se q s) s.σ (eval (.BinOp _ .Add (.Call _ (e1 :: l) [] p2) pos)) VR) h fun e2 l h => n0.r (G := fun l => Rt c se (evSp T R se q s) s.σ (eval (.BinOp _ .Add (.Call _ (e1 :: e2 :: l) [] p2) pos)) VR) h fun h =>
    eCs.r (G := fun e1 => Rt c se (evSp T R se q s) s.σ (eval (.BinOp _ .Add (.Call _ [e1, e2] [] p2) pos)) VR) h fun c2 j2 p3 h => cS.r (H := fun c2 => Rt c se (evSp T R se q s) s.σ (eval (.BinOp _ .Add (.Call _ [.Constant c2 j2 p3, e2] [] p2) pos)) VR) h fun u h =>
    eCs.r (G := fun e2 => Rt c se (evSp T R se q s) s.σ (eval (.BinOp _ .Add (.Call _ [_, e2] [] p2) pos)) VR) h fun c3 j3 p4 h => cS.r (H := fun c3 => Rt c se (evSp T R se q s) s.σ (eval (.BinOp _ .Add (.Call _ [_, .Constant c3 j3 p4] [] p2) pos)) VR) h fun v h => uW.r h fun h h1 => uW.r h fun h h2 => ?_
  cases h
  exact snd_repl O.g h1 h2
theorem sp_hex (O : TOk c T mg mb) {se : SE} {f : Expr} {l : List Expr} {w : List Keyword} {pos : Pos} {s : P465.S} {q : Spc} (h : specH f l w pos = some q) (S : Snd c R) : Rt c se (evSp T R se q s) s.σ (eval (.Call f l w pos)) VR := by
  refine n0.r (G := fun w => Rt c se (evSp T R se q s) s.σ (eval (.Call f l w pos)) VR) h fun h => eAt.r (G := fun f => Rt c se (evSp T R se q s) s.σ (eval (.Call f l [] pos)) VR) h fun o m ap h => eNm.r (G := fun o => Rt c se (evSp T R se q s) s.σ (eval (.Call (.Attribute o m ap) l [] pos)) VR) h fun x px h =>
    nC.r (G := fun l => Rt c se (evSp T R se q s) s.σ (eval (.Call _ l [] pos)) VR) h fun e l h => n0.r (G := fun l => Rt c se (evSp T R se q s) s.σ (eval (.Call _ (e :: l) [] pos)) VR) h fun h => uW.r h fun h h1 => uW.r h fun h h2 => uW.r h fun h h3 => ?_
  cases h
  exact snd_hex S O.g O.K h1 h2 h3
theorem snd_e (O : TOk c T mg mb) (S : Snd c R) (se : SE) (ex : Expr) (s : P465.S) : Rt c se (evE T R se ex s) s.σ (eval ex) VR := by
  unfold evE
  cases h : spec ex with
  | none => exact snd_g O S se ex s
  | some q =>
    cases ex with
    | BinOp a op b pos => cases op with
      | Add => exact sp_repl O h S
      | _ => exact nn h
    | Call f l w pos => exact sp_hex O h S
    | _ => exact nn h
theorem snd_tt (O : TOk c T mg mb) (S : Snd c R) (se : SE) (ex : Expr) (s : P465.S) : Rt c se (evT T R se ex s) s.σ (fun env => isTrue ex env (eval ex env)) EqR := by
  cases ex with
  | UnaryOp op x pos =>
    cases op with
    | Not => exact snd_notT S
    | _ => exact snd_valT S (fun env => rfl)
  | BoolOp op l pos => exact snd_boT S
  | IfExp t a b pos => exact snd_ifT S
  | Compare l ops rs pos => exact snd_cmpT S (cm_ok O)
  | _ => exact snd_valT S (fun env => rfl)
theorem st_name (O : TOk c T mg mb) (S : Snd c R) {se : SE} {x : Str} {px pos : Pos} {e : Expr} {s : P465.S} : Rt c se (asgF T R se (.Name x px) e pos s) s.σ (exec (.Assign [.Name x px] e pos)) FwR := by
  unfold asgF
  dsimp only
  cases T.stl pos.line with
  | true => exact snd_byS O
  | false =>
    unfold asgN
    cases hc : isComp e with
    | false => exact snd_assignName S hc
    | true =>
      intro P o h hp p env W sh A V I Q E z
      have key : ∀ elt t it ifs sc q, uW (usd se x px q sc) (lcN R se x t it elt ifs sc s) = some (P, o) → wpAny c.M p.A (exec (.Assign [.Name x px] (.ListComp elt [⟨t, it, ifs, 0⟩] sc q) pos) env) Q E sh := fun elt t it ifs sc q h => uW.r h fun h hu => snd_used S hu _ _ h hp p env W sh A V I Q E z
      exact ek.r (P := fun e K => (match K with | .lc elt gs sc q => gX gs fun t it ifs => uW (usd se x px q sc) (lcN R se x t it elt ifs sc s) | _ => none) = some (P, o) → wpAny c.M p.A (exec (.Assign [.Name x px] e pos) env) Q E sh) (fun _ _ => nn) (fun _ _ _ => nn) (fun _ _ _ => nn) (fun _ _ _ => nn) (fun _ _ _ _ => nn)
        (fun elt gs sc q h => gX.r (G := fun gs => wpAny c.M p.A (exec (.Assign [.Name x px] (.ListComp elt gs sc q) pos) env) Q E sh) h fun t it ifs h => key elt t it ifs sc q h) (fun _ _ _ => nn) (fun _ => nn) e h
theorem st_tup (S : Snd c R) {se : SE} {ts : List Expr} {k : Nat} {q pos : Pos} {e : Expr} {s : P465.S} : Rt c se (asgT R se ts e s) s.σ (exec (.Assign [.Tuple ts k q] e pos)) FwR := by
  intro P o h hp p env W sh A V I Q E z
  unfold asgT at h
  cases ht : isTu e with
  | true => rw [ht] at h; exact eTu.r (G := fun e => wpAny c.M p.A (exec (.Assign [.Tuple ts k q] e pos) env) Q E sh) h fun vs k' q' h => uO.r h fun xy h hs => snd_assignSwap S hs _ _ h hp p env W sh A V I Q E z
  | false => rw [ht] at h; exact uN.r h fun h hc => snd_assignTuple S hc ht _ _ h hp p env W sh A V I Q E z
theorem st_asg (O : TOk c T mg mb) (S : Snd c R) (se : SE) (ts : List Expr) (e : Expr) (pos : Pos) (s : P465.S) : Rt c se (evSt T R se (.Assign ts e pos) s) s.σ (exec (.Assign ts e pos)) FwR := by
  intro P o h hp p env W sh A V I Q E z
  refine nC.r (G := fun ts => wpAny c.M p.A (exec (.Assign ts e pos) env) Q E sh) h fun t ts h => n0.r (G := fun ts => wpAny c.M p.A (exec (.Assign (t :: ts) e pos) env) Q E sh) h fun h => ?_
  cases t with
  | Name x px => exact st_name O S _ _ h hp p env W sh A V I Q E z
  | Attribute o x p => exact snd_assignAttr (T := T) S O.K O.fd _ _ h hp _ env W sh A V I Q E z
  | Subscript o i p => exact snd_assignSub (T := T) S _ _ h hp _ env W sh A V I Q E z
  | Tuple ts k q => exact st_tup S _ _ h hp p env W sh A V I Q E z
  | _ => exact nn h
theorem st_raise (O : TOk c T mg mb) (S : Snd c R) (se : SE) (e u : Option Expr) (pos : Pos) (s : P465.S) : Rt c se (evSt T R se (.Raise e u pos) s) s.σ (exec (.Raise e u pos)) FwR := by
  intro P o h hp p env W sh A V I Q E z
  exact oN.r (G := fun u => wpAny c.M p.A (exec (.Raise e u pos) env) Q E sh) h fun h => oS.r (G := fun e => wpAny c.M p.A (exec (.Raise e none pos) env) Q E sh) h fun e h => eCa.r (G := fun e => wpAny c.M p.A (exec (.Raise (some e) none pos) env) Q E sh) h fun f l w q h =>
    n0.r (G := fun w => wpAny c.M p.A (exec (.Raise (some (.Call f l w q)) none pos) env) Q E sh) h fun h => eNm.r (G := fun f => wpAny c.M p.A (exec (.Raise (some (.Call f l [] q)) none pos) env) Q E sh) h fun x px h => nC.r (G := fun l => wpAny c.M p.A (exec (.Raise (some (.Call _ l [] q)) none pos) env) Q E sh) h fun a l h =>
    nC.r (G := fun l => wpAny c.M p.A (exec (.Raise (some (.Call _ (a :: l) [] q)) none pos) env) Q E sh) h fun b l h => n0.r (G := fun l => wpAny c.M p.A (exec (.Raise (some (.Call _ (a :: b :: l) [] q)) none pos) env) Q E sh) h fun h => snd_raise S O.g O.K O.lim O.x _ _ h hp p env W sh A V I Q E z
theorem eRt.r {γ : Type} {g : γ} {e : Expr} {k : Str → Str → Str → Bool → Option γ} {G : Expr → Prop} (h : eRt e k = some g) (H : ∀ a n' f b k1 k2 k3 p2 p3 p4 p5 p6, k a n' f b = some g → G (.Tuple [.Constant (.str a) k1 p2, .Attribute (.Name n' p3) f p4, .Constant (.bool b) k2 p5] k3 p6)) : G e :=
  eTu.r h fun l k3 p6 h => nC.r (G := fun l => G (.Tuple l k3 p6)) h fun e1 l h => nC.r (G := fun l => G (.Tuple (e1 :: l) k3 p6)) h fun e2 l h => nC.r (G := fun l => G (.Tuple (e1 :: e2 :: l) k3 p6)) h fun e3 l h => n0.r (G := fun l => G (.Tuple (e1 :: e2 :: e3 :: l) k3 p6)) h fun h =>
    eCs.r (G := fun e1 => G (.Tuple [e1, e2, e3] k3 p6)) h fun c1 k1 p2 h => cS.r (H := fun c1 => G (.Tuple [.Constant c1 k1 p2, e2, e3] k3 p6)) h fun a h => eAt.r (G := fun e2 => G (.Tuple [_, e2, e3] k3 p6)) h fun o f p4 h => eNm.r (G := fun o => G (.Tuple [_, .Attribute o f p4, e3] k3 p6)) h fun n' p3 h =>
    eCs.r (G := fun e3 => G (.Tuple [_, _, e3] k3 p6)) h fun c2 k2 p5 h => cB.r (H := fun c2 => G (.Tuple [_, _, .Constant c2 k2 p5] k3 p6)) h fun b h => H a n' f b k1 k2 k3 p2 p3 p4 p5 p6 h
theorem sRe.r {γ : Type} {g : γ} {st : Stmt} {k : Expr → Option γ} {G : Stmt → Prop} (h : sRe st k = some g) (H : ∀ e p, k e = some g → G (.Return (some e) p)) : G st := by
  cases st with
  | Return e p => exact oS.r (G := fun e => G (.Return e p)) h fun e h => H e p h
  | _ => exact nn h
theorem hX.r {γ : Type} {g : γ} {hs : List ExceptHandler} {k : Str → Str → Stmt → Option γ} {G : List ExceptHandler → Prop} (h : hX hs k = some g) (H : ∀ x n st p q, k x n st = some g → G [.ExceptHandler (some (.Name x p)) (some n) [st] q]) : G hs :=
  nC.r h fun a hs h => n0.r (G := fun hs => G (a :: hs)) h fun h => by
    obtain ⟨ty, nm, bd, q⟩ := a
    exact oS.r (G := fun ty => G [.ExceptHandler ty nm bd q]) h fun ty h => eNm.r (G := fun ty => G [.ExceptHandler (some ty) nm bd q]) h fun x p h => oS.r (G := fun nm => G [.ExceptHandler _ nm bd q]) h fun n h => nC.r (G := fun bd => G [.ExceptHandler _ _ bd q]) h fun st bd h => n0.r (G := fun bd => G [.ExceptHandler _ _ (st :: bd) q]) h fun h => H x n st p q h
theorem st_try (O : TOk c T mg mb) (S : Snd c R) (se : SE) (b : List Stmt) (hs : List ExceptHandler) (u v : List Stmt) (pos : Pos) (s : P465.S) : Rt c se (evSt T R se (.Try b hs u v pos) s) s.σ (exec (.Try b hs u v pos)) FwR := by
  intro P o h hp p env W sh A V I Q E z
  exact n0.r (G := fun u => wpAny c.M p.A (exec (.Try b hs u v pos) env) Q E sh) h fun h => n0.r (G := fun v => wpAny c.M p.A (exec (.Try b hs [] v pos) env) Q E sh) h fun h => hX.r (G := fun hs => wpAny c.M p.A (exec (.Try b hs [] [] pos) env) Q E sh) h fun x n st p1 p8 h =>
    sRe.r (G := fun st => wpAny c.M p.A (exec (.Try b [.ExceptHandler _ _ [st] p8] [] [] pos) env) Q E sh) h fun e p7 h => eRt.r (G := fun e => wpAny c.M p.A (exec (.Try b [.ExceptHandler _ _ [.Return (some e) p7] p8] [] [] pos) env) Q E sh) h fun a n' f bb k1 k2 k3 p2 p3 p4 p5 p6 h => snd_try S O.g O.K O.x _ _ h hp p env W sh A V I Q E z
theorem snd_st (O : TOk c T mg mb) (S : Snd c R) (se : SE) (st : Stmt) (s : P465.S) : Rt c se (evSt T R se st s) s.σ (exec st) FwR := by
  cases st with
  | Expr e pos => exact snd_expr (T := T) S
  | Return e pos => exact snd_return (T := T) S
  | Assign ts e pos => exact st_asg O S se ts e pos s
  | If t a b pos => exact snd_if (T := T) S
  | While t body els pos =>
    intro P o h hp p env W sh A V I Q E z
    refine n0.r (G := fun els => wpAny c.M p.A (exec (.While t body els pos) env) Q E sh) h fun h => ?_
    cases hl : T.stl pos.line with
    | true => rw [hl] at h; exact snd_byS O _ _ h hp p env W sh A V I Q E z
    | false => rw [hl] at h; exact snd_while S _ _ h hp p env W sh A V I Q E z
  | For tg it body els pos =>
    intro P o h hp p env W sh A V I Q E z
    refine n0.r (G := fun els => wpAny c.M p.A (exec (.For tg it body els pos) env) Q E sh) h fun h => eNm.r (G := fun tg => wpAny c.M p.A (exec (.For tg it body [] pos) env) Q E sh) h fun x px h => ?_
    cases hl : T.stl pos.line with
    | true => rw [hl] at h; exact snd_byS O _ _ h hp p env W sh A V I Q E z
    | false => rw [hl] at h; exact snd_for S _ _ h hp p env W sh A V I Q E z
  | Raise e u pos => exact st_raise O S se e u pos s
  | Try b hs u v pos => exact st_try O S se b hs u v pos s
  | _ => exact fun P o h => nn h
theorem snd_step (O : TOk c T mg mb) (S : Snd c R) : Snd c (step T R) where
  e := snd_e O S
  es se l s hl pos := snd_es S hl pos
  t := snd_tt O S
  bo se op l s pos := snd_bo S
  ta se op l s := snd_ta S
  ss se l s := snd_ss S fun st s => snd_st O S se st s
  ap := snd_ap O S
  wh se t body s := snd_wh S
  fo se x l body s pos := snd_fo S
  cm se t elt ifs l s it sc pos := snd_cm S
theorem snd_rec0 : Snd c rec0 where
  e _ _ _ := fun _ _ h => by cases h
  es _ _ _ _ _ := fun _ _ h => by cases h
  t _ _ _ := fun _ _ h => by cases h
  bo _ _ _ _ _ := fun _ _ h => by cases h
  ta _ _ _ _ := fun _ _ h => by cases h
  ss _ _ _ := fun _ _ h => by cases h
  ap _ _ _ _ := fun _ _ h => by cases h
  wh _ _ _ _ := fun _ _ h => by cases h
  fo _ _ _ _ _ _ := fun _ _ h => by cases h
  cm _ _ _ _ _ _ _ _ _ := fun _ _ h => by cases h
theorem snd_run (O : TOk c T mg mb) : ∀ n, Snd c (run T n)
  | 0 => snd_rec0
  | n + 1 => snd_step O (snd_run O n)
end
inductive Tr (α : Type) where
  | lf | nd (l : Tr α) (k : Nat) (v : α) (r : Tr α)
noncomputable def Tr.get {α : Type} : Tr α → Nat → Option α
  | .lf, _ => none
  | .nd l k v r, x => bif Nat.beq x k then some v else bif Nat.blt x k then l.get x else r.get x
noncomputable def fiOf (s : Stmt) (df : List Dat) : FI := ⟨(fArgs s).args.map (·.arg), df, fBody s, (fScope s).names⟩
noncomputable def tF : Tr FI := (.nd (.nd (.nd (.nd (.nd (.nd (.nd .lf 28 (fiOf (stAt 2) []) .lf) 80 (fiOf (subAt 6 0) []) .lf) 87 (fiOf (subAt 6 1) []) (.nd (.nd .lf 106 (fiOf (subAt 7 0) []) .lf) 113 (fiOf (subAt 7 1) []) .lf)) 184 (fiOf (subAt 10 0) []) (.nd (.nd (.nd .lf 191 (fiOf (subAt 10 1) []) .lf) 494 (fiOf (subAt 22 0) []) .lf) 501 (fiOf (subAt 22 1) []) (.nd (.nd .lf 520 (fiOf (subAt 23 0) []) .lf) 525 (fiOf (subAt 23 1) []) .lf))) 544 (fiOf (subAt 24 0) []) (.nd (.nd (.nd (.nd .lf 551 (fiOf (subAt 24 1) []) .lf) 602 (fiOf (subAt 28 0) []) .lf) 616 (fiOf (stAt 43) []) (.nd (.nd .lf 623 (fiOf (stAt 44) []) .lf) 630 (fiOf (stAt 45) []) .lf)) 644 (fiOf (subAt 46 0) []) (.nd (.nd (.nd .lf 651 (fiOf (subAt 46 1) []) .lf) 658 (fiOf (subAt 46 2) []) .lf) 665 (fiOf (subAt 46 3) []) (.nd .lf 700 (fiOf (subAt 47 0) []) .lf)))) 707 (fiOf (subAt 47 1) []) (.nd (.nd (.nd (.nd (.nd .lf 714 (fiOf (subAt 47 2) []) .lf) 721 (fiOf (subAt 47 3) []) .lf) 728 (fiOf (subAt 47 4) []) (.nd (.nd .lf 735 (fiOf (subAt 47 5) []) .lf) 742 (fiOf (subAt 47 6) []) .lf)) 749 (fiOf (subAt 47 7) []) (.nd (.nd (.nd .lf 756 (fiOf (subAt 47 8) []) .lf) 763 (fiOf (subAt 47 9) []) .lf) 770 (fiOf (subAt 47 10) []) (.nd (.nd .lf 777 (fiOf (subAt 47 11) []) .lf) 798 (fiOf (stAt 48) []) .lf))) 806 (fiOf (stAt 51) []) (.nd (.nd (.nd (.nd .lf 813 (fiOf (stAt 52) []) .lf) 818 (fiOf (stAt 53) []) .lf) 825 (fiOf (stAt 54) []) (.nd (.nd .lf 846 (fiOf (subAt 57 0) []) .lf) 853 (fiOf (subAt 57 1) []) .lf)) 860 (fiOf (subAt 57 2) []) (.nd (.nd (.nd .lf 867 (fiOf (subAt 57 3) []) .lf) 874 (fiOf (subAt 57 4) []) .lf) 879 (fiOf (subAt 57 5) []) (.nd .lf 907 (fiOf (stAt 61) []) .lf))))) 925 (fiOf (subAt 71 0) []) (.nd (.nd (.nd (.nd (.nd (.nd .lf 933 (fiOf (subAt 71 1) [.int false 1]) .lf) 940 (fiOf (subAt 71 2) []) .lf) 947 (fiOf (subAt 71 3) []) (.nd (.nd .lf 982 (fiOf (subAt 71 8) []) .lf) 989 (fiOf (subAt 71 9) []) .lf)) 1024 (fiOf (subAt 71 14) []) (.nd (.nd (.nd .lf 1045 (fiOf (stAt 76) []) .lf) 1059 (fiOf (subAt 77 0) []) .lf) 1067 (fiOf (subAt 77 1) [.int false 1]) (.nd (.nd .lf 1079 (fiOf (subAt 77 3) []) .lf) 1122 (fiOf (subAt 80 0) []) .lf))) 1129 (fiOf (subAt 80 1) []) (.nd (.nd (.nd (.nd .lf 1136 (fiOf (subAt 80 2) []) .lf) 1143 (fiOf (subAt 80 3) []) .lf) 1150 (fiOf (subAt 80 4) []) (.nd (.nd .lf 1157 (fiOf (subAt 80 5) []) .lf) 1178 (fiOf (subAt 83 0) []) .lf)) 1185 (fiOf (subAt 83 1) []) (.nd (.nd (.nd .lf 1192 (fiOf (subAt 83 2) []) .lf) 1199 (fiOf (subAt 83 3) []) .lf) 1206 (fiOf (subAt 83 4) []) (.nd .lf 1213 (fiOf (subAt 83 5) []) .lf)))) 1220 (fiOf (subAt 83 6) []) (.nd (.nd (.nd (.nd (.nd .lf 1227 (fiOf (subAt 83 7) []) .lf) 1234 (fiOf (subAt 83 8) []) .lf) 1241 (fiOf (subAt 83 9) []) (.nd (.nd .lf 1248 (fiOf (subAt 83 10) []) .lf) 1255 (fiOf (subAt 83 11) []) .lf)) 1262 (fiOf (subAt 83 12) []) (.nd (.nd (.nd .lf 1269 (fiOf (subAt 83 13) []) .lf) 1276 (fiOf (subAt 83 14) []) .lf) 1283 (fiOf (subAt 83 15) []) (.nd (.nd .lf 1290 (fiOf (subAt 83 16) []) .lf) 1304 (fiOf (stAt 85) []) .lf))) 1311 (fiOf (stAt 86) []) (.nd (.nd (.nd (.nd .lf 1318 (fiOf (stAt 87) []) .lf) 1325 (fiOf (stAt 88) []) .lf) 1332 (fiOf (stAt 89) []) (.nd (.nd .lf 1339 (fiOf (stAt 90) []) .lf) 1346 (fiOf (stAt 91) []) .lf)) 1351 (fiOf (stAt 92) []) (.nd (.nd (.nd .lf 1358 (fiOf (stAt 93) []) .lf) 1365 (fiOf (stAt 94) []) .lf) 1372 (fiOf (stAt 95) []) (.nd .lf 1377 (fiOf (stAt 96) []) .lf))))))
noncomputable def tC : Tr CI := (.nd (.nd (.nd (.nd .lf 90 ⟨80, true⟩ .lf) 116 ⟨106, true⟩ (.nd .lf 194 ⟨184, true⟩ .lf)) 504 ⟨494, true⟩ (.nd (.nd .lf 528 ⟨520, true⟩ .lf) 554 ⟨544, true⟩ .lf)) 682 ⟨644, true⟩ (.nd (.nd (.nd .lf 787 ⟨700, false⟩ .lf) 882 ⟨846, true⟩ (.nd .lf 1034 ⟨925, false⟩ .lf)) 1103 ⟨1059, true⟩ (.nd (.nd .lf 1160 ⟨1122, false⟩ .lf) 1293 ⟨1178, false⟩ .lf)))
noncomputable def tM : Tr (List (Str × Addr)) := (.nd (.nd (.nd (.nd (.nd .lf 90 [(⟨#[114, 111, 119]⟩, 87)] .lf) 116 [(⟨#[114, 111, 119]⟩, 113)] .lf) 142 [] (.nd (.nd .lf 168 [] .lf) 194 [(⟨#[114, 111, 119]⟩, 191)] .lf)) 220 [] (.nd (.nd (.nd .lf 246 [] .lf) 272 [] .lf) 298 [] (.nd (.nd .lf 426 [] .lf) 452 [] .lf))) 478 [] (.nd (.nd (.nd (.nd .lf 504 [(⟨#[114, 111, 119]⟩, 501)] .lf) 528 [(⟨#[114, 111, 119]⟩, 525)] .lf) 554 [(⟨#[114, 111, 119]⟩, 551)] (.nd (.nd .lf 682 [(⟨#[105, 115, 95, 115, 105, 103, 110]⟩, 651), (⟨#[105, 115, 95, 107, 101, 121]⟩, 658), (⟨#[105, 115, 95, 102, 114, 101, 101]⟩, 665)] .lf) 787 [(⟨#[103, 97, 116, 104, 101, 114]⟩, 707), (⟨#[114, 101, 102, 117, 115, 101]⟩, 714), (⟨#[114, 117, 110]⟩, 721), (⟨#[101, 110, 100, 95, 111, 102]⟩, 728), (⟨#[98, 97, 114, 101]⟩, 735), (⟨#[99, 108, 111, 115, 105, 110, 103]⟩, 742), (⟨#[113, 117, 111, 116, 101, 100, 95, 119, 111, 114, 100]⟩, 749), (⟨#[98, 108, 111, 98]⟩, 756), (⟨#[110, 117, 109, 98, 101, 114]⟩, 763), (⟨#[118, 97, 108, 117, 101, 95, 111, 102]⟩, 770), (⟨#[109, 97, 114, 107]⟩, 777)] .lf)) 882 [(⟨#[119, 114, 105, 116, 101]⟩, 853), (⟨#[119, 104, 101, 114, 101]⟩, 860), (⟨#[99, 111, 110, 102, 108, 105, 99, 116]⟩, 867), (⟨#[105, 110, 115, 101, 114, 116]⟩, 874), (⟨#[117, 112, 100, 97, 116, 101]⟩, 879)] (.nd (.nd (.nd .lf 1034 [(⟨#[101, 120, 112, 114, 101, 115, 115, 105, 111, 110]⟩, 933), (⟨#[108, 101, 118, 101, 108]⟩, 940), (⟨#[111, 112, 101, 114, 97, 116, 101, 100]⟩, 947), (⟨#[112, 114, 101, 102, 105, 120]⟩, 982), (⟨#[112, 114, 105, 109, 97, 114, 121]⟩, 989), (⟨#[110, 97, 109, 101, 100]⟩, 1024)] .lf) 1103 [(⟨#[119, 114, 105, 116, 101]⟩, 1067), (⟨#[102, 114, 101, 101]⟩, 1079)] .lf) 1160 [(⟨#[99, 111, 110, 102, 108, 105, 99, 116]⟩, 1129), (⟨#[105, 110, 115, 101, 114, 116]⟩, 1136), (⟨#[117, 112, 100, 97, 116, 101]⟩, 1143), (⟨#[97, 115, 115, 105, 103, 110, 109, 101, 110, 116]⟩, 1150), (⟨#[100, 101, 108, 101, 116, 101]⟩, 1157)] (.nd .lf 1293 [(⟨#[104, 101, 114, 101]⟩, 1185), (⟨#[97, 104, 101, 97, 100]⟩, 1192), (⟨#[103, 111]⟩, 1199), (⟨#[114, 101, 102, 117, 115, 101]⟩, 1206), (⟨#[105, 115, 95, 111, 118, 101, 114]⟩, 1213), (⟨#[105, 115, 95, 107, 101, 121]⟩, 1220), (⟨#[105, 115, 95, 115, 105, 103, 110]⟩, 1227), (⟨#[105, 115, 95, 111, 110, 101, 95, 111, 102]⟩, 1234), (⟨#[105, 115, 95, 115, 101, 108, 101, 99, 116]⟩, 1241), (⟨#[116, 97, 107, 101, 95, 107, 101, 121]⟩, 1248), (⟨#[116, 97, 107, 101, 95, 115, 105, 103, 110]⟩, 1255), (⟨#[110, 101, 101, 100, 95, 107, 101, 121]⟩, 1262), (⟨#[110, 101, 101, 100, 95, 115, 105, 103, 110]⟩, 1269), (⟨#[110, 101, 101, 100, 95, 110, 97, 109, 101]⟩, 1276), (⟨#[100, 101, 101, 112, 101, 114]⟩, 1283), (⟨#[104, 105, 103, 104, 101, 114]⟩, 1290)] .lf))))
noncomputable def tA : Tr (List (Str × Unit)) := (.nd (.nd (.nd (.nd (.nd .lf 90 [(⟨#[118, 97, 108, 117, 101]⟩, ())] .lf) 116 [(⟨#[116, 97, 98, 108, 101]⟩, ()), (⟨#[99, 111, 108, 117, 109, 110]⟩, ()), (⟨#[115, 111, 117, 114, 99, 101]⟩, ()), (⟨#[112, 108, 97, 99, 101]⟩, ()), (⟨#[100, 101, 112, 116, 104]⟩, ())] .lf) 142 [(⟨#[110, 117, 109, 98, 101, 114]⟩, ())] (.nd (.nd .lf 168 [(⟨#[111, 112]⟩, ()), (⟨#[111, 112, 101, 114, 97, 110, 100]⟩, ())] .lf) 194 [(⟨#[111, 112]⟩, ()), (⟨#[108, 101, 102, 116]⟩, ()), (⟨#[114, 105, 103, 104, 116]⟩, ())] .lf)) 220 [(⟨#[118, 97, 108, 117, 101]⟩, ()), (⟨#[108, 111, 119]⟩, ()), (⟨#[104, 105, 103, 104]⟩, ()), (⟨#[110, 101, 103, 97, 116, 101, 100]⟩, ())] (.nd (.nd (.nd .lf 246 [(⟨#[118, 97, 108, 117, 101]⟩, ()), (⟨#[105, 116, 101, 109, 115]⟩, ()), (⟨#[110, 101, 103, 97, 116, 101, 100]⟩, ())] .lf) 272 [(⟨#[118, 97, 108, 117, 101]⟩, ()), (⟨#[115, 101, 108, 101, 99, 116]⟩, ()), (⟨#[110, 101, 103, 97, 116, 101, 100]⟩, ())] .lf) 298 [(⟨#[115, 101, 108, 101, 99, 116]⟩, ()), (⟨#[110, 101, 103, 97, 116, 101, 100]⟩, ())] (.nd (.nd .lf 426 [(⟨#[118, 97, 108, 117, 101]⟩, ()), (⟨#[99, 111, 108, 108, 97, 116, 105, 111, 110]⟩, ())] .lf) 452 [(⟨#[118, 97, 108, 117, 101]⟩, ()), (⟨#[110, 101, 103, 97, 116, 101, 100]⟩, ())] .lf))) 478 [(⟨#[119, 111, 114, 100]⟩, ()), (⟨#[118, 97, 108, 117, 101]⟩, ()), (⟨#[112, 97, 116, 116, 101, 114, 110]⟩, ()), (⟨#[101, 115, 99, 97, 112, 101]⟩, ()), (⟨#[110, 101, 103, 97, 116, 101, 100]⟩, ())] (.nd (.nd (.nd (.nd .lf 504 [(⟨#[116, 97, 98, 108, 101]⟩, ()), (⟨#[99, 111, 108, 117, 109, 110, 115]⟩, ()), (⟨#[115, 101, 108, 101, 99, 116]⟩, ()), (⟨#[99, 111, 110, 102, 108, 105, 99, 116]⟩, ())] .lf) 528 [(⟨#[116, 97, 98, 108, 101]⟩, ()), (⟨#[115, 101, 116, 115]⟩, ()), (⟨#[119, 104, 101, 114, 101]⟩, ()), (⟨#[99, 111, 110, 102, 108, 105, 99, 116]⟩, ())] .lf) 554 [(⟨#[116, 97, 98, 108, 101]⟩, ()), (⟨#[119, 104, 101, 114, 101]⟩, ())] (.nd (.nd .lf 682 [(⟨#[107, 105, 110, 100]⟩, ()), (⟨#[116, 101, 120, 116]⟩, ()), (⟨#[118, 97, 108, 117, 101]⟩, ()), (⟨#[112, 108, 97, 99, 101]⟩, ())] .lf) 787 [(⟨#[116, 101, 120, 116]⟩, ()), (⟨#[112, 108, 97, 99, 101]⟩, ()), (⟨#[102, 111, 117, 110, 100]⟩, ()), (⟨#[103, 114, 101, 97, 116, 101, 115, 116]⟩, ())] .lf)) 882 [(⟨#[101, 120, 112, 114, 101, 115, 115, 105, 111, 110, 115]⟩, ()), (⟨#[115, 101, 108, 101, 99, 116, 115]⟩, ())] (.nd (.nd (.nd .lf 1034 [(⟨#[115, 116, 114, 101, 97, 109]⟩, ()), (⟨#[115, 101, 108, 101, 99, 116, 115]⟩, ())] .lf) 1103 [(⟨#[115, 101, 108, 101, 99, 116, 115]⟩, ())] .lf) 1160 [(⟨#[115, 116, 114, 101, 97, 109]⟩, ()), (⟨#[101, 120, 112, 114, 101, 115, 115, 105, 111, 110, 115]⟩, ()), (⟨#[115, 101, 108, 101, 99, 116, 115]⟩, ())] (.nd .lf 1293 [(⟨#[116, 101, 120, 116]⟩, ()), (⟨#[119, 111, 114, 100, 115]⟩, ()), (⟨#[97, 116]⟩, ()), (⟨#[100, 101, 112, 116, 104]⟩, ())] .lf))))
noncomputable def tD : Tr (List (Str × Dat)) := (.nd (.nd .lf 609 [(⟨#[61, 61]⟩, .str false ⟨#[61]⟩), (⟨#[33, 61]⟩, .str false ⟨#[60, 62]⟩)] .lf) 908 [(⟨#[61]⟩, .int false 4), (⟨#[60, 62]⟩, .int false 4), (⟨#[60]⟩, .int false 5), (⟨#[60, 61]⟩, .int false 5), (⟨#[62]⟩, .int false 5), (⟨#[62, 61]⟩, .int false 5), (⟨#[38]⟩, .int false 6), (⟨#[124]⟩, .int false 6), (⟨#[60, 60]⟩, .int false 6), (⟨#[62, 62]⟩, .int false 6), (⟨#[43]⟩, .int false 7), (⟨#[45]⟩, .int false 7), (⟨#[42]⟩, .int false 8), (⟨#[47]⟩, .int false 8), (⟨#[37]⟩, .int false 8), (⟨#[124, 124]⟩, .int false 9)] (.nd .lf 909 [(⟨#[79, 82]⟩, .int false 1), (⟨#[65, 78, 68]⟩, .int false 2), (⟨#[73, 83]⟩, .int false 4), (⟨#[73, 78]⟩, .int false 4), (⟨#[76, 73, 75, 69]⟩, .int false 4), (⟨#[71, 76, 79, 66]⟩, .int false 4), (⟨#[66, 69, 84, 87, 69, 69, 78]⟩, .int false 4), (⟨#[73, 83, 78, 85, 76, 76]⟩, .int false 4), (⟨#[78, 79, 84, 78, 85, 76, 76]⟩, .int false 4), (⟨#[78, 79, 84]⟩, .int false 4), (⟨#[67, 79, 76, 76, 65, 84, 69]⟩, .int false 10)] .lf))
noncomputable def tG : Tr (List (Str × Dat)) := (.nd (.nd (.nd (.nd .lf 3 [(⟨#[108, 101, 110]⟩, .top (.builtin "len")), (⟨#[109, 97, 120]⟩, .top (.builtin "max")), (⟨#[109, 105, 110]⟩, .top (.builtin "min")), (⟨#[111, 114, 100]⟩, .top (.builtin "ord")), (⟨#[105, 110, 116]⟩, .top (.type "int")), (⟨#[115, 116, 114]⟩, .top (.type "str"))] .lf) 4 [(⟨#[78, 97, 109, 101]⟩, .top (.ref 116)), (⟨#[67, 97, 115, 101]⟩, .top (.ref 348)), (⟨#[67, 97, 108, 108]⟩, .top (.ref 374)), (⟨#[67, 97, 115, 116]⟩, .top (.ref 400)), (⟨#[87, 111, 114, 100]⟩, .top (.ref 682))] (.nd .lf 5 [(⟨#[85, 110, 97, 114, 121]⟩, .top (.ref 168)), (⟨#[77, 97, 116, 99, 104]⟩, .top (.ref 478)), (⟨#[114, 97, 110, 103, 101]⟩, .top (.type "range")), (⟨#[116, 117, 112, 108, 101]⟩, .top (.type "tuple")), (⟨#[98, 121, 116, 101, 115]⟩, .top (.type "bytes"))] .lf)) 6 [(⟨#[114, 111, 119, 95, 111, 102]⟩, .top (.ref 28)), (⟨#[66, 105, 110, 97, 114, 121]⟩, .top (.ref 194)), (⟨#[73, 110, 76, 105, 115, 116]⟩, .top (.ref 246)), (⟨#[69, 120, 105, 115, 116, 115]⟩, .top (.ref 298)), (⟨#[83, 99, 97, 108, 97, 114]⟩, .top (.ref 324)), (⟨#[73, 115, 78, 117, 108, 108]⟩, .top (.ref 452)), (⟨#[73, 110, 115, 101, 114, 116]⟩, .top (.ref 504)), (⟨#[85, 112, 100, 97, 116, 101]⟩, .top (.ref 528)), (⟨#[68, 101, 108, 101, 116, 101]⟩, .top (.ref 554)), (⟨#[81, 85, 79, 84, 69, 83]⟩, .str false ⟨#[39, 34, 96, 91]⟩), (⟨#[66, 76, 65, 78, 75, 83]⟩, .str false ⟨#[32, 9, 10, 13, 12]⟩), (⟨#[102, 111, 108, 100, 101, 100]⟩, .top (.ref 616)), (⟨#[76, 79, 87, 69, 83, 84]⟩, .int false 1)] (.nd (.nd .lf 7 [(⟨#[114, 111, 119, 115, 95, 111, 102]⟩, .top (.ref 33)), (⟨#[76, 105, 116, 101, 114, 97, 108]⟩, .top (.ref 90)), (⟨#[66, 101, 116, 119, 101, 101, 110]⟩, .top (.ref 220)), (⟨#[67, 111, 108, 108, 97, 116, 101]⟩, .top (.ref 426)), (⟨#[70, 73, 71, 85, 82, 69, 83]⟩, .str false ⟨#[48, 49, 50, 51, 52, 53, 54, 55, 56, 57]⟩), (⟨#[76, 69, 84, 84, 69, 82, 83]⟩, .str false ⟨#[97, 98, 99, 100, 101, 102, 103, 104, 105, 106, 107, 108, 109, 110, 111, 112, 113, 114, 115, 116, 117, 118, 119, 120, 121, 122, 65, 66, 67, 68, 69, 70, 71, 72, 73, 74, 75, 76, 77, 78, 79, 80, 81, 82, 83, 84, 85, 86, 87, 88, 89, 90, 95]⟩), (⟨#[74, 79, 73, 78, 73, 78, 71]⟩, .tup [.str false ⟨#[67, 82, 79, 83, 83]⟩, .str false ⟨#[70, 85, 76, 76]⟩, .str false ⟨#[73, 78, 68, 69, 88, 69, 68]⟩, .str false ⟨#[73, 78, 78, 69, 82]⟩, .str false ⟨#[76, 69, 70, 84]⟩, .str false ⟨#[78, 65, 84, 85, 82, 65, 76]⟩, .str false ⟨#[79, 85, 84, 69, 82]⟩, .str false ⟨#[82, 73, 71, 72, 84]⟩]), (⟨#[83, 99, 97, 110, 110, 101, 114]⟩, .top (.ref 787)), (⟨#[105, 115, 95, 98, 97, 114, 101]⟩, .top (.ref 806))] .lf) 8 [(⟨#[86, 97, 114, 105, 97, 98, 108, 101]⟩, .top (.ref 142)), (⟨#[73, 110, 83, 101, 108, 101, 99, 116]⟩, .top (.ref 272)), (⟨#[71, 82, 69, 65, 84, 69, 83, 84]⟩, .int false 9223372036854775808), (⟨#[82, 69, 83, 69, 82, 86, 69, 68]⟩, .tup [.str false ⟨#[65, 68, 68]⟩, .str false ⟨#[65, 76, 76]⟩, .str false ⟨#[65, 76, 84, 69, 82]⟩, .str false ⟨#[65, 78, 68]⟩, .str false ⟨#[65, 83]⟩, .str false ⟨#[65, 85, 84, 79, 73, 78, 67, 82, 69, 77, 69, 78, 84]⟩, .str false ⟨#[66, 69, 84, 87, 69, 69, 78]⟩, .str false ⟨#[67, 65, 83, 69]⟩, .str false ⟨#[67, 72, 69, 67, 75]⟩, .str false ⟨#[67, 79, 76, 76, 65, 84, 69]⟩, .str false ⟨#[67, 79, 77, 77, 73, 84]⟩, .str false ⟨#[67, 79, 78, 83, 84, 82, 65, 73, 78, 84]⟩, .str false ⟨#[67, 82, 69, 65, 84, 69]⟩, .str false ⟨#[68, 69, 70, 65, 85, 76, 84]⟩, .str false ⟨#[68, 69, 70, 69, 82, 82, 65, 66, 76, 69]⟩, .str false ⟨#[68, 69, 76, 69, 84, 69]⟩, .str false ⟨#[68, 73, 83, 84, 73, 78, 67, 84]⟩, .str false ⟨#[68, 82, 79, 80]⟩, .str false ⟨#[69, 76, 83, 69]⟩, .str false ⟨#[69, 83, 67, 65, 80, 69]⟩, .str false ⟨#[69, 88, 67, 69, 80, 84]⟩, .str false ⟨#[69, 88, 73, 83, 84, 83]⟩, .str false ⟨#[70, 79, 82, 69, 73, 71, 78]⟩, .str false ⟨#[70, 82, 79, 77]⟩, .str false ⟨#[71, 82, 79, 85, 80]⟩, .str false ⟨#[72, 65, 86, 73, 78, 71]⟩, .str false ⟨#[73, 78]⟩, .str false ⟨#[73, 78, 68, 69, 88]⟩, .str false ⟨#[73, 78, 83, 69, 82, 84]⟩, .str false ⟨#[73, 78, 84, 69, 82, 83, 69, 67, 84]⟩, .str false ⟨#[73, 78, 84, 79]⟩, .str false ⟨#[73, 83]⟩, .str false ⟨#[73, 83, 78, 85, 76, 76]⟩, .str false ⟨#[74, 79, 73, 78]⟩, .str false ⟨#[76, 73, 77, 73, 84]⟩, .str false ⟨#[78, 79, 84]⟩, .str false ⟨#[78, 79, 84, 72, 73, 78, 71]⟩, .str false ⟨#[78, 79, 84, 78, 85, 76, 76]⟩, .str false ⟨#[78, 85, 76, 76]⟩, .str false ⟨#[79, 78]⟩, .str false ⟨#[79, 82]⟩, .str false ⟨#[79, 82, 68, 69, 82]⟩, .str false ⟨#[80, 82, 73, 77, 65, 82, 89]⟩, .str false ⟨#[82, 69, 70, 69, 82, 69, 78, 67, 69, 83]⟩, .str false ⟨#[82, 69, 84, 85, 82, 78, 73, 78, 71]⟩, .str false ⟨#[83, 69, 76, 69, 67, 84]⟩, .str false ⟨#[83, 69, 84]⟩, .str false ⟨#[84, 65, 66, 76, 69]⟩, .str false ⟨#[84, 72, 69, 78]⟩, .str false ⟨#[84, 79]⟩, .str false ⟨#[84, 82, 65, 78, 83, 65, 67, 84, 73, 79, 78]⟩, .str false ⟨#[85, 78, 73, 79, 78]⟩, .str false ⟨#[85, 78, 73, 81, 85, 69]⟩, .str false ⟨#[85, 80, 68, 65, 84, 69]⟩, .str false ⟨#[85, 83, 73, 78, 71]⟩, .str false ⟨#[86, 65, 76, 85, 69, 83]⟩, .str false ⟨#[87, 72, 69, 78]⟩, .str false ⟨#[87, 72, 69, 82, 69]⟩]), (⟨#[108, 101, 118, 101, 108, 95, 111, 102]⟩, .top (.ref 1045)), (⟨#[95, 108, 97, 119, 95, 111, 110, 101]⟩, .top (.ref 1318))] .lf)) 9 [(⟨#[114, 101, 97, 100, 95, 116, 121, 112, 101]⟩, .top (.ref 893)), (⟨#[114, 101, 97, 100, 95, 115, 105, 122, 101]⟩, .top (.ref 900)), (⟨#[78, 79, 84, 95, 76, 69, 86, 69, 76]⟩, .int false 3), (⟨#[67, 79, 78, 70, 76, 73, 67, 84, 83]⟩, .tup [.str false ⟨#[65, 66, 79, 82, 84]⟩, .str false ⟨#[82, 79, 76, 76, 66, 65, 67, 75]⟩, .str false ⟨#[70, 65, 73, 76]⟩, .str false ⟨#[73, 71, 78, 79, 82, 69]⟩, .str false ⟨#[82, 69, 80, 76, 65, 67, 69]⟩]), (⟨#[95, 108, 97, 119, 95, 112, 111, 111, 108]⟩, .top (.ref 1304)), (⟨#[95, 108, 97, 119, 95, 116, 97, 107, 101]⟩, .top (.ref 1311)), (⟨#[95, 108, 97, 119, 95, 110, 97, 109, 101]⟩, .top (.ref 1325)), (⟨#[95, 108, 97, 119, 95, 114, 101, 97, 100]⟩, .top (.ref 1372))] (.nd (.nd (.nd .lf 10 [(⟨#[80, 97, 114, 115, 101, 69, 114, 114, 111, 114]⟩, .top (.ref 605)), (⟨#[78, 65, 77, 69, 95, 83, 73, 71, 78, 83]⟩, .str false ⟨#[97, 98, 99, 100, 101, 102, 103, 104, 105, 106, 107, 108, 109, 110, 111, 112, 113, 114, 115, 116, 117, 118, 119, 120, 121, 122, 65, 66, 67, 68, 69, 70, 71, 72, 73, 74, 75, 76, 77, 78, 79, 80, 81, 82, 83, 84, 85, 86, 87, 88, 89, 90, 95, 48, 49, 50, 51, 52, 53, 54, 55, 56, 57, 36]⟩), (⟨#[76, 73, 75, 69, 95, 83, 73, 71, 78, 83]⟩, .top (.ref 609)), (⟨#[114, 101, 97, 100, 95, 119, 111, 114, 100, 115]⟩, .top (.ref 798)), (⟨#[119, 114, 105, 116, 101, 95, 110, 97, 109, 101]⟩, .top (.ref 813)), (⟨#[119, 114, 105, 116, 101, 95, 116, 121, 112, 101]⟩, .top (.ref 832)), (⟨#[114, 101, 97, 100, 95, 110, 97, 109, 101, 115]⟩, .top (.ref 907)), (⟨#[76, 69, 83, 83, 95, 76, 69, 86, 69, 76]⟩, .int false 5), (⟨#[75, 69, 89, 95, 76, 69, 86, 69, 76, 83]⟩, .top (.ref 909)), (⟨#[66, 69, 72, 73, 78, 68, 95, 78, 79, 84]⟩, .tup [.str false ⟨#[73, 78]⟩, .str false ⟨#[76, 73, 75, 69]⟩, .str false ⟨#[71, 76, 79, 66]⟩, .str false ⟨#[66, 69, 84, 87, 69, 69, 78]⟩, .str false ⟨#[78, 85, 76, 76]⟩]), (⟨#[77, 79, 83, 84, 95, 68, 69, 80, 84, 72]⟩, .int false 50), (⟨#[87, 111, 114, 100, 83, 116, 114, 101, 97, 109]⟩, .top (.ref 1293)), (⟨#[95, 108, 97, 119, 95, 118, 97, 108, 117, 101]⟩, .top (.ref 1332)), (⟨#[95, 108, 97, 119, 95, 119, 104, 101, 114, 101]⟩, .top (.ref 1339)), (⟨#[105, 115, 105, 110, 115, 116, 97, 110, 99, 101]⟩, .top (.builtin "isinstance"))] .lf) 11 [(⟨#[72, 69, 88, 95, 70, 73, 71, 85, 82, 69, 83]⟩, .str false ⟨#[48, 49, 50, 51, 52, 53, 54, 55, 56, 57, 97, 98, 99, 100, 101, 102, 65, 66, 67, 68, 69, 70]⟩), (⟨#[98, 101, 103, 105, 110, 115, 95, 110, 97, 109, 101]⟩, .top (.ref 623)), (⟨#[119, 114, 105, 116, 101, 95, 110, 97, 109, 101, 115]⟩, .top (.ref 818)), (⟨#[119, 114, 105, 116, 101, 95, 118, 97, 108, 117, 101]⟩, .top (.ref 825)), (⟨#[69, 81, 85, 65, 76, 95, 76, 69, 86, 69, 76]⟩, .int false 4), (⟨#[83, 73, 71, 78, 95, 76, 69, 86, 69, 76, 83]⟩, .top (.ref 908)), (⟨#[65, 72, 69, 65, 68, 95, 83, 73, 71, 78, 83]⟩, .tup [.str false ⟨#[45]⟩, .str false ⟨#[43]⟩, .str false ⟨#[126]⟩]), (⟨#[65, 72, 69, 65, 68, 95, 76, 69, 86, 69, 76]⟩, .int false 11), (⟨#[65, 76, 79, 78, 69, 95, 76, 69, 86, 69, 76]⟩, .int false 12), (⟨#[95, 108, 97, 119, 95, 105, 110, 115, 101, 114, 116]⟩, .top (.ref 1351)), (⟨#[95, 108, 97, 119, 95, 117, 112, 100, 97, 116, 101]⟩, .top (.ref 1358)), (⟨#[95, 108, 97, 119, 95, 100, 101, 108, 101, 116, 101]⟩, .top (.ref 1365))] .lf) 12 [(⟨#[83, 73, 71, 78, 83, 95, 79, 70, 95, 84, 87, 79]⟩, .tup [.str false ⟨#[60, 61]⟩, .str false ⟨#[62, 61]⟩, .str false ⟨#[60, 62]⟩, .str false ⟨#[33, 61]⟩, .str false ⟨#[61, 61]⟩, .str false ⟨#[124, 124]⟩, .str false ⟨#[60, 60]⟩, .str false ⟨#[62, 62]⟩]), (⟨#[83, 73, 71, 78, 83, 95, 79, 70, 95, 79, 78, 69]⟩, .str false ⟨#[40, 41, 44, 46, 59, 43, 45, 42, 47, 37, 61, 60, 62, 38, 124, 126]⟩), (⟨#[103, 111, 101, 115, 95, 111, 110, 95, 110, 97, 109, 101]⟩, .top (.ref 630)), (⟨#[67, 104, 97, 110, 103, 101, 87, 114, 105, 116, 101, 114]⟩, .top (.ref 882)), (⟨#[67, 104, 97, 110, 103, 101, 82, 101, 97, 100, 101, 114]⟩, .top (.ref 1160))] (.nd (.nd .lf 13 [(⟨#[77, 79, 83, 84, 95, 86, 65, 82, 73, 65, 66, 76, 69]⟩, .int false 999), (⟨#[81, 85, 79, 84, 69, 68, 95, 65, 76, 87, 65, 89, 83]⟩, .tup [.str false ⟨#[65, 66, 79, 82, 84]⟩, .str false ⟨#[65, 83, 67]⟩, .str false ⟨#[66, 69, 71, 73, 78]⟩, .str false ⟨#[66, 89]⟩, .str false ⟨#[67, 65, 83, 84]⟩, .str false ⟨#[68, 69, 70, 69, 82, 82, 69, 68]⟩, .str false ⟨#[68, 69, 83, 67]⟩, .str false ⟨#[69, 78, 68]⟩, .str false ⟨#[69, 88, 67, 76, 85, 83, 73, 86, 69]⟩, .str false ⟨#[69, 88, 80, 76, 65, 73, 78]⟩, .str false ⟨#[70, 65, 73, 76]⟩, .str false ⟨#[71, 76, 79, 66]⟩, .str false ⟨#[73, 70]⟩, .str false ⟨#[73, 71, 78, 79, 82, 69]⟩, .str false ⟨#[73, 77, 77, 69, 68, 73, 65, 84, 69]⟩, .str false ⟨#[75, 69, 89]⟩, .str false ⟨#[76, 73, 75, 69]⟩, .str false ⟨#[79, 70, 70, 83, 69, 84]⟩, .str false ⟨#[80, 82, 65, 71, 77, 65]⟩, .str false ⟨#[82, 69, 76, 69, 65, 83, 69]⟩, .str false ⟨#[82, 69, 80, 76, 65, 67, 69]⟩, .str false ⟨#[82, 79, 76, 76, 66, 65, 67, 75]⟩, .str false ⟨#[83, 65, 86, 69, 80, 79, 73, 78, 84]⟩, .str false ⟨#[84, 79]⟩, .str false ⟨#[84, 82, 65, 78, 83, 65, 67, 84, 73, 79, 78]⟩, .str false ⟨#[86, 65, 67, 85, 85, 77]⟩, .str false ⟨#[87, 73, 84, 72, 79, 85, 84]⟩]), (⟨#[67, 79, 76, 76, 65, 84, 69, 95, 76, 69, 86, 69, 76]⟩, .int false 10), (⟨#[95, 108, 97, 119, 95, 99, 111, 110, 102, 108, 105, 99, 116]⟩, .top (.ref 1346))] .lf) 16 [(⟨#[69, 120, 112, 114, 101, 115, 115, 105, 111, 110, 82, 101, 97, 100, 101, 114]⟩, .top (.ref 1034)), (⟨#[69, 120, 112, 114, 101, 115, 115, 105, 111, 110, 87, 114, 105, 116, 101, 114]⟩, .top (.ref 1103))] .lf)))
noncomputable def tK : Tr Unit := (.nd (.nd (.nd (.nd (.nd (.nd .lf 28 () .lf) 90 () .lf) 116 () (.nd .lf 194 () .lf)) 504 () (.nd (.nd (.nd .lf 528 () .lf) 554 () .lf) 616 () (.nd .lf 623 () .lf))) 630 () (.nd (.nd (.nd (.nd .lf 682 () .lf) 787 () .lf) 798 () (.nd .lf 806 () .lf)) 813 () (.nd (.nd .lf 818 () .lf) 825 () (.nd .lf 882 () .lf)))) 907 () (.nd (.nd (.nd (.nd (.nd .lf 1034 () .lf) 1045 () .lf) 1103 () (.nd .lf 1160 () .lf)) 1293 () (.nd (.nd .lf 1304 () .lf) 1311 () (.nd .lf 1318 () .lf))) 1325 () (.nd (.nd (.nd (.nd .lf 1332 () .lf) 1339 () .lf) 1346 () (.nd .lf 1351 () .lf)) 1358 () (.nd (.nd .lf 1365 () .lf) 1372 () (.nd .lf 1377 () .lf)))))
noncomputable def izN : List Nat := [90, 116, 194, 504, 528, 554]
noncomputable def izL : List Nat := [90, 116, 142, 168, 194, 220, 246, 272, 298, 426, 452, 478, 504, 528, 554]
noncomputable def memN (x : Nat) : List Nat → Bool
  | [] => false
  | y :: l => Nat.beq x y || memN x l
noncomputable def memZ (x : String) : List String → Bool
  | [] => false
  | y :: l => decide (x = y) || memZ x l
noncomputable def izR (v : Value) (k : Addr → Option Bool) (e : String → Option Bool) : Option Bool := match v with
  | .ref D => k D
  | .type y => e y
  | _ => none
noncomputable def iz (t v : Value) : Option Bool := izR t (fun C => izR v (fun D => uW (memN C izN) (uW (memN D izL) (some (Nat.beq C D)))) fun _ => none)
  fun x => izR v (fun _ => none) fun y => uW (memZ x ["int", "str", "NoneType", "bytes"]) (uW (memZ y ["int", "str"]) (some (decide (x = y))))
noncomputable def tab (CK : Nat → Addr → List SV → St → CR → Prop) (SK : Nat → SE → Stmt → St → SR → Prop) (con : Addr → Bool) (stl : Nat → Bool) : Tb :=
  { G := fun x => uO (tG.get (len x.cps.toList)) fun l => lk l x
    F := fun a => tF.get a
    C := fun a => tC.get a
    Mt := fun C x => uO (tM.get C) fun l => lk l x
    Fd := fun C x => (uO (tA.get C) fun l => lk l x).isSome
    Iz := iz
    D := fun k => tD.get k
    con := con
    stl := stl
    CK := CK
    SK := SK
    kp := fun a => (tK.get a).isSome
    X := fun x => uW (nm x "ParseError") (some (605, [⟨#[109, 101, 115, 115, 97, 103, 101]⟩, ⟨#[112, 108, 97, 99, 101]⟩])) }
theorem zip_lookup {α : Type} : ∀ {ns : List Str} {vs : List α}, ns.Nodup → ns.length = vs.length → ns.filterMap (fun n => ((ns.zip vs).lookup n).map (n, ·)) = ns.zip vs := by
  intro ns vs nd hl
  suffices h : ∀ (pre : List (Str × α)) (ns : List Str) (vs : List α), (∀ p ∈ pre, p.1 ∉ ns) → ns.Nodup → ns.length = vs.length → ns.filterMap (fun n => ((pre ++ ns.zip vs).lookup n).map (n, ·)) = ns.zip vs from h [] ns vs (fun _ m => by cases m) nd hl
  intro pre ns
  induction ns generalizing pre with
  | nil => intro vs _ _ _; rfl
  | cons n ns ih =>
    intro vs hp nd hl
    cases vs with
    | nil => cases hl
    | cons v vs =>
      obtain ⟨n1, n2⟩ := List.nodup_cons.mp nd
      have e1 : (pre ++ (n :: ns).zip (v :: vs)).lookup n = some v := by
        clear ih hl n2 nd
        induction pre with
        | nil => simp [List.lookup]
        | cons p pre ih2 =>
          obtain ⟨k, w⟩ := p
          have : (n == k) = false := by
            rw [beq_eq_false_iff_ne]
            intro q
            exact hp (k, w) (.head _) (by rw [← q]; exact .head _)
          simp only [List.cons_append, List.lookup, this]
          exact ih2 fun p m => hp p (.tail _ m)
      rw [List.filterMap_cons, e1]
      have e2 : (pre ++ (n :: ns).zip (v :: vs)) = ((pre ++ [(n, v)]) ++ ns.zip vs) := by simp
      rw [e2]
      have := ih (pre ++ [(n, v)]) vs (fun p m => by
        rcases List.mem_append.mp m with m | m
        · exact fun q => hp p m (.tail _ q)
        · rw [List.mem_singleton.mp m]; exact n1) n2 (Nat.succ.inj hl)
      simp only [Option.map_some]
      rw [this]
      rfl
theorem zip_some {α : Type} : ∀ {ns : List Str} {vs : List α}, ns.length = vs.length → ∀ n ∈ ns, ((ns.zip vs).lookup n).isNone = false
  | [], _, _, n, m => by cases m
  | k :: ns, [], h, _, _ => by cases h
  | k :: ns, v :: vs, h, n, m => by
    simp only [List.zip_cons_cons, List.lookup]
    cases q : n == k with
    | true => rfl
    | false =>
      rcases List.mem_cons.mp m with e | m
      · rw [e] at q; simp at q
      · exact zip_some (Nat.succ.inj h) n m
structure PlainFn (fd : FuncData) (ps : List Str) : Prop where
  names : fd.params.args.map (·.arg) = ps
  pos : fd.params.posonlyargs = []
  va : fd.params.vararg = none
  ko : fd.params.kwonlyargs = []
  kw : fd.params.kwarg = none
  df : fd.defaults = .none
theorem forIn_of {α β : Type} {l : List α} {s : β} {f : α → β → Sem (ForInStep β)} (h : l = []) : forIn l s f = (pure s : Sem β) := by subst h; rfl
theorem bind_plain' {nm qn : Str} {as : List Arg} {kd : List (Option Expr)} {df : List Expr} {body : FuncBody} {sc : Scope} {g : Addr} {cl : List (Str × Addr)} {kwd doc pm : Value} {an : Option Addr} {cd ct : Value} {bl : Addr} {vals : List Value}
   (nd : (as.map (·.arg)).Nodup) (h : (as.map (·.arg)).length = vals.length) : bindArgs ⟨nm, qn, ⟨[], as, none, [], kd, none, df⟩, body, sc, g, cl, .none, kwd, doc, pm, an, cd, ct, bl⟩ ⟨vals, []⟩ = pure ((as.map (·.arg)).zip vals) := by
  refine (if_neg ?_).trans ?_
  · show ¬((decide (vals.length > (as.map (·.arg)).length) && true) = true)
    rw [decide_eq_false (by rw [h]; exact Nat.lt_irrefl _)]; exact Bool.false_ne_true
  · refine (if_neg ?_).trans ?_
    · show ¬((!(List.filter _ ((as.map (·.arg)).take _)).isEmpty) = true)
      rw [List.filter_eq_nil_iff.mpr fun n m => by show ¬(((as.map (·.arg)).zip vals).lookup n).isNone = true; rw [zip_some h n (List.mem_of_mem_take m)]; exact Bool.false_ne_true]
      exact Bool.false_ne_true
    · refine (congrArg (· >>= _) (forIn_of (by show List.zip _ (List.drop _ []) = []; rw [List.drop_nil, List.zip_nil_right]))).trans ?_
      refine congrArg (pure : List (Str × Value) → Sem (List (Str × Value))) ?_
      show List.filterMap _ (as.map (·.arg) ++ []) = _
      rw [List.append_nil]
      exact zip_lookup nd h
theorem bind_plain {fd : FuncData} {ps : List Str} {vals : List Value} (F : PlainFn fd ps) (nd : ps.Nodup) (hl : ps.length = vals.length) : bindArgs fd ⟨vals, []⟩ = pure (ps.zip vals) := by
  obtain ⟨nm, qn, ⟨po, as, va, ko, kd, ka, df⟩, body, sc, g, cl, dv, kwd, doc, pm, an, cd, ct, bl⟩ := fd
  obtain ⟨rfl, f2, f3, f4, f5, f6⟩ := F
  cases f2; cases f3; cases f4; cases f5; cases f6
  exact bind_plain' nd hl
structure FRec where
  a : Addr
  s : Stmt
  q : Str
  dV : Value
  pm : Value
  cd : Addr
  df : List Dat
noncomputable def anyS (x : Str) : List Str → Bool
  | [] => false
  | y :: l => sq x y || anyS x l
noncomputable def noDup : List Str → Bool
  | [] => true
  | x :: l => !anyS x l && noDup l
theorem anyS_mem {x : Str} {l : List Str} (h : anyS x l = false) : x ∉ l := by
  induction l with
  | nil => exact fun m => nomatch m
  | cons y l ih =>
    obtain ⟨a, b⟩ := Bool.or_eq_false_iff.mp h
    exact fun m => (List.mem_cons.mp m).elim (fun e => Bool.noConfusion (a.symm.trans (sq_iff.mpr e))) (ih b)
theorem noDup_ok {l : List Str} (h : noDup l = true) : l.Nodup := by
  induction l with
  | nil => exact .nil
  | cons x l ih =>
    obtain ⟨a, b⟩ := andT h
    exact List.nodup_cons.mpr ⟨anyS_mem ((Bool.not_eq_true' _).mp a), ih b⟩
noncomputable def celB (nm : List (Str × NameKind)) (x : Str) : Bool := match lk nm x with | some k => (match k with | .cell => true | _ => false) | none => false
theorem celB_ok {nm : List (Str × NameKind)} {x : Str} (h : celB nm x = true) : lk nm x = some .cell := by
  revert h
  unfold celB
  cases lk nm x with
  | none => exact fun q => fT q
  | some k => cases k with
    | cell => exact fun _ => rfl
    | _ => exact fun q => fT q
noncomputable def locB (nm : List (Str × NameKind)) (x : Str) : Bool := isLoc nm x || celB nm x
noncomputable def allS (f : Str → Bool) : List Str → Bool
  | [] => true
  | x :: l => f x && allS f l
theorem allS_mem {f : Str → Bool} {l : List Str} (h : allS f l = true) (x : Str) (m : x ∈ l) : f x = true := by
  induction l with
  | nil => exact nomatch m
  | cons y l ih =>
    obtain ⟨a, b⟩ := andT h
    exact (List.mem_cons.mp m).elim (fun e => e ▸ a) (ih b)
noncomputable def argB (a : Arguments) : Bool := a.posonlyargs.isEmpty && (a.vararg.isNone && (a.kwonlyargs.isEmpty && a.kwarg.isNone))
noncomputable def funB (k : ScopeKind) : Bool := match k with | .function => true | _ => false
noncomputable def scB (sc : Scope) : Bool := funB sc.kind && (!sc.isCoroutine && !sc.isGenerator)
theorem funB_ok {k : ScopeKind} (h : funB k = true) : k = .function := by
  revert h
  cases k with
  | function => exact fun _ => rfl
  | _ => exact fun q => fT q
noncomputable def fnB (s : Stmt) : Bool := argB (fArgs s) && (scB (fScope s) && (noDup ((fArgs s).args.map (·.arg)) && (allS (locB (fScope s).names) ((fArgs s).args.map (·.arg)) && allS (celB (fScope s).names) (cellNames (fScope s).names))))
noncomputable def vsB (v : Value) (q : Str) : Bool := match v with | .str x _ => sq x q | _ => false
noncomputable def lsB (l : List Value) (q : Str) : Bool := match l with | [] => false | _ :: r => (match r with | [] => false | b :: _ => vsB b q)
noncomputable def daB (d : Data) (q : Str) : Bool := match d with | .fields vs => lsB vs.toList q | _ => false
noncomputable def codeB (K : Frag) (cd : Addr) (q : Str) : Bool := match K.lookup cd with | some o => daB o.data q | none => false
theorem binds_len {ps : List Str} {vs : List SV} {bs : List (Str × SV)} (h : binds ps vs [] = some bs) : ps.length = vs.length ∧ bs = ps.zip vs := by
  induction ps generalizing vs bs with
  | nil => cases vs with
    | nil => cases h; exact ⟨rfl, rfl⟩
    | cons => exact nn h
  | cons x xs ih => cases vs with
    | nil =>
      exact nn (show (none : Option (List (Str × SV))) = some bs from h)
    | cons v vs =>
      refine uO.r h fun r h q => ?_
      obtain ⟨a, b⟩ := ih q
      exact ⟨congrArg (· + 1) a, (Option.some.inj h).symm.trans (congrArg ((x, v) :: ·) b)⟩
theorem brs_zip {W : Wd} {ps : List Str} {vs : List SV} {as : List Value} (h : ps.length = vs.length) (r : VRs W vs as) : BRs W (ps.zip vs) (ps.zip as) := by
  induction ps generalizing vs as with
  | nil => exact .nil
  | cons x ps ih =>
    revert h
    cases r with
    | nil => exact fun h => Nat.noConfusion h
    | cons a b => exact fun h => .cons a (ih (Nat.succ.inj h) b)
theorem code_ok {K : Frag} {cd : Addr} {q : Str} (h : codeB K cd q = true) : ∃ oc vs t, K.lookup cd = some oc ∧ oc.data = .fields vs ∧ vs[1]? = some (.str q t) := by
  revert h
  unfold codeB
  cases hl : K.lookup cd with
  | none => exact fun h => fT h
  | some o =>
    obtain ⟨c, d, dt, sl⟩ := o
    cases dt with
    | fields vs =>
      intro h
      have h : lsB vs.toList q = true := h
      refine ⟨⟨c, d, .fields vs, sl⟩, vs, ?_⟩
      rw [← Array.getElem?_toList]
      revert h
      cases vs.toList with
      | nil => exact fun h => fT h
      | cons a l => cases l with
        | nil => exact fun h => fT h
        | cons b l => cases b with
          | str x t => exact fun h => ⟨t, rfl, rfl, congrArg (fun y => some (Value.str y t)) (sq_eq h)⟩
          | _ => exact fun h => fT h
    | _ => exact fun h => fT h
theorem fn_parts {s : Stmt} (h : fnB s = true) : argB (fArgs s) = true ∧ scB (fScope s) = true ∧ ((fArgs s).args.map (·.arg)).Nodup ∧ (∀ x ∈ (fArgs s).args.map (·.arg), lk (fScope s).names x = some .local ∨ lk (fScope s).names x = some .cell) ∧ ∀ y ∈ cellNames (fScope s).names, lk (fScope s).names y = some .cell :=
  let ⟨h1, h⟩ := andT h
  let ⟨h2, h⟩ := andT h
  let ⟨h3, h⟩ := andT h
  let ⟨h4, h5⟩ := andT h
  ⟨h1, h2, noDup_ok h3, fun x m => (Bool.or_eq_true_iff.mp (allS_mem h4 x m)).imp isLoc_ok celB_ok, fun y m => celB_ok (allS_mem h5 y m)⟩
noncomputable def fdOf (r : FRec) : FuncData := { name := fName r.s, qualname := r.q, params := fArgs r.s, body := .stmts (fBody r.s), scope := fScope r.s, globals := 3, closure := [], defaults := r.dV, kwdefaults := .none, pyModule := r.pm, code := .ref r.cd, builtins := 0 }
theorem fn_of {c : Cx} {r : FRec} (hk : c.K.lookup r.a = some (fnO r.s r.q r.dV r.pm r.cd)) (hb : fnB r.s = true) (hc : codeB c.K r.cd r.q = true)
    (hbind : ∀ vs bs W vals (sh : Shared), binds ((fArgs r.s).args.map (·.arg)) vs r.df = some bs → c.K.In sh.heap → (∀ a o, c.h₀.get? a = some o → W.Z a = some o) → VRs W vs vals → ∃ bv, BindsTo sh (fdOf r) ⟨vals, []⟩ bv ∧ BRs W bs bv) : FnOk c r.a (fiOf r.s r.df) := by
  obtain ⟨h1, h2, h3, h4, h5⟩ := fn_parts hb
  obtain ⟨s1, h2⟩ := andT h2
  obtain ⟨s2, s3⟩ := andT h2
  obtain ⟨oc, vs, t, c1, c2, c3⟩ := code_ok hc
  refine ⟨⟨_, _, hk, rfl, rfl, rfl, funB_ok s1, (Bool.not_eq_true' _).mp s2, (Bool.not_eq_true' _).mp s3, rfl, rfl, rfl, ⟨r.cd, oc, vs, t, rfl, c1, c2, c3⟩, fun vs bs W vals sh hbs X hz hr => ?_⟩, h3, h4, h5⟩
  obtain ⟨bv, b1, b2⟩ := hbind vs bs W vals sh hbs X hz hr
  exact ⟨bv, b1, b2⟩
theorem fn_plain {c : Cx} {r : FRec} (hk : c.K.lookup r.a = some (fnO r.s r.q r.dV r.pm r.cd)) (hb : fnB r.s = true) (hc : codeB c.K r.cd r.q = true) (hd : r.dV = .none) (hf : r.df = []) : FnOk c r.a (fiOf r.s r.df) := by
  obtain ⟨h1, h2, h3, h4, h5⟩ := fn_parts hb
  refine fn_of hk hb hc fun vs bs W vals sh hbs X hz hr => ?_
  rw [hf] at hbs
  obtain ⟨l1, rfl⟩ := binds_len hbs
  refine ⟨_, BindsTo.of_eq (bind_plain (ps := (fArgs r.s).args.map (·.arg)) ?_ h3 (by rw [l1, hr.len])), brs_zip l1 hr⟩
  obtain ⟨a1, h1⟩ := andT h1
  obtain ⟨a2, h1⟩ := andT h1
  obtain ⟨a3, a4⟩ := andT h1
  exact ⟨rfl, List.isEmpty_iff.mp a1, Option.isNone_iff_eq_none.mp a2, List.isEmpty_iff.mp a3, Option.isNone_iff_eq_none.mp a4, hd⟩
noncomputable def Tr.toL {α : Type} : Tr α → List (Nat × α)
  | .lf => []
  | .nd l k v r => l.toL ++ (k, v) :: r.toL
theorem Tr.get_mem {α : Type} {t : Tr α} {k : Nat} {v : α} (h : t.get k = some v) : (k, v) ∈ t.toL := by
  induction t with
  | lf => exact nn h
  | nd l k' v' r i1 i2 => exact ifC h (fun q e => List.mem_append_right _ (Nat.eq_of_beq_eq_true q ▸ Option.some.inj e ▸ .head _)) fun _ h => ifC h (fun _ h => List.mem_append_left _ (i1 h)) fun _ h => List.mem_append_right _ (.tail _ (i2 h))
noncomputable def Tr.all {α : Type} (f : Nat → α → Bool) (t : Tr α) : Bool := t.toL.all fun p => f p.1 p.2
theorem Tr.all_get {α : Type} {f : Nat → α → Bool} {t : Tr α} {k : Nat} {v : α} (a : t.all f = true) (h : t.get k = some v) : f k v = true := List.all_eq_true.mp a _ (get_mem h)
noncomputable def allP {α : Type} (f : Str → α → Bool) (l : List (Str × α)) : Bool := l.all fun p => f p.1 p.2
theorem allP_lk {α : Type} {f : Str → α → Bool} {l : List (Str × α)} {x : Str} {v : α} (a : allP f l = true) (h : lk l x = some v) : f x v = true := List.all_eq_true.mp a _ (lk_mem h)
noncomputable def isBu (v : Value) (i : String) : Bool := match v with | .builtin j => decide (j = i) | _ => false
theorem isBu_ok {v : Value} {i : String} (h : isBu v i = true) : v = .builtin i := by
  cases v with
  | builtin j => rw [of_decide_eq_true h]
  | _ => exact fT h
noncomputable def isBI (r : Option (Option Value)) (i : String) : Bool := r.any (·.any (isBu · i))
noncomputable def isNN (r : Option (Option Value)) : Bool := r.any (·.isNone)
noncomputable def isRe (v : Value) (f : Addr) : Bool := match v with | .ref g => Nat.beq f g | _ => false
theorem isRe_ok {v : Value} {f : Addr} (h : isRe v f = true) : v = .ref f := by
  cases v with
  | ref j => rw [Nat.eq_of_beq_eq_true h]
  | _ => exact fT h
noncomputable def isRf (r : Option (Option Value)) (f : Addr) : Bool := r.any (·.any (isRe · f))
noncomputable def isTy (r : Option Value) (t : String) : Bool := r.any (tyIs · t)
theorem any1 {α : Type} {r : Option α} {p : α → Bool} {x : α} (h : r.any p = true) (k : ∀ {v}, p v = true → v = x) : r = some x := by
  cases r with
  | none => exact fT h
  | some v => exact congrArg some (k h)
theorem isBI_ok {r : Option (Option Value)} {i : String} (h : isBI r i = true) : r = some (some (.builtin i)) := any1 h fun h => any1 h isBu_ok
theorem isNN_ok {r : Option (Option Value)} (h : isNN r = true) : r = some none := any1 h Option.isNone_iff_eq_none.mp
theorem isRf_ok {r : Option (Option Value)} {f : Addr} (h : isRf r f = true) : r = some (some (.ref f)) := any1 h fun h => any1 h isRe_ok
theorem isTy_ok {r : Option Value} {t : String} (h : isTy r t = true) : r = some (.type t) := any1 h tyIs_ok
noncomputable def fdB (K : Frag) (C : Addr) (x : Str) : Bool := plainGet K C x && (hasDictIn K C && ((findIn K (.ref C) x).any (noGet K) && (isBI (findIn K (.ref C) "__setattr__") "object.__setattr__" && (plainOver K C && isNN (takerIn K C x)))))
theorem fdB_ok {K : Frag} {C : Addr} {x : Str} (h : fdB K C x = true) : FdOk K C x :=
  let ⟨h1, h⟩ := andT h
  let ⟨h2, h⟩ := andT h
  let ⟨h3, h⟩ := andT h
  let ⟨h4, h⟩ := andT h
  let ⟨h5, h6⟩ := andT h
  ⟨h1, h2, any_some h3, isBI_ok h4, h5, isNN_ok h6⟩
noncomputable def mtB (K : Frag) (C : Addr) (x : Str) (f : Addr) : Bool := plainGet K C x && (isRf (findIn K (.ref C) x) f && (isFn K (.ref f) && keepIn K (.ref f)))
theorem mtB_ok {K : Frag} {C : Addr} {x : Str} {f : Addr} (h : mtB K C x f = true) : MtOk K C x f :=
  let ⟨h1, h⟩ := andT h
  let ⟨h2, h⟩ := andT h
  let ⟨h3, h4⟩ := andT h
  ⟨h1, isRf_ok h2, h3, h4⟩
noncomputable def ckB (K : Frag) (C : Addr) (i : CI) : Bool := makesIn K C && (isRf (findIn K (.ref C) "__init__") i.ini && isTy (typeIn K (.ref i.ini)) "function")
theorem ckB_ok {c : Cx} {C : Addr} {i : CI} (h : ckB c.K C i = true) : CkOk c C i :=
  let ⟨h1, h⟩ := andT h
  let ⟨h2, h3⟩ := andT h
  ⟨h1, isRf_ok h2, isTy_ok h3⟩
noncomputable def isSb (o : Option Bool) (b : Bool) : Bool := o.any (· == b)
theorem isSb_ok {o : Option Bool} {b : Bool} (h : isSb o b = true) : o = some b := any1 h beq_iff_eq.mp
noncomputable def clsB (K : Frag) (D : Addr) : Bool := plainGet K D "__class__" && (hasDictIn K D && (isBI (findIn K (.ref D) "__class__") "object.__class__" && isSb (mroIn K D (.type "object")) true))
theorem clsB_ok {K : Frag} {D : Addr} (h : clsB K D = true) : ClsOk K D :=
  let ⟨h1, h⟩ := andT h
  let ⟨h2, h⟩ := andT h
  let ⟨h3, h4⟩ := andT h
  ⟨h1, h2, isBI_ok h3, isSb_ok h4⟩
noncomputable def kyS (v : Value) (x : Str) : Bool := match v with | .str n _ => sq n x | _ => false
theorem kyS_eq (v : Value) (x : Str) : kyS v x = v.isStr x := by
  cases v with
  | str n t => exact sq_beq n x
  | _ => rfl
noncomputable def fE : List DictEntry → Str → Option Value
  | [], _ => none
  | e :: l, x => bif kyS e.key x then some e.val else fE l x
theorem fE_find (x : Str) (l : List DictEntry) : (l.find? (·.key.isStr x)).map (·.val) = fE l x := by
  induction l with
  | nil => rfl
  | cons e l ih =>
    rw [List.find?_cons, ← kyS_eq]
    show _ = (bif kyS e.key x then some e.val else fE l x)
    cases kyS e.key x with
    | true => rfl
    | false => exact ih
noncomputable def tupO (o : Obj) : Option (Array Value × Nat) := match o.data with
  | .seq xs ep => (match tyIs o.cls "tuple" && (o.dict.isNone && Nat.beq o.slots.size 0) with | true => some (xs, ep) | false => none)
  | _ => none
theorem tupO_ok {o : Obj} {q : Array Value × Nat} (h : tupO o = some q) : o = ⟨.type "tuple", none, .seq q.1 q.2, #[]⟩ := by
  obtain ⟨c, d, dt, sl⟩ := o
  cases dt with
  | seq xs ep =>
    unfold tupO at h
    dsimp only at h
    cases e : tyIs c "tuple" && (d.isNone && Nat.beq sl.size 0) with
    | false => rw [e] at h; exact nn h
    | true =>
      rw [e] at h
      obtain ⟨e1, e2⟩ := Bool.and_eq_true_iff.mp e
      obtain ⟨e2, e3⟩ := Bool.and_eq_true_iff.mp e2
      cases h
      rw [tyIs_ok e1, Option.isNone_iff_eq_none.mp e2, Array.size_eq_zero_iff.mp (Nat.eq_of_beq_eq_true e3)]
  | _ => exact nn h
noncomputable def chkT (x v : Value) : Bool := match x with
  | .ref a => (match v with | .ref b => Nat.beq a b | _ => false)
  | .builtin a => (match v with | .builtin b => decide (a = b) && handedIn (.builtin a) | _ => false)
  | .type a => tyIs v a
  | _ => false
mutual
noncomputable def chkV (K : Frag) : Dat → Value → Bool
  | .top x, v => chkT x v
  | .int _ i, v => (match v with | .int j _ => decide (i = j) | _ => false)
  | .str _ s, v => (match v with | .str t _ => sq s t | _ => false)
  | .tup l, v => (match v with | .ref a => (match K.lookup a with | some o => (match tupO o with | some q => chkVs K l q.1.toList | none => false) | none => false) | _ => false)
  | .none, _ => false
  | .bool _, _ => false
  | .byt _, _ => false
  | .lst _ _, _ => false
  | .inst _ _, _ => false
  | .rng _, _ => false
noncomputable def chkVs (K : Frag) : List Dat → List Value → Bool
  | [], y => (match y with | [] => true | _ :: _ => false)
  | d :: l, y => (match y with | v :: r => (match chkV K d v with | true => chkVs K l r | false => false) | [] => false)
end
theorem chkT_ok {Z : ZH} {x v : Value} (e : chkT x v = true) : VD Z (.top x) v := by
  cases x with
  | ref a => cases v with
    | ref b => rw [Nat.eq_of_beq_eq_true e]; exact .top rfl
    | _ => cases e
  | builtin a => cases v with
    | builtin b => obtain ⟨e1, e2⟩ := Bool.and_eq_true_iff.mp e; rw [← of_decide_eq_true e1]; exact .top e2
    | _ => cases e
  | type a => rw [tyIs_ok e]; exact .top rfl
  | _ => cases e
theorem chkV_ok {K : Frag} {h : Heap} (X : K.In h) {d : Dat} {v : Value} (e : chkV K d v = true) : VD h.get? d v := by
  revert v
  refine Dat.rec (motive_1 := fun d => ∀ {v}, chkV K d v = true → VD h.get? d v) (motive_2 := fun l => ∀ {r}, chkVs K l r = true → VDs h.get? l r) (motive_3 := fun _ => True) (motive_4 := fun _ => True) ?_ ?_ ?_ ?_ ?_ ?_ ?_ ?_ ?_ ?_ ?_ ?_ trivial (fun _ _ _ _ => trivial) (fun _ _ _ => trivial) d
  · intro _ e; cases e
  · intro _ _ e; cases e
  · intro _ i v e; cases v with | int j => rw [of_decide_eq_true e]; exact .int | _ => cases e
  · intro _ s v e; cases v with | str t => rw [sq_eq e]; exact .str | _ => cases e
  · intro _ _ e; cases e
  · intro x v e; exact chkT_ok e
  · intro l ih v e
    cases v with
    | ref a =>
      change (match K.lookup a with | some o => (match tupO o with | some q => chkVs K l q.1.toList | none => false) | none => false) = true at e
      cases hl : K.lookup a with
      | none => rw [hl] at e; cases e
      | some o =>
        rw [hl] at e
        dsimp only at e
        cases ht : tupO o with
        | none => rw [ht] at e; cases e
        | some q => rw [ht] at e; exact .tup (X _ _ (hl.trans (congrArg some (tupO_ok ht)))) (ih e)
    | _ => cases e
  · intro _ _ _ _ e; cases e
  · intro _ _ _ _ e; cases e
  · intro _ _ e; cases e
  · intro r e; cases r with | nil => exact .nil | cons => cases e
  · intro d l i j r e
    cases r with
    | nil => cases e
    | cons v r =>
      change (match chkV K d v with | true => chkVs K l r | false => false) = true at e
      cases q : chkV K d v with
      | true => rw [q] at e; exact .cons (i q) (j e)
      | false => rw [q] at e; cases e
noncomputable def esO (o : Obj) : List DictEntry := match o.data with | .dict es _ => es.toList | _ => []
noncomputable def gE (K : Frag) : List DictEntry := match K.lookup mainGlobals with
  | some o => esO o
  | none => []
noncomputable def gB (K : Frag) (x : Str) (d : Dat) : Bool := match fE (gE K) x with
  | some v => chkV K d v
  | none => match bootBuiltins x with
    | some v => chkV K d v && !(nm x "__name__")
    | none => false
noncomputable def flA : List FRec := [⟨28, stAt 2, "row_of", .none, .str "pagebase.nodes" 194, 27, []⟩,
  ⟨80, subAt 6 0, "Literal.__init__", .none, .str "pagebase.nodes" 194, 79, []⟩,
  ⟨87, subAt 6 1, "Literal.row", .none, .str "pagebase.nodes" 194, 86, []⟩,
  ⟨106, subAt 7 0, "Name.__init__", .none, .str "pagebase.nodes" 194, 105, []⟩,
  ⟨113, subAt 7 1, "Name.row", .none, .str "pagebase.nodes" 194, 112, []⟩,
  ⟨184, subAt 10 0, "Binary.__init__", .none, .str "pagebase.nodes" 194, 183, []⟩,
  ⟨191, subAt 10 1, "Binary.row", .none, .str "pagebase.nodes" 194, 190, []⟩,
  ⟨494, subAt 22 0, "Insert.__init__", .none, .str "pagebase.nodes" 194, 493, []⟩,
  ⟨501, subAt 22 1, "Insert.row", .none, .str "pagebase.nodes" 194, 500, []⟩,
  ⟨520, subAt 23 0, "Update.__init__", .none, .str "pagebase.nodes" 194, 519, []⟩,
  ⟨525, subAt 23 1, "Update.row", .none, .str "pagebase.nodes" 194, 524, []⟩,
  ⟨544, subAt 24 0, "Delete.__init__", .none, .str "pagebase.nodes" 194, 543, []⟩,
  ⟨551, subAt 24 1, "Delete.row", .none, .str "pagebase.nodes" 194, 550, []⟩,
  ⟨602, subAt 28 0, "ParseError.__init__", .none, .str "pagebase.errors" 925, 601, []⟩,
  ⟨616, stAt 43, "folded", .none, .str "pagebase.words" 999, 615, []⟩,
  ⟨623, stAt 44, "begins_name", .none, .str "pagebase.words" 999, 622, []⟩,
  ⟨630, stAt 45, "goes_on_name", .none, .str "pagebase.words" 999, 629, []⟩,
  ⟨644, subAt 46 0, "Word.__init__", .none, .str "pagebase.words" 999, 643, []⟩,
  ⟨651, subAt 46 1, "Word.is_sign", .none, .str "pagebase.words" 999, 650, []⟩,
  ⟨658, subAt 46 2, "Word.is_key", .none, .str "pagebase.words" 999, 657, []⟩,
  ⟨665, subAt 46 3, "Word.is_free", .none, .str "pagebase.words" 999, 664, []⟩,
  ⟨700, subAt 47 0, "Scanner.__init__", .none, .str "pagebase.words" 999, 699, []⟩,
  ⟨707, subAt 47 1, "Scanner.gather", .none, .str "pagebase.words" 999, 706, []⟩,
  ⟨714, subAt 47 2, "Scanner.refuse", .none, .str "pagebase.words" 999, 713, []⟩,
  ⟨721, subAt 47 3, "Scanner.run", .none, .str "pagebase.words" 999, 720, []⟩,
  ⟨728, subAt 47 4, "Scanner.end_of", .none, .str "pagebase.words" 999, 727, []⟩,
  ⟨735, subAt 47 5, "Scanner.bare", .none, .str "pagebase.words" 999, 734, []⟩,
  ⟨742, subAt 47 6, "Scanner.closing", .none, .str "pagebase.words" 999, 741, []⟩,
  ⟨749, subAt 47 7, "Scanner.quoted_word", .none, .str "pagebase.words" 999, 748, []⟩,
  ⟨756, subAt 47 8, "Scanner.blob", .none, .str "pagebase.words" 999, 755, []⟩,
  ⟨763, subAt 47 9, "Scanner.number", .none, .str "pagebase.words" 999, 762, []⟩,
  ⟨770, subAt 47 10, "Scanner.value_of", .none, .str "pagebase.words" 999, 769, []⟩,
  ⟨777, subAt 47 11, "Scanner.mark", .none, .str "pagebase.words" 999, 776, []⟩,
  ⟨798, stAt 48, "read_words", .none, .str "pagebase.words" 999, 797, []⟩,
  ⟨806, stAt 51, "is_bare", .none, .str "pagebase.print_names" 1361, 805, []⟩,
  ⟨813, stAt 52, "write_name", .none, .str "pagebase.print_names" 1361, 812, []⟩,
  ⟨818, stAt 53, "write_names", .none, .str "pagebase.print_names" 1361, 817, []⟩,
  ⟨825, stAt 54, "write_value", .none, .str "pagebase.print_names" 1361, 824, []⟩,
  ⟨846, subAt 57 0, "ChangeWriter.__init__", .none, .str "pagebase.print_changes" 1428, 845, []⟩,
  ⟨853, subAt 57 1, "ChangeWriter.write", .none, .str "pagebase.print_changes" 1428, 852, []⟩,
  ⟨860, subAt 57 2, "ChangeWriter.where", .none, .str "pagebase.print_changes" 1428, 859, []⟩,
  ⟨867, subAt 57 3, "ChangeWriter.conflict", .none, .str "pagebase.print_changes" 1428, 866, []⟩,
  ⟨874, subAt 57 4, "ChangeWriter.insert", .none, .str "pagebase.print_changes" 1428, 873, []⟩,
  ⟨879, subAt 57 5, "ChangeWriter.update", .none, .str "pagebase.print_changes" 1428, 878, []⟩,
  ⟨907, stAt 61, "read_names", .none, .str "pagebase.read_types" 1500, 906, []⟩,
  ⟨925, subAt 71 0, "ExpressionReader.__init__", .none, .str "pagebase.expressions" 1527, 924, []⟩]
noncomputable def flB : List FRec := [⟨940, subAt 71 2, "ExpressionReader.level", .none, .str "pagebase.expressions" 1527, 939, []⟩,
  ⟨947, subAt 71 3, "ExpressionReader.operated", .none, .str "pagebase.expressions" 1527, 946, []⟩,
  ⟨982, subAt 71 8, "ExpressionReader.prefix", .none, .str "pagebase.expressions" 1527, 981, []⟩,
  ⟨989, subAt 71 9, "ExpressionReader.primary", .none, .str "pagebase.expressions" 1527, 988, []⟩,
  ⟨1024, subAt 71 14, "ExpressionReader.named", .none, .str "pagebase.expressions" 1527, 1023, []⟩,
  ⟨1045, stAt 76, "level_of", .none, .str "pagebase.print_expressions" 1802, 1044, []⟩,
  ⟨1059, subAt 77 0, "ExpressionWriter.__init__", .none, .str "pagebase.print_expressions" 1802, 1058, []⟩]
noncomputable def flC : List FRec := [⟨1079, subAt 77 3, "ExpressionWriter.free", .none, .str "pagebase.print_expressions" 1802, 1078, []⟩,
  ⟨1122, subAt 80 0, "ChangeReader.__init__", .none, .str "pagebase.read_changes" 1905, 1121, []⟩,
  ⟨1129, subAt 80 1, "ChangeReader.conflict", .none, .str "pagebase.read_changes" 1905, 1128, []⟩,
  ⟨1136, subAt 80 2, "ChangeReader.insert", .none, .str "pagebase.read_changes" 1905, 1135, []⟩,
  ⟨1143, subAt 80 3, "ChangeReader.update", .none, .str "pagebase.read_changes" 1905, 1142, []⟩,
  ⟨1150, subAt 80 4, "ChangeReader.assignment", .none, .str "pagebase.read_changes" 1905, 1149, []⟩,
  ⟨1157, subAt 80 5, "ChangeReader.delete", .none, .str "pagebase.read_changes" 1905, 1156, []⟩,
  ⟨1178, subAt 83 0, "WordStream.__init__", .none, .str "pagebase.stream" 1991, 1177, []⟩,
  ⟨1185, subAt 83 1, "WordStream.here", .none, .str "pagebase.stream" 1991, 1184, []⟩,
  ⟨1192, subAt 83 2, "WordStream.ahead", .none, .str "pagebase.stream" 1991, 1191, []⟩,
  ⟨1199, subAt 83 3, "WordStream.go", .none, .str "pagebase.stream" 1991, 1198, []⟩,
  ⟨1206, subAt 83 4, "WordStream.refuse", .none, .str "pagebase.stream" 1991, 1205, []⟩,
  ⟨1213, subAt 83 5, "WordStream.is_over", .none, .str "pagebase.stream" 1991, 1212, []⟩,
  ⟨1220, subAt 83 6, "WordStream.is_key", .none, .str "pagebase.stream" 1991, 1219, []⟩,
  ⟨1227, subAt 83 7, "WordStream.is_sign", .none, .str "pagebase.stream" 1991, 1226, []⟩,
  ⟨1234, subAt 83 8, "WordStream.is_one_of", .none, .str "pagebase.stream" 1991, 1233, []⟩,
  ⟨1241, subAt 83 9, "WordStream.is_select", .none, .str "pagebase.stream" 1991, 1240, []⟩,
  ⟨1248, subAt 83 10, "WordStream.take_key", .none, .str "pagebase.stream" 1991, 1247, []⟩,
  ⟨1255, subAt 83 11, "WordStream.take_sign", .none, .str "pagebase.stream" 1991, 1254, []⟩,
  ⟨1262, subAt 83 12, "WordStream.need_key", .none, .str "pagebase.stream" 1991, 1261, []⟩,
  ⟨1269, subAt 83 13, "WordStream.need_sign", .none, .str "pagebase.stream" 1991, 1268, []⟩,
  ⟨1276, subAt 83 14, "WordStream.need_name", .none, .str "pagebase.stream" 1991, 1275, []⟩,
  ⟨1283, subAt 83 15, "WordStream.deeper", .none, .str "pagebase.stream" 1991, 1282, []⟩,
  ⟨1290, subAt 83 16, "WordStream.higher", .none, .str "pagebase.stream" 1991, 1289, []⟩,
  ⟨1304, stAt 85, "_law_pool", .none, .str "law_pb0465_01" 2150, 1303, []⟩,
  ⟨1311, stAt 86, "_law_take", .none, .str "law_pb0465_01" 2150, 1310, []⟩,
  ⟨1318, stAt 87, "_law_one", .none, .str "law_pb0465_01" 2150, 1317, []⟩,
  ⟨1325, stAt 88, "_law_name", .none, .str "law_pb0465_01" 2150, 1324, []⟩,
  ⟨1332, stAt 89, "_law_value", .none, .str "law_pb0465_01" 2150, 1331, []⟩,
  ⟨1339, stAt 90, "_law_where", .none, .str "law_pb0465_01" 2150, 1338, []⟩,
  ⟨1346, stAt 91, "_law_conflict", .none, .str "law_pb0465_01" 2150, 1345, []⟩,
  ⟨1351, stAt 92, "_law_insert", .none, .str "law_pb0465_01" 2150, 1350, []⟩,
  ⟨1358, stAt 93, "_law_update", .none, .str "law_pb0465_01" 2150, 1357, []⟩,
  ⟨1365, stAt 94, "_law_delete", .none, .str "law_pb0465_01" 2150, 1364, []⟩,
  ⟨1372, stAt 95, "_law_read", .none, .str "law_pb0465_01" 2150, 1371, []⟩,
  ⟨1377, stAt 96, "law", .none, .str "law_pb0465_01" 2150, 1376, []⟩]
noncomputable def r933 : FRec := ⟨933, subAt 71 1, "ExpressionReader.expression", (.ref 926), .str "pagebase.expressions" 1527, 932, [.int false 1]⟩
noncomputable def r1067 : FRec := ⟨1067, subAt 77 1, "ExpressionWriter.write", (.ref 1060), .str "pagebase.print_expressions" 1802, 1066, [.int false 1]⟩
noncomputable def fl : List FRec := flA ++ r933 :: (flB ++ r1067 :: flC)
noncomputable def dl : List (Addr × Nat × List (Str × Tok × Dat × Tok)) := [(609, 2, [(⟨#[61, 61]⟩, 1026, .str false ⟨#[61]⟩, 1027), (⟨#[33, 61]⟩, 1028, .str false ⟨#[60, 62]⟩, 1029)]),
  (908, 16, [(⟨#[61]⟩, 1537, .int false 4, 1538), (⟨#[60, 62]⟩, 1540, .int false 4, 1541), (⟨#[60]⟩, 1543, .int false 5, 1544), (⟨#[60, 61]⟩, 1546, .int false 5, 1547), (⟨#[62]⟩, 1549, .int false 5, 1550), (⟨#[62, 61]⟩, 1552, .int false 5, 1553), (⟨#[38]⟩, 1555, .int false 6, 1556), (⟨#[124]⟩, 1558, .int false 6, 1559), (⟨#[60, 60]⟩, 1561, .int false 6, 1562), (⟨#[62, 62]⟩, 1564, .int false 6, 1565), (⟨#[43]⟩, 1567, .int false 7, 1568), (⟨#[45]⟩, 1570, .int false 7, 1571), (⟨#[42]⟩, 1573, .int false 8, 1574), (⟨#[47]⟩, 1576, .int false 8, 1577), (⟨#[37]⟩, 1579, .int false 8, 1580), (⟨#[124, 124]⟩, 1582, .int false 9, 1583)]),
  (909, 11, [(⟨#[79, 82]⟩, 1586, .int false 1, 1587), (⟨#[65, 78, 68]⟩, 1588, .int false 2, 1589), (⟨#[73, 83]⟩, 1590, .int false 4, 1591), (⟨#[73, 78]⟩, 1592, .int false 4, 1593), (⟨#[76, 73, 75, 69]⟩, 1594, .int false 4, 1595), (⟨#[71, 76, 79, 66]⟩, 1596, .int false 4, 1597), (⟨#[66, 69, 84, 87, 69, 69, 78]⟩, 1598, .int false 4, 1599), (⟨#[73, 83, 78, 85, 76, 76]⟩, 1600, .int false 4, 1601), (⟨#[78, 79, 84, 78, 85, 76, 76]⟩, 1602, .int false 4, 1603), (⟨#[78, 79, 84]⟩, 1604, .int false 4, 1605), (⟨#[67, 79, 76, 76, 65, 84, 69]⟩, 1606, .int false 10, 1607)])]
theorem x_cls (P : Params) : (KL P).lookup 605 = some (excClassObj "ParseError" "ParseError" 605 604 [.ref 586] [.ref 586, .ref 573, .type "Exception", .type "BaseException", .type "object"] true [] [] false none none (some (.ref 589)) (none) (some (.str "ParseError" 972)) (some (.str "ParseError" 980)) (some (.bool true)) eN) := by kernel_rfl
theorem x_up : UpOk [.ref 586, .ref 573, .type "Exception", .type "BaseException", .type "object"] := ⟨by decide, by decide, by decide, by decide⟩
theorem fl_k (P : Params) : fl.map (fun r => (KL P).lookup r.a) = fl.map (fun r => some (fnO r.s r.q r.dV r.pm r.cd)) := by kernel_rfl
noncomputable def allF (f : FRec → Bool) (l : List FRec) : Bool := l.all f
theorem allF_mem {f : FRec → Bool} {l : List FRec} (h : allF f l = true) : ∀ r ∈ l, f r = true := List.all_eq_true.mp h
theorem fl_b : allF (fun r => fnB r.s) fl = true := by kernel_rfl
theorem fl_c (P : Params) : allF (fun r => codeB (KL P) r.cd r.q) fl = true := by kernel_rfl
theorem fl_t : tF.toL = fl.map fun r => (r.a, fiOf r.s r.df) := by kernel_rfl
theorem fd_k (P : Params) : tA.all (fun C l => allP (fun x _ => fdB (KL P) C x) l) = true := by kernel_rfl
theorem mt_k (P : Params) : tM.all (fun C l => allP (fun x f => mtB (KL P) C x f) l) = true := by kernel_rfl
theorem ck_k (P : Params) : tC.all (fun C i => ckB (KL P) C i) = true := by kernel_rfl
theorem kp_k (P : Params) : tK.all (fun a _ => keepIn (KL P) (.ref a)) = true := by kernel_rfl
theorem g_k (P : Params) : tG.all (fun _ l => allP (fun x d => gB (KL P) x d) l) = true := by kernel_rfl
noncomputable def valOf (e : Str × Tok × Dat × Tok) : Value := match e.2.2.1 with | .int _ i => .int i e.2.2.2 | .str _ s => .str s e.2.2.2 | _ => .none
theorem d_k (P : Params) : dl.map (fun q => (KL P).lookup q.1) = dl.map (fun q => some ⟨.type "dict", none, .dict (q.2.2.map fun e => ent P e.1 e.2.1 (valOf e)).toArray q.2.1, #[]⟩) := by kernel_rfl
theorem d_t : tD.toL = dl.map fun q => (q.1, q.2.2.map fun e => (e.1, e.2.2.1)) := by kernel_rfl
noncomputable def dEs : List (Str × Tok × Dat × Tok) → Bool
  | [] => true
  | e :: l => !e.1.cps.isEmpty && (flat e.2.2.1 && (!anyS e.1 (l.map (·.1)) && dEs l))
theorem d_b : (dl.all fun q => dEs q.2.2 && !(q.1 == sysModules)) = true := by kernel_rfl
noncomputable def izAll (K : Frag) : Bool := izN.all fun C => clsB K C && izL.all fun D => isSb (kitOne K (.ref C) (.ref D)) (Nat.beq C D)
theorem iz_k (P : Params) : izAll (KL P) = true := by kernel_rfl
noncomputable def izTs (K : Frag) : Bool := ["int", "str", "NoneType", "bytes"].all fun x => ["int", "str"].all fun y => isSb (kitOne K (.type x) (.type y)) (decide (x = y))
theorem izt_k (P : Params) : izTs (KL P) = true := by kernel_rfl
theorem izc_k (P : Params) : specialIn (KL P) (.builtin "object.__class__") "__get__" = some (some (.builtin "getset_descriptor.__get__")) := by kernel_rfl
theorem izs_k (P : Params) : takesIn (KL P) (.builtin "object.__class__") = some true := by kernel_rfl
noncomputable def fMsg : Str := ⟨#[109, 101, 115, 115, 97, 103, 101]⟩
noncomputable def fPlc : Str := ⟨#[112, 108, 97, 99, 101]⟩
theorem x_keep (P : Params) : keepIn (KL P) (.ref 605) = true := by kernel_rfl
theorem x_ini (P : Params) : isRf (findIn (KL P) (.ref 605) "__init__") 602 = true := by kernel_rfl
theorem x_fn (P : Params) : isTy (typeIn (KL P) (.ref 602)) "function" = true := by kernel_rfl
theorem x_set (P : Params) : isBI (findIn (KL P) (.ref 605) "__setattr__") "object.__setattr__" = true := by kernel_rfl
theorem x_ga (P : Params) : isBI (findIn (KL P) (.ref 605) "__getattribute__") "BaseException.__getattribute__" = true := by kernel_rfl
theorem x_no (P : Params) : isNN (findIn (KL P) (.ref 605) "__getattr__") = true := by kernel_rfl
theorem x_over (P : Params) : xOver (KL P) 605 = true := by kernel_rfl
theorem x_dict (P : Params) : hasDictIn (KL P) 605 = true := by kernel_rfl
theorem x_t1 (P : Params) : isNN (takerIn (KL P) 605 fMsg) = true := by kernel_rfl
theorem x_t2 (P : Params) : isNN (takerIn (KL P) 605 fPlc) = true := by kernel_rfl
theorem x_f2 (P : Params) : isNN (findIn (KL P) (.ref 605) fPlc) = true := by kernel_rfl
theorem x_mro (P : Params) : mroIn (KL P) 605 (.type "BaseException") = some true := by kernel_rfl
theorem x_body : XSh (fiOf (subAt 28 0) []) fMsg fPlc :=
  ⟨"self", "message", "place", _, _, _, _, _, _, _, _, rfl, rfl, rfl, rfl, rfl, rfl, rfl, rfl⟩
noncomputable abbrev tabC (c : Cx) (con : Addr → Bool) (stl : Nat → Bool) : Tb := tab (CallOk c) (StOk c) con stl
theorem fl_lookup (P : Params) {r : FRec} (h : r ∈ fl) : (KL P).lookup r.a = some (fnO r.s r.q r.dV r.pm r.cd) := List.map_inj_left.mp (fl_k P) r h
theorem d_lookup (P : Params) {q : Addr × Nat × List (Str × Tok × Dat × Tok)} (h : q ∈ dl) : (KL P).lookup q.1 = some ⟨.type "dict", none, .dict (q.2.2.map fun e => ent P e.1 e.2.1 (valOf e)).toArray q.2.1, #[]⟩ := List.map_inj_left.mp (d_k P) q h
noncomputable def isNo : Value → Bool | .none => true | _ => false
theorem isNo_ok {v : Value} (h : isNo v = true) : v = .none := by cases v <;> first | rfl | cases h
noncomputable def nilD : List Dat → Bool | [] => true | _ => false
theorem nilD_ok {l : List Dat} (h : nilD l = true) : l = [] := by cases l <;> first | rfl | cases h
theorem fl_d : (allF (fun r => isNo r.dV && nilD r.df) flA && (allF (fun r => isNo r.dV && nilD r.df) flB && allF (fun r => isNo r.dV && nilD r.df) flC)) = true := by kernel_rfl
theorem k926 (P : Params) : (KL P).lookup 926 = some ⟨.type "tuple", none, .seq #[.int 1 1529] 0, #[]⟩ := by kernel_rfl
theorem k1060 (P : Params) : (KL P).lookup 1060 = some ⟨.type "tuple", none, .seq #[.int 1 1529] 0, #[]⟩ := by kernel_rfl
section
variable {c : Cx}
noncomputable abbrev sSelf : Str := ⟨#[115, 101, 108, 102]⟩
noncomputable abbrev sLeast : Str := ⟨#[108, 101, 97, 115, 116]⟩
noncomputable abbrev sNode : Str := ⟨#[110, 111, 100, 101]⟩
theorem fn_933 (hk : c.K.lookup r933.a = some (fnO r933.s r933.q r933.dV r933.pm r933.cd)) (hb : fnB r933.s = true) (hc : codeB c.K r933.cd r933.q = true) : FnOk c r933.a (fiOf r933.s r933.df) := by
  refine fn_of hk hb hc fun vs bs W vals sh hbs X hz hr => ?_
  have hps : (fArgs r933.s).args.map (·.arg) = [sSelf, sLeast] := by kernel_rfl
  rw [hps] at hbs
  have ho := X 926 _ (k926 _)
  cases hr with
  | nil => cases hbs
  | cons a hr =>
    cases hr with
    | nil =>
      cases hbs
      rename_i x v
      exact ⟨[(sSelf, v), (sLeast, .int 1 1529)], BindsTo.of_defaults rfl ho rfl rfl rfl, .cons a (.cons (.d .int) .nil)⟩
    | cons b hr =>
      cases hr with
      | cons => cases hbs
      | nil =>
        cases hbs
        rename_i x v y u
        exact ⟨[(sSelf, v), (sLeast, u)], BindsTo.of_defaults rfl ho rfl rfl rfl, .cons a (.cons b .nil)⟩
theorem fn_1067 (hk : c.K.lookup r1067.a = some (fnO r1067.s r1067.q r1067.dV r1067.pm r1067.cd)) (hb : fnB r1067.s = true) (hc : codeB c.K r1067.cd r1067.q = true) : FnOk c r1067.a (fiOf r1067.s r1067.df) := by
  refine fn_of hk hb hc fun vs bs W vals sh hbs X hz hr => ?_
  have hps : (fArgs r1067.s).args.map (·.arg) = [sSelf, sNode, sLeast] := by kernel_rfl
  rw [hps] at hbs
  have ho := X 1060 _ (k1060 _)
  cases hr with
  | nil => cases hbs
  | cons a hr =>
    cases hr with
    | nil => cases hbs
    | cons b hr =>
      cases hr with
      | nil =>
        cases hbs
        rename_i x v y u
        exact ⟨[(sSelf, v), (sNode, u), (sLeast, .int 1 1529)], BindsTo.of_defaults rfl ho rfl rfl rfl, .cons a (.cons b (.cons (.d .int) .nil))⟩
      | cons d hr =>
        cases hr with
        | cons => cases hbs
        | nil =>
          cases hbs
          rename_i x v y u x' w
          exact ⟨[(sSelf, v), (sNode, u), (sLeast, w)], BindsTo.of_defaults rfl ho rfl rfl rfl, .cons a (.cons b (.cons d .nil))⟩
theorem fn_all {a : Addr} {i : FI} (h : tF.get a = some i) : FnOk c a i := by
  have hm := Tr.get_mem h
  rw [fl_t] at hm
  obtain ⟨r, hr, e⟩ := List.mem_map.mp hm
  cases e
  have hk : c.K.lookup r.a = some (fnO r.s r.q r.dV r.pm r.cd) := fl_lookup c.w.params hr
  have hb : fnB r.s = true := allF_mem fl_b r hr
  have hc : codeB c.K r.cd r.q = true := allF_mem (fl_c c.w.params) r hr
  have hd := fl_d
  simp only [Bool.and_eq_true] at hd
  obtain ⟨d1, d2, d3⟩ := hd
  have plain : (isNo r.dV && nilD r.df) = true → FnOk c r.a (fiOf r.s r.df) := fun q => by
    rw [Bool.and_eq_true] at q
    exact fn_plain hk hb hc (isNo_ok q.1) (nilD_ok q.2)
  unfold fl at hr
  rcases List.mem_append.mp hr with hr | hr
  · exact plain (allF_mem d1 r hr)
  · rcases List.mem_cons.mp hr with rfl | hr
    · exact fn_933 hk hb hc
    · rcases List.mem_append.mp hr with hr | hr
      · exact plain (allF_mem d2 r hr)
      · rcases List.mem_cons.mp hr with rfl | hr
        · exact fn_1067 hk hb hc
        · exact plain (allF_mem d3 r hr)
end
section
open PyProof.V PySem.Spec
theorem k3 (P : Params) : ((KL P).lookup mainGlobals).isSome = true := by kernel_rfl
section
variable {c : Cx} {mg mb : Str → Option Value} {con : Addr → Bool} {stl : Nat → Bool}
theorem mg_at (B : Base c.w c.h₀ mg mb) (x : Str) : mg x = fE (gE c.K) x := by
  obtain ⟨o', hk⟩ := Option.isSome_iff_exists.mp (k3 c.w.params)
  obtain ⟨o, es', ep, g1, g2, -, g4⟩ := B.g
  have h3 := B.K _ _ hk
  rw [g1] at h3
  cases h3
  have e : gE c.K = es'.toList := by
    unfold gE
    rw [hk]
    show esO o' = _
    unfold esO
    rw [g2]
  rw [← g4 x, e, ← fE_find]
  unfold nsFind findBy
  rw [Array.find?_toList]
theorem gok (B : Base c.w c.h₀ mg mb) : GOk c (tabC c con stl) mg mb := by
  refine ⟨B, fun x d h => uO.r h fun l h hl => ?_⟩
  have hb : gB c.K x d = true := allP_lk (Tr.all_get (g_k c.w.params) hl) h
  revert hb
  unfold gB
  rw [mg_at B x]
  cases hv : fE (gE c.K) x with
  | some v => exact fun hb => .inl ⟨v, rfl, chkV_ok B.K hb⟩
  | none => cases hb2 : bootBuiltins x with
    | none => exact fT
    | some v =>
      intro hb
      obtain ⟨h1, h2⟩ := andT hb
      refine .inr ⟨rfl, v, rfl, fun e => ?_, chkV_ok B.K h1⟩
      rw [e, show nm "__name__" "__name__" = true from sq_refl _] at h2
      exact fT h2
theorem fd_all {C : Addr} {x : Str} (h : (tabC c con stl).Fd C x = true) : FdOk c.K C x :=
  let ⟨_, h⟩ := Option.isSome_iff_exists.mp h
  uO.r h fun _ h hl => fdB_ok (allP_lk (Tr.all_get (fd_k c.w.params) hl) h)
theorem mt_all {C : Addr} {x : Str} {f : Addr} (h : (tabC c con stl).Mt C x = some f) : MtOk c.K C x f :=
  uO.r h fun _ h hl => mtB_ok (allP_lk (Tr.all_get (mt_k c.w.params) hl) h)
theorem ck_all {C : Addr} {i : CI} (h : (tabC c con stl).C C = some i) : CkOk c C i := ckB_ok (Tr.all_get (ck_k c.w.params) h)
theorem kp_all {a : Addr} (h : (tabC c con stl).kp a = true) : keepIn c.K (.ref a) = true :=
  let ⟨_, h⟩ := Option.isSome_iff_exists.mp h
  Tr.all_get (kp_k c.w.params) h
theorem memN_ok {x : Nat} {l : List Nat} (h : memN x l = true) : x ∈ l := by
  induction l with
  | nil => exact fT h
  | cons y l ih => exact (Bool.or_eq_true_iff.mp h).elim (fun q => Nat.eq_of_beq_eq_true q ▸ .head _) fun q => .tail _ (ih q)
theorem memZ_ok {x : String} {l : List String} (h : memZ x l = true) : x ∈ l := by
  induction l with
  | nil => exact fT h
  | cons y l ih => exact (Bool.or_eq_true_iff.mp h).elim (fun q => of_decide_eq_true q ▸ .head _) fun q => .tail _ (ih q)
theorem izR.r {v : Value} {k : Addr → Option Bool} {e : String → Option Bool} {g : Bool} {G : Value → Prop} (h : izR v k e = some g) (H1 : ∀ D, k D = some g → G (.ref D)) (H2 : ∀ y, e y = some g → G (.type y)) : G v := by
  cases v with
  | ref D => exact H1 D h
  | type y => exact H2 y h
  | _ => exact nn h
theorem iz_all : IzOk c (tabC c con stl) := by
  refine ⟨izc_k _, izs_k _, fun t v b h => izR.r (G := fun t => kitOne c.K t v = some b ∧ ∀ D, t = .ref D → ClsOk c.K D) h (fun C h => izR.r (G := fun v => kitOne c.K (.ref C) v = some b ∧ ∀ D, (Value.ref C) = .ref D → ClsOk c.K D) h (fun D h => uW.r h fun h h1 => uW.r h fun h h2 => ?_) fun _ h => nn h)
    fun x h => izR.r (G := fun v => kitOne c.K (.type x) v = some b ∧ ∀ D, (Value.type x) = .ref D → ClsOk c.K D) h (fun _ h => nn h) fun y h => uW.r h fun h h1 => uW.r h fun h h2 => ?_⟩
  · obtain ⟨k1, k2⟩ := andT (List.all_eq_true.mp (iz_k c.w.params) C (memN_ok h1))
    have k2 := List.all_eq_true.mp k2 D (memN_ok h2)
    exact ⟨(isSb_ok k2).trans h, fun D' e => Value.ref.inj e ▸ clsB_ok k1⟩
  · have k := List.all_eq_true.mp (List.all_eq_true.mp (izt_k c.w.params) x (memZ_ok h1)) y (memZ_ok h2)
    exact ⟨(isSb_ok k).trans h, fun D' e => Value.noConfusion e⟩
noncomputable def dsOk (l : List (Str × Tok × Dat × Tok)) : Prop := (l.map (·.1)).Nodup ∧ ∀ e ∈ l, e.1.cps.isEmpty = false ∧ flat e.2.2.1 = true
theorem dEs_ok {l : List (Str × Tok × Dat × Tok)} (h : dEs l = true) : dsOk l := by
  induction l with
  | nil => exact ⟨.nil, nofun⟩
  | cons e l ih =>
    obtain ⟨h1, h⟩ := andT h
    obtain ⟨h2, h⟩ := andT h
    obtain ⟨h3, h⟩ := andT h
    obtain ⟨d, f⟩ := ih h
    exact ⟨List.nodup_cons.mpr ⟨anyS_mem ((Bool.not_eq_true' _).mp h3), d⟩, fun e' m => (List.mem_cons.mp m).elim (fun q => q ▸ ⟨(Bool.not_eq_true' _).mp h1, h2⟩) (f e')⟩
theorem flat_val {e : Str × Tok × Dat × Tok} (h : flat e.2.2.1 = true) : Flat (valOf e) (toPy e.2.2.1) := by
  obtain ⟨x, t, d, t2⟩ := e
  cases d <;> first | exact Flat.int _ _ | exact Flat.str _ _ | cases h
theorem flatPairs_of {l : List (Str × Tok × Dat × Tok)} (h : ∀ e ∈ l, flat e.2.2.1 = true) : FlatPairs PyData.str (l.map fun e => (e.1, valOf e)) (l.map fun e => (.str e.1, toPy e.2.2.1)) := by
  induction l with
  | nil => exact .nil
  | cons e l ih => exact .cons (flat_val (h e (.head _))) (ih fun e m => h e (.tail _ m))
theorem isSO (x : Str) (t : Tok) : Value.isStrOf x (.str x t) = true := beq_self_eq_true x
theorem pairs_of {w : World} {l : List (Str × Tok × Dat × Tok)} : Pairs (strKind pw w) (l.map fun e => ent w.params e.1 e.2.1 (valOf e)) (l.map fun e => (e.1, valOf e)) := by
  induction l with
  | nil => exact .nil
  | cons e l ih => exact .cons (isSO e.1 e.2.1) rfl ih
theorem dok (B : Base c.w c.h₀ mg mb) : DOk c (tabC c con stl) := by
  refine ⟨fun k l h => ?_⟩
  have h : tD.get k = some l := h
  have hm := Tr.get_mem h
  rw [d_t] at hm
  obtain ⟨q, hq, e⟩ := List.mem_map.mp hm
  cases e
  have hb := List.all_eq_true.mp d_b q hq
  rw [Bool.and_eq_true, Bool.not_eq_true'] at hb
  obtain ⟨d1, d2⟩ := dEs_ok hb.1
  have ho := B.K _ _ (d_lookup c.w.params hq)
  refine ⟨?_, fun p m => ?_⟩
  · refine TabAt.ofObj (kvs := q.2.2.map fun e => (e.1, valOf e)) hb.2 ho ⟨_, _, ⟨rfl, rfl, rfl⟩, rfl, fun e m => ?_, pairs_of, ?_⟩ ?_
    · obtain ⟨e', m', rfl⟩ := List.mem_map.mp (List.mem_toArray.mp m)
      refine ⟨e'.1, isSO e'.1 e'.2.1, ?_⟩
      show reduceHash _ = hashStr _ _
      unfold hashStr
      rw [if_neg (by rw [(d2 e' m').1]; decide)]
    · rw [List.map_map]; exact d1
    · have := flatPairs_of (l := q.2.2) fun e m => (d2 e m).2
      rw [List.map_map]; exact this
  · obtain ⟨e', m', rfl⟩ := List.mem_map.mp m
    exact (d2 e' m').2
theorem x_all {x : Str} {C : Addr} {f g : Str} (h : (tabC c con stl).X x = some (C, [f, g])) : XCls c C f g := by
  refine uW.r (k := some (605, [fMsg, fPlc])) h fun h _ => ?_
  · cases h
    have hf : FnOk c 602 (fiOf (subAt 28 0) []) := fn_all (by kernel_rfl)
    exact ⟨⟨_, _, _, _, _, _, _, _, _, _, _, _, _, _, _, _, x_cls _, x_up⟩, x_keep _, ⟨602, _, isRf_ok (x_ini _), isTy_ok (x_fn _), hf, ⟨x_body, rfl, rfl⟩⟩, isBI_ok (x_set _), ⟨x_over _, isNN_ok (x_t1 _), x_dict _⟩, ⟨x_over _, isNN_ok (x_t2 _), x_dict _⟩, ⟨isBI_ok (x_ga _), isNN_ok (x_no _), x_mro _⟩, isNN_ok (x_f2 _), x_dict _⟩
theorem tok (B : Base c.w c.h₀ mg mb) : TOk c (tabC c con stl) mg mb where
  K := B.K
  g := gok B
  lim := B.nolimit
  fd _ _ h := fd_all h
  mt _ _ _ h := mt_all h
  kp _ h := kp_all h
  fn _ _ h := fn_all h
  ck _ _ h := ck_all h
  iz := iz_all
  d := dok B
  x _ _ _ _ h := x_all h
  CK _ _ _ _ _ h := h
  SK _ _ _ _ _ h := h
end
end
noncomputable def conA : Addr → Bool := fun a => memN a [735, 728, 742, 763, 770, 749, 777, 721, 28, 907, 1304, 933, 982, 1150, 1129, 1157, 1143, 1136, 813, 1067, 853, 1311, 1325, 1332, 1339, 1346, 1351, 1358, 1365, 1372, 87, 113, 191, 525, 501, 551, 867, 860, 1248, 1255, 1262, 1269, 1276, 1220, 1227, 658, 651, 940, 989, 1024, 756, 1199]
noncomputable def stlL : Nat → Bool := fun n => memN n [263, 280, 290, 980]
noncomputable abbrev TT (c : Cx) : Tb := tabC c conA stlL
noncomputable def callR (c : Cx) (k d : Nat) (a : Addr) (vs : List SV) (σ : St) (hs : List Hint) : Res SV := uO (tF.get a) fun i => callF (run (TT c) k) a i d vs ⟨σ, hs⟩
mutual
noncomputable def svB (n : Nat) : SV → Bool
  | .d _ => true
  | .inst _ k => Nat.blt k n
  | .lst k => Nat.blt k n
  | .tup l => svBs n l
noncomputable def svBs (n : Nat) : List SV → Bool
  | [] => true
  | v :: l => svB n v && svBs n l
end
noncomputable def fsB (n : Nat) : List (Str × SV) → Bool
  | [] => true
  | p :: l => svB n p.2 && fsB n l
noncomputable def enB (n : Nat) : En → Bool
  | .loc l => fsB n l
  | .flds l => fsB n l
  | .cell (some v) => svB n v
  | _ => true
noncomputable def stB (n : Nat) : St → Bool
  | [] => true
  | e :: l => enB n e && stB n l
theorem stB_at {n : Nat} {σ : St} {i : Nat} {e : En} (a : stB n σ = true) (h : σ[i]? = some e) : enB n e = true := by
  induction σ generalizing i with
  | nil => exact nn h
  | cons x σ ih =>
    obtain ⟨p, q⟩ := andT a
    cases i with
    | zero => exact got (P := fun x => enB n x = true) h p
    | succ i => exact ih q h
section
variable {W : Wd} {n : Nat}
noncomputable abbrev cutW (n : Nat) (W : Wd) : Wd := ⟨W.ρ.take n, W.Z⟩
theorem take_at {k : Nat} {a : Addr} (h : Nat.blt k n = true) (e : W.ρ[k]? = some a) : (cutW n W).ρ[k]? = some a := by
  have h := Nat.le_of_ble_eq_true h
  rw [List.getElem?_take_of_lt h]; exact e
theorem VR.cut {v : SV} {x : Value} (h : svB n v = true) (r : VR W v x) : VR (cutW n W) v x :=
  VR.rec (W := W) (motive_1 := fun v x _ => svB n v = true → VR (cutW n W) v x) (motive_2 := fun l xs _ => svBs n l = true → VRs (cutW n W) l xs)
    (fun a _ => .d a) (fun a b h => .inst a (take_at h b)) (fun b h => .lst (take_at h b)) (fun a _ ih h => .tup a (ih h)) (fun _ => .nil) (fun _ _ i1 i2 h => .cons (i1 (andT h).1) (i2 (andT h).2)) r h
theorem VRf.cut {l : List (Str × SV)} {es : List DictEntry} (h : fsB n l = true) (r : VRf W l es) : VRf (cutW n W) l es := by
  induction r with
  | nil => exact .nil
  | cons a _ ih => exact .cons (a.cut (andT h).1) (ih (andT h).2)
theorem fsB_lk {l : List (Str × SV)} {x : Str} {v : SV} (a : fsB n l = true) (h : lk l x = some v) : svB n v = true := by
  induction l with
  | nil => exact nn h
  | cons p l ih =>
    obtain ⟨q1, q2⟩ := andT a
    exact lk_cons h (fun _ e => e ▸ q1) fun _ h => ih q2 h
theorem ER.cut {fl : List Addr} {h : Heap} {a : Addr} {e : En} (hb : enB n e = true) (r : ER W fl h a e) : ER (cutW n W) fl h a e := by
  cases r with
  | loc z m f => exact .loc z m fun x s q => let ⟨v, e1, r⟩ := f x s q; ⟨v, e1, r.cut (fsB_lk hb q)⟩
  | flds z f g v l => exact .flds z f g (v.cut hb) l
  | lst z g v => exact .lst z g v
  | cellN z g => exact .cellN z g
  | cell z g v => exact .cell z g (v.cut hb)
  | dead => exact .dead
theorem Inv.forget {h₀ h : Heap} {fl : List Addr} {σ τ : St} (I : Inv h₀ fl (σ ++ τ) W h) (hb : stB σ.length σ = true) : Inv h₀ fl σ (cutW σ.length W) h := by
  have hl : (W.ρ.take σ.length).length = σ.length := by rw [List.length_take, I.len, List.length_append]; exact Nat.min_eq_left (Nat.le_add_right _ _)
  have sub : ∀ a ∈ W.ρ.take σ.length, a ∈ W.ρ := fun a m => List.mem_of_mem_take m
  refine ⟨I.base, I.zk, hl, I.nodup.sublist (List.take_sublist _ _), fun a m => I.low a (sub a m), fun i e q => ?_, I.frz, I.stk, I.gr⟩
  have hi : i < σ.length := (List.getElem?_eq_some_iff.mp q).1
  obtain ⟨a, x, r⟩ := I.ent i e (by rw [List.getElem?_append_left hi]; exact q)
  exact ⟨a, by rw [List.getElem?_take_of_lt hi]; exact x, r.cut (stB_at hb q)⟩
end
section
variable {c : Cx} {mg mb : Str → Option Value}
theorem CallOk.forget {n : Nat} {f : Addr} {vs : List SV} {σ σ' τ : St} {v : SV} (h : CallOk c n f vs σ (.ok v (σ' ++ τ))) (hb : stB σ'.length σ' = true) (hv : svB σ'.length v = true) (hl : σ.length ≤ σ'.length) : CallOk c n f vs σ (.ok v σ') := by
  intro p W sh as A I r Rr z
  refine h p W sh as A I r Rr fun sh' W' x S' I' R' r' => z sh' (cutW σ'.length W') x ?_ (I'.forget hb) R' (r'.cut hv)
  obtain ⟨t, et, lt⟩ := S'.ρ
  have hW : W.ρ.length = σ.length := I.len
  refine ⟨⟨t.take (σ'.length - σ.length), ?_, fun a m => lt a (List.mem_of_mem_take m)⟩, S'.Z, S'.new, S'.keep, S'.slots, S'.size⟩
  show W'.ρ.take σ'.length = _
  rw [et, List.take_append, hW, List.take_of_length_le (by rw [hW]; exact hl)]
theorem callOk (B : Base c.w c.h₀ mg mb) {k d : Nat} {a : Addr} {vs : List SV} {σ σ' : St} {hs hs' : List Hint} {P : List Prop} {v : SV} (h : callR c k d a vs σ hs = some (P, .ok v ⟨σ', hs'⟩)) (hp : okL P) : CallOk c d a vs σ (.ok v σ') :=
  uO.r h fun i h hi p W sh as A I r Rr z => snd_callF (snd_run (tok B : TOk c (TT c) mg mb) k) (tok B : TOk c (TT c) mg mb).K (tok B : TOk c (TT c) mg mb).lim (fn_all hi) h hp A I r Rr z
theorem callExc (B : Base c.w c.h₀ mg mb) {k d : Nat} {a : Addr} {vs : List SV} {σ : St} {hs : List Hint} {P : List Prop} {x : Exn} (h : callR c k d a vs σ hs = some (P, .exc x)) (hp : okL P) : CallOk c d a vs σ (.exc x) :=
  uO.r h fun i h hi p W sh as A I r Rr z => snd_callF (snd_run (tok B : TOk c (TT c) mg mb) k) (tok B : TOk c (TT c) mg mb).K (tok B : TOk c (TT c) mg mb).lim (fn_all hi) h hp A I r Rr z
theorem CallOk.le {n m : Nat} {f : Addr} {vs : List SV} {σ : St} {r : CR} (h : CallOk c n f vs σ r) (hn : n ≤ m) : CallOk c m f vs σ r :=
  fun p W sh as A I r Rr z => h p W sh as (A.le hn) I r Rr z
end
noncomputable def tk {α : Type} : Nat → List α → List α
  | 0, _ => []
  | _ + 1, [] => []
  | n + 1, a :: l => a :: tk n l
theorem tk_eq {α : Type} : ∀ (n : Nat) (l : List α), tk n l = l.take n
  | 0, _ => by simp [tk]
  | _ + 1, [] => by simp [tk]
  | n + 1, a :: l => by simp [tk, tk_eq n l]
noncomputable def ocR {α γ : Type} (r : Res α) (k : List Prop → α → S → Option γ) (e : List Prop → Exn → Option γ) : Option γ := match r with
  | none => none
  | some q => (match q.2 with | .ok v s => k q.1 v s | .exc x => e q.1 x)
theorem ocR.r {α γ : Type} {r : Res α} {k : List Prop → α → S → Option γ} {e : List Prop → Exn → Option γ} {g : γ} {B : Prop} (h : ocR r k e = some g) (H : ∀ P v s, r = some (P, .ok v s) → k P v s = some g → B) (E : ∀ P x, r = some (P, .exc x) → e P x = some g → B) : B := by
  cases r with
  | none => exact nn h
  | some q =>
    obtain ⟨P, q⟩ := q
    cases q with
    | ok v s => exact H P v s rfl h
    | exc x => exact E P x rfl h
noncomputable def fin (n : Nat) (r : Res SV) : Option (List Prop × SV × St) := ocR r (fun P v s => uW (svB n v) (uW (stB n (tk n s.σ)) (uW (Nat.ble n (len s.σ)) (some (P, v, tk n s.σ))))) fun _ _ => none
noncomputable def finX (r : Res SV) : Option (List Prop × Exn) := ocR r (fun _ _ _ => none) fun P x => some (P, x)
section
variable {c : Cx} {mg mb : Str → Option Value}
theorem callV (B : Base c.w c.h₀ mg mb) {k d n : Nat} {a : Addr} {vs : List SV} {σ σ' : St} {hs : List Hint} {P : List Prop} {v : SV} (h : fin n (callR c k d a vs σ hs) = some (P, v, σ')) (hp : okL P) (hn : σ.length ≤ n) : CallOk c d a vs σ (.ok v σ') := by
  refine ocR.r h (fun P' v' s hr h => uW.r h fun h h1 => uW.r h fun h h2 => uW.r h fun h h3 => ?_) fun _ _ _ h => nn h
  cases h
  rw [tk_eq] at h2 ⊢
  have hl : (s.σ.take n).length = n := by rw [List.length_take, ← len_eq]; exact Nat.min_eq_left (Nat.le_of_ble_eq_true h3)
  exact CallOk.forget (τ := s.σ.drop n) (callOk B (hs' := s.hs) (σ' := s.σ.take n ++ s.σ.drop n) (by rw [List.take_append_drop]; exact hr) hp) (by rw [hl]; exact h2) (by rw [hl]; exact h1) (by rw [hl]; exact hn)
theorem callX (B : Base c.w c.h₀ mg mb) {k d : Nat} {a : Addr} {vs : List SV} {σ : St} {hs : List Hint} {P : List Prop} {x : Exn} (h : finX (callR c k d a vs σ hs) = some (P, x)) (hp : okL P) : CallOk c d a vs σ (.exc x) := by
  exact ocR.r h (fun _ _ _ _ h => nn h) fun P' x' hr h => by cases h; exact callExc B hr hp
end
noncomputable abbrev sD (x : Str) : SV := .d (.str false x)
noncomputable def turn (R : Rec) (se : SE) (t : Expr) (body : List Stmt) (s : S) : Res (Option Fw) := bnd (R.t se t s) fun c s => match c with
  | false => ret (some .next) s
  | true => bnd (R.ss se body s) fun fl s => match fl with
    | .next => ret none s
    | .ret v => ret (some (.ret v)) s
noncomputable def WhK (c : Cx) (se : SE) (t : Expr) (body : List Stmt) (σ : St) (r : SR) : Prop :=
  ∀ p env W sh, AOk p.A p.fl p.envs se.d → EnvOk p se env W → Inv c.h₀ p.fl σ W sh.heap → ∀ R : Result → Shared → Prop, LpPost c p FwR (SRo r) W sh (fun f s' => R (.ok f) s') (fun e s' => R (.error e) s') → codeAny c.M p.A (.whileLoop t body [] env) R sh
section
variable {c : Cx} {R : Rec} {se : SE} {t : Expr} {body : List Stmt} {s : S} {P : List Prop}
theorem ret_eq {α : Type} {a : α} {o : Oc α} (h : ret a s = some (P, o)) : o = .ok a s := by cases h; rfl
theorem whk_all (S : Snd c R) {o : Oc (Option Fw)} (h : turn R se t body s = some (P, o)) (hp : okL P) {p : Pl} {env : Env} {W : Wd} {sh : Shared} (A : AOk p.A p.fl p.envs se.d) (V : EnvOk p se env W) (I : Inv c.h₀ p.fl s.σ W sh.heap) {Rr : Result → Shared → Prop}
    (hx : ∀ x, o = .exc x → LpPost c p FwR (.exc x) W sh (fun f s' => Rr (.ok f) s') (fun e s' => Rr (.error e) s')) (hr : ∀ f s', o = .ok (some f) s' → LpPost c p FwR (.ok f s') W sh (fun f s' => Rr (.ok f) s') (fun e s' => Rr (.error e) s'))
    (hn : ∀ s', o = .ok none s' → ∀ sh' W', Step p.fl W sh.heap W' sh'.heap → Inv c.h₀ p.fl s'.σ W' sh'.heap → Rest sh sh' → EnvOk p se env W' → codeAny c.M p.A (.whileLoop t body [] env) Rr sh') : codeAny c.M p.A (.whileLoop t body [] env) Rr sh := by
  refine while_step (bndS h hp (fun P o h hp => S.t _ _ _ _ _ h hp p env W sh A V I) (fun x q sh' e X R' => (hx x q).out rfl A V X R') fun _ b s1 sh1 W1 v h p1 S1 I1 R1 r1 => ?_)
  subst r1
  cases b with
  | false => exact hr _ _ (ret_eq h) sh1 W1 _ S1 I1 R1 rfl
  | true =>
    have V := V.mono S1.le
    refine bndS h p1 (fun P o h hp => S.ss _ _ _ _ _ h hp p env W1 sh1 A V I1) (fun x q sh' e X R' => (hx x q).out rfl A V (X.back S1) (R1.trans R')) fun _ f s2 sh2 W2 fv h p2 S2 I2 R2 r2 => ?_
    cases f with
    | next => subst r2; exact hn _ (ret_eq h) sh2 W2 (S1.trans S2) I2 (R1.trans R2) (V.mono S2.le)
    | ret v => obtain ⟨x, rfl, r2⟩ := r2; exact hr _ _ (ret_eq h) sh2 W2 _ (S1.trans S2) I2 (R1.trans R2) ⟨_, rfl, r2⟩
theorem whk_go (S : Snd c R) {s1 : P465.S} {r : SR} (h : turn R se t body s = some (P, .ok none s1)) (hp : okL P) (k : WhK c se t body s1.σ r) : WhK c se t body s.σ r := fun p env W sh A V I Rr z =>
  whk_all S h hp A V I (fun _ e => nomatch e) (fun _ _ e => nomatch e) fun s' e sh' W' S' I' R' V' => by cases e; exact k p env W' sh' A V' I' _ (z.after S' R')
theorem whk_end (S : Snd c R) {s1 : P465.S} (h : turn R se t body s = some (P, .ok (some .next) s1)) (hp : okL P) : WhK c se t body s.σ (.ok none s1.σ) := fun p env W sh A V I Rr z =>
  whk_all S h hp A V I (fun _ e => nomatch e) (fun f s' e => by cases e; exact z) fun _ e => nomatch e
theorem whk_exc (S : Snd c R) {x : Exn} (h : turn R se t body s = some (P, .exc x)) (hp : okL P) : WhK c se t body s.σ (.exc x) := fun p env W sh A V I Rr z =>
  whk_all S h hp A V I (fun y e => by cases e; exact z) (fun _ _ e => nomatch e) fun _ e => nomatch e
theorem whk_st {pos : Pos} {σ : St} {r : SR} (k : WhK c se t body σ r) : StOk c se.d se (.While t body [] pos) σ r := by
  intro p env W sh A V I Q E z
  refine wpAny_While (k p env W sh A V I _ ?_)
  cases r with
  | ok fl σ' => cases fl <;> exact z
  | exc x => exact fun sh' e X N R' => X.came (L := 0) N fun h'' X2 => z _ _ X2 R'
end
noncomputable def fiAt (a : Addr) : FI := match tF.get a with | some i => i | none => ⟨[], [], [], []⟩
noncomputable def stmAt (a : Addr) (j : Nat) : Stmt := match nth (fiAt a).body j with | some s => s | none => .Pass ⟨0, 0, 0, 0⟩
noncomputable def whT : Stmt → Expr | .While t _ _ _ => t | _ => .Name Str.empty ⟨0, 0, 0, 0⟩
noncomputable def whB : Stmt → List Stmt | .While _ b _ _ => b | _ => []
noncomputable def whP : Stmt → Pos | .While _ _ _ p => p | _ => ⟨0, 0, 0, 0⟩
noncomputable def seAt (d : Nat) (a : Addr) (fr : Nat) : SE := ⟨d, a, (fiAt a).nm, fr, [], true⟩
noncomputable abbrev Wh (c : Cx) (d : Nat) (a : Addr) (j fr : Nat) (σ : St) (r : SR) : Prop := WhK c (seAt d a fr) (whT (stmAt a j)) (whB (stmAt a j)) σ r
noncomputable def turnR (c : Cx) (k d : Nat) (a : Addr) (j fr : Nat) (σ : St) (hs : List Hint) : Res (Option Fw) := turn (run (TT c) k) (seAt d a fr) (whT (stmAt a j)) (whB (stmAt a j)) ⟨σ, hs⟩
section
variable {c : Cx} {mg mb : Str → Option Value} (B : Base c.w c.h₀ mg mb) {k d : Nat} {a : Addr} {j fr : Nat} {σ σ1 : St} {hs hs1 : List Hint} {P : List Prop}
include B
theorem wh_go {r : SR} (h : turnR c k d a j fr σ hs = some (P, .ok none ⟨σ1, hs1⟩)) (hp : okL P) (kk : Wh c d a j fr σ1 r) : Wh c d a j fr σ r := whk_go (snd_run (tok B) k) h hp kk
theorem wh_end (h : turnR c k d a j fr σ hs = some (P, .ok (some .next) ⟨σ1, hs1⟩)) (hp : okL P) : Wh c d a j fr σ (.ok none σ1) := whk_end (snd_run (tok B) k) h hp
theorem wh_exc {x : Exn} (h : turnR c k d a j fr σ hs = some (P, .exc x)) (hp : okL P) : Wh c d a j fr σ (.exc x) := whk_exc (snd_run (tok B) k) h hp
end
section
inductive Sup (c : Cx) where
  | b {b v : Bool} (h : b = v)
  | x {o : Option Dat} {v : Dat} (h : o = some v)
  | xs (w : Bool) {o : Option Str} {u : Str} (h : o = some u)
  | s (w : Bool) {t u : Str} (h : t = u) (hl : t.length ≤ 100000)
  | f (w : Bool) {t u : Str} {i j : Int} (h : Txt.find3 t u i = j)
  | call (ix : List Nat) {n : Nat} {f : Addr} {vs : List SV} {σ : St} {r : CR} (h : CallOk c n f vs σ r)
  | st {n : Nat} {se : SE} {stm : Stmt} {σ : St} {r : SR} (h : StOk c n se stm σ r)
  | eq {q b v : Bool} (hq : q = true) (h : b = v)
  | o {p : Prop} (h : p)
variable {c : Cx}
noncomputable def hsO : List (Sup c) → List Hint
  | [] => []
  | @Sup.b _ _ v _ :: l => .b v :: hsO l
  | @Sup.x _ _ v _ :: l => .x v :: hsO l
  | @Sup.xs _ w _ u _ :: l => .x (.str w u) :: hsO l
  | @Sup.s _ w _ u _ _ :: l => .x (.str w u) :: hsO l
  | @Sup.f _ w _ _ _ j _ :: l => .x (.int w j) :: hsO l
  | @Sup.call _ ix n _ _ _ r _ :: l => .call ix n r :: hsO l
  | @Sup.st _ n _ _ _ r _ :: l => .st n r :: hsO l
  | @Sup.eq _ _ _ v _ _ :: l => .eq v :: hsO l
  | .o _ :: l => hsO l
noncomputable def psO : List (Sup c) → List Prop
  | [] => []
  | @Sup.b _ b v _ :: l => (b = v) :: psO l
  | @Sup.x _ o v _ :: l => (o = some v) :: psO l
  | @Sup.xs _ _ o u _ :: l => (o = some u) :: psO l
  | @Sup.s _ _ t u _ _ :: l => (t = u) :: (t.length ≤ 100000) :: psO l
  | @Sup.f _ _ t u i j _ :: l => (Txt.find3 t u i = j) :: psO l
  | @Sup.call _ _ n f vs σ r _ :: l => CallOk c n f vs σ r :: psO l
  | @Sup.st _ n se stm σ r _ :: l => StOk c n se stm σ r :: psO l
  | @Sup.eq _ q b v _ _ :: l => (q = true) :: (b = v) :: psO l
  | @Sup.o _ p _ :: l => p :: psO l
theorem psO_ok : ∀ l : List (Sup c), okL (psO l)
  | [] => trivial
  | .b h :: l => ⟨h, psO_ok l⟩
  | .x h :: l => ⟨h, psO_ok l⟩
  | .xs _ h :: l => ⟨h, psO_ok l⟩
  | .s _ h hl :: l => ⟨h, hl, psO_ok l⟩
  | .f _ h :: l => ⟨h, psO_ok l⟩
  | .call _ h :: l => ⟨h, psO_ok l⟩
  | .st h :: l => ⟨h, psO_ok l⟩
  | .eq hq h :: l => ⟨hq, h, psO_ok l⟩
  | .o h :: l => ⟨h, psO_ok l⟩
section
variable {mg mb : Str → Option Value} (B : Base c.w c.h₀ mg mb) {k d n : Nat} {a : Addr} {vs : List SV} {σ σ' σ1 : St} {v : SV} {x : Exn}
include B
theorem cV (l : List (Sup c)) (h : fin n (callR c k d a vs σ (hsO l)) = some (psO l, v, σ')) (hn : σ.length ≤ n) : CallOk c d a vs σ (.ok v σ') := callV B h (psO_ok l) hn
theorem cv (l : List (Sup c)) (h : fin σ.length (callR c 100 d a vs σ (hsO l)) = some (psO l, v, σ') := by kernel_rfl) : CallOk c d a vs σ (.ok v σ') := callV B h (psO_ok l) (Nat.le_refl _)
theorem cx (l : List (Sup c)) (h : finX (callR c 100 d a vs σ (hsO l)) = some (psO l, x) := by kernel_rfl) : CallOk c d a vs σ (.exc x) := callX B h (psO_ok l)
theorem cX (l : List (Sup c)) (h : finX (callR c k d a vs σ (hsO l)) = some (psO l, x)) : CallOk c d a vs σ (.exc x) := callX B h (psO_ok l)
theorem wG {j fr : Nat} {r : SR} (l : List (Sup c)) (h : turnR c k d a j fr σ (hsO l) = some (psO l, .ok none ⟨σ1, []⟩)) (kk : Wh c d a j fr σ1 r) : Wh c d a j fr σ r := wh_go B h (psO_ok l) kk
theorem wE {j fr : Nat} (l : List (Sup c)) (h : turnR c k d a j fr σ (hsO l) = some (psO l, .ok (some .next) ⟨σ1, []⟩)) : Wh c d a j fr σ (.ok none σ1) := wh_end B h (psO_ok l)
theorem wX {j fr : Nat} (l : List (Sup c)) (h : turnR c k d a j fr σ (hsO l) = some (psO l, .exc x)) : Wh c d a j fr σ (.exc x) := wh_exc B h (psO_ok l)
end
theorem dT {p : Prop} [Decidable p] (h : p) : decide p = true := decide_eq_true h
theorem dF {p : Prop} [Decidable p] (h : ¬p) : decide p = false := decide_eq_false h
end
noncomputable def s_0 : Str := ⟨#[]⟩
noncomputable def s_Ab_1 : Str := ⟨#[65, 98, 95, 49]⟩
noncomputable def s_Key : Str := ⟨#[75, 101, 121]⟩
noncomputable def s_NULL : Str := ⟨#[78, 85, 76, 76]⟩
noncomputable def s_abort : Str := ⟨#[97, 98, 111, 114, 116]⟩
noncomputable def s_binary : Str := ⟨#[98, 105, 110, 97, 114, 121]⟩
noncomputable def s_blob : Str := ⟨#[98, 108, 111, 98]⟩
noncomputable def s_column : Str := ⟨#[99, 111, 108, 117, 109, 110]⟩
noncomputable def s_depth : Str := ⟨#[100, 101, 112, 116, 104]⟩
noncomputable def s_fail : Str := ⟨#[102, 97, 105, 108]⟩
noncomputable def s_ignore : Str := ⟨#[105, 103, 110, 111, 114, 101]⟩
noncomputable def s_integer : Str := ⟨#[105, 110, 116, 101, 103, 101, 114]⟩
noncomputable def s_left : Str := ⟨#[108, 101, 102, 116]⟩
noncomputable def s_literal : Str := ⟨#[108, 105, 116, 101, 114, 97, 108]⟩
noncomputable def s_name : Str := ⟨#[110, 97, 109, 101]⟩
noncomputable def s_null : Str := ⟨#[110, 117, 108, 108]⟩
noncomputable def s_op : Str := ⟨#[111, 112]⟩
noncomputable def s_place : Str := ⟨#[112, 108, 97, 99, 101]⟩
noncomputable def s_replace : Str := ⟨#[114, 101, 112, 108, 97, 99, 101]⟩
noncomputable def s_right : Str := ⟨#[114, 105, 103, 104, 116]⟩
noncomputable def s_rollback : Str := ⟨#[114, 111, 108, 108, 98, 97, 99, 107]⟩
noncomputable def s_select : Str := ⟨#[115, 101, 108, 101, 99, 116]⟩
noncomputable def s_source : Str := ⟨#[115, 111, 117, 114, 99, 101]⟩
noncomputable def s_t : Str := ⟨#[116]⟩
noncomputable def s_table : Str := ⟨#[116, 97, 98, 108, 101]⟩
noncomputable def s_text : Str := ⟨#[116, 101, 120, 116]⟩
noncomputable def s_value : Str := ⟨#[118, 97, 108, 117, 101]⟩
noncomputable def x_20 : Str := ⟨#[32]⟩
noncomputable def x_204f52204641494c : Str := ⟨#[32, 79, 82, 32, 70, 65, 73, 76]⟩
noncomputable def x_204f522049474e4f5245 : Str := ⟨#[32, 79, 82, 32, 73, 71, 78, 79, 82, 69]⟩
noncomputable def x_204f52205245504c414345 : Str := ⟨#[32, 79, 82, 32, 82, 69, 80, 76, 65, 67, 69]⟩
noncomputable def x_204f5220524f4c4c4241434b : Str := ⟨#[32, 79, 82, 32, 82, 79, 76, 76, 66, 65, 67, 75]⟩
noncomputable def x_22397822 : Str := ⟨#[34, 57, 120, 34]⟩
noncomputable def x_224b657922 : Str := ⟨#[34, 75, 101, 121, 34]⟩
noncomputable def x_2261206222 : Str := ⟨#[34, 97, 32, 98, 34]⟩
noncomputable def x_227122227222 : Str := ⟨#[34, 113, 34, 34, 114, 34]⟩
noncomputable def x_227265706c61636522 : Str := ⟨#[34, 114, 101, 112, 108, 97, 99, 101, 34]⟩
noncomputable def x_2273656c65637422 : Str := ⟨#[34, 115, 101, 108, 101, 99, 116, 34]⟩
noncomputable def x_2727 : Str := ⟨#[39, 39]⟩
noncomputable def x_2761226227 : Str := ⟨#[39, 97, 34, 98, 39]⟩
noncomputable def x_27697427277327 : Str := ⟨#[39, 105, 116, 39, 39, 115, 39]⟩
noncomputable def x_2b : Str := ⟨#[43]⟩
noncomputable def x_30 : Str := ⟨#[48]⟩
noncomputable def x_37 : Str := ⟨#[55]⟩
noncomputable def x_39323233333732303336383534373735383037 : Str := ⟨#[57, 50, 50, 51, 51, 55, 50, 48, 51, 54, 56, 53, 52, 55, 55, 53, 56, 48, 55]⟩
noncomputable def x_3978 : Str := ⟨#[57, 120]⟩
noncomputable def x_3d : Str := ⟨#[61]⟩
noncomputable def x_582727 : Str := ⟨#[88, 39, 39]⟩
noncomputable def x_58273030414627 : Str := ⟨#[88, 39, 48, 48, 65, 70, 39]⟩
noncomputable def x_612062 : Str := ⟨#[97, 32, 98]⟩
noncomputable def x_612262 : Str := ⟨#[97, 34, 98]⟩
noncomputable def x_69742773 : Str := ⟨#[105, 116, 39, 115]⟩
noncomputable def x_712272 : Str := ⟨#[113, 34, 114]⟩
noncomputable def x_7c7c : Str := ⟨#[124, 124]⟩
mutual
inductive FD : Dat → Dat → Prop
  | r {x} : FD x x
  | s {y z x} : FD (.str y x) (.str z x)
  | i {y z x} : FD (.int y x) (.int z x)
  | t {l r} : FDs l r → FD (.tup l) (.tup r)
  | l {y z l r} : FDs l r → FD (.lst y l) (.lst z r)
  | n {C l r} : FDf l r → FD (.inst C l) (.inst C r)
inductive FDs : List Dat → List Dat → Prop
  | n : FDs [] []
  | c {x y l r} : FD x y → FDs l r → FDs (x :: l) (y :: r)
inductive FDf : List (Str × Dat) → List (Str × Dat) → Prop
  | n : FDf [] []
  | c {k x y l r} : FD x y → FDf l r → FDf ((k, x) :: l) ((k, y) :: r)
end
theorem FD.ok {Z : ZH} {x y : Dat} {v : Value} (h : FD x y) (r : VD Z x v) : VD Z y v :=
  FD.rec (motive_1 := fun x y _ => ∀ v, VD Z x v → VD Z y v) (motive_2 := fun l r _ => ∀ vs, VDs Z l vs → VDs Z r vs) (motive_3 := fun l r _ => ∀ es, VDf Z l es → VDf Z r es)
    (fun _ h => h) (fun _ h => by obtain ⟨_, rfl⟩ := h.i; exact .str) (fun _ h => by obtain ⟨_, rfl⟩ := h.i; exact .int)
    (fun _ ih _ h => by obtain ⟨a, xs, ep, g, vs, rfl⟩ := h.i; exact .tup g (ih _ vs)) (fun _ ih _ h => by obtain ⟨a, xs, ep, g, vs, rfl⟩ := h.i; exact .lst g (ih _ vs)) (fun _ ih _ h => by obtain ⟨x, dx, es, n, g, g2, v, rfl⟩ := h.i; exact .inst g g2 (ih _ v))
    (fun _ h => h) (fun _ _ i j _ h => by cases h with | cons x y => exact .cons (i _ x) (j _ y)) (fun _ h => h) (fun _ _ i j _ h => by cases h with | cons x y => exact .cons (i _ x) (j _ y)) h v r
theorem FDs.ok {Z : ZH} : ∀ {x y v}, FDs x y → VDs Z x v → VDs Z y v := by
  intro x
  induction x with
  | nil => intro y v h r; cases h; exact r
  | cons a l ih => intro y v h r; cases h with | c p q => cases r with | cons x y => exact .cons (p.ok x) (ih q y)
theorem FDf.ok {Z : ZH} : ∀ {x y v}, FDf x y → VDf Z x v → VDf Z y v := by
  intro x
  induction x with
  | nil => intro y v h r; cases h; exact r
  | cons a l ih => intro y v h r; cases h with | c p q => cases r with | cons x y => exact .cons (p.ok x) (ih q y)
inductive FV : SV → SV → Prop
  | r {v} : FV v v
  | d {x y} : FD x y → FV (.d x) (.d y)
inductive FVs : List SV → List SV → Prop
  | n : FVs [] []
  | c {x y l r} : FV x y → FVs l r → FVs (x :: l) (y :: r)
theorem FV.ok {W : Wd} {x y : SV} {v : Value} (h : FV x y) (r : VR W x v) : VR W y v := by
  cases h with
  | r => exact r
  | d h => cases r with | d r => exact .d (h.ok r)
theorem FVs.ok {W : Wd} {x y : List SV} {v : List Value} (h : FVs x y) : VRs W x v → VRs W y v := by
  induction h generalizing v with
  | n => exact id
  | c a _ ih => intro r; cases r with | cons x y => exact .cons (a.ok x) (ih y)
section
variable {c : Cx} {n : Nat} {f : Addr} {vs vs' : List SV} {σ σ' : St} {v v' : SV} {r : CR}
theorem CallOk.fl (h : CallOk c n f vs σ (.ok v σ')) (q : FV v v') : CallOk c n f vs σ (.ok v' σ') :=
  fun p W sh as A I R Rr z => h p W sh as A I R Rr fun sh' W' x S I' R' r => z sh' W' x S I' R' (q.ok r)
theorem CallOk.ar (h : CallOk c n f vs σ r) (q : FVs vs' vs) : CallOk c n f vs' σ r :=
  fun p W sh as A I R Rr z => h p W sh as A I (q.ok R) Rr z
end
noncomputable abbrev sd (x : Str) : SV := .d (.str false x)
noncomputable abbrev sy (x : Str) : SV := .d (.str true x)
noncomputable abbrev nN : SV := .d .none
noncomputable abbrev bo (b : Bool) : SV := .d (.bool b)
noncomputable abbrev ni (i : Int) : SV := .d (.int false i)
noncomputable abbrev yi (i : Int) : SV := .d (.int true i)
inductive Nm where
  | t | ab | sp | qr | n9 | sel | key | rep
noncomputable def Nm.s : Nm → Str
  | .t => s_t | .ab => s_Ab_1 | .sp => x_612062 | .qr => x_712272 | .n9 => x_3978 | .sel => s_select | .key => s_Key | .rep => s_replace
noncomputable def Nm.w : Nm → Str
  | .t => s_t | .ab => s_Ab_1 | .sp => x_2261206222 | .qr => x_227122227222 | .n9 => x_22397822 | .sel => x_2273656c65637422 | .key => x_224b657922 | .rep => x_227265706c61636522
inductive At where
  | nul | n0 | n7 | ng | t1 | t2 | t3 | b1 | b2 | nam (n : Nm)
noncomputable def At.c : At → Addr
  | .nam _ => 116
  | _ => 90
noncomputable def At.v : At → Dat
  | .nul => .none | .n0 => .int false 0 | .n7 => .int false 7 | .ng => .int false 9223372036854775807
  | .t1 => .str false x_69742773 | .t2 => .str false s_0 | .t3 => .str false x_612262
  | .b1 => .byt #[0, 175] | .b2 => .byt #[]
  | .nam n => .str false n.s
noncomputable def At.f : At → List (Str × Dat)
  | .nam n => [(s_table, .none), (s_column, .str false n.s), (s_source, .none), (s_place, .none), (s_depth, .int false 0)]
  | a => [(s_value, a.v)]
noncomputable def At.w : At → Str
  | .nul => s_NULL | .n0 => x_30 | .n7 => x_37 | .ng => x_39323233333732303336383534373735383037
  | .t1 => x_27697427277327 | .t2 => x_2727 | .t3 => x_2761226227
  | .b1 => x_58273030414627 | .b2 => x_582727
  | .nam n => n.w
noncomputable def At.r : At → List Dat
  | .nam n => [.str false s_name, .none, .str false n.s]
  | .nul => [.str false s_literal, .str false s_null, .none]
  | .n0 => [.str false s_literal, .str false s_integer, .int false 0]
  | .n7 => [.str false s_literal, .str false s_integer, .int false 7]
  | .ng => [.str false s_literal, .str false s_integer, .int false 9223372036854775807]
  | .b1 => [.str false s_literal, .str false s_blob, .byt #[0, 175]]
  | .b2 => [.str false s_literal, .str false s_blob, .byt #[]]
  | a => [.str false s_literal, .str false s_text, a.v]
noncomputable abbrev At.d (a : At) : Dat := .inst a.c a.f
inductive Sg where
  | pl | cc | eq
noncomputable def Sg.t : Sg → Str
  | .pl => x_2b | .cc => x_7c7c | .eq => x_3d
inductive Va where
  | one (a : At) | bin (s : Sg) (a b : At)
noncomputable def Va.c : Va → Addr
  | .one a => a.c
  | .bin .. => 194
noncomputable def Va.f : Va → List (Str × Dat)
  | .one a => a.f
  | .bin s a b => [(s_op, .str false s.t), (s_left, a.d), (s_right, b.d)]
noncomputable def Va.r : Va → List Dat
  | .one a => a.r
  | .bin s a b => [.str false s_binary, .str false s.t, .tup a.r, .tup b.r]
noncomputable def Va.w : Va → Str
  | .one a => a.w
  | .bin s a b => a.w ++ x_20 ++ s.t ++ x_20 ++ b.w
noncomputable abbrev Va.d (v : Va) : Dat := .inst v.c v.f
inductive Cf where
  | ab | ro | fa | ig | re
noncomputable def Cf.s : Cf → Str
  | .ab => s_abort | .ro => s_rollback | .fa => s_fail | .ig => s_ignore | .re => s_replace
noncomputable def Cf.w : Cf → Str
  | .ab => s_0 | .ro => x_204f5220524f4c4c4241434b | .fa => x_204f52204641494c | .ig => x_204f522049474e4f5245 | .re => x_204f52205245504c414345
noncomputable def Vs (b : Int) : Prop := 0 ≤ b ∧ b < 2147483647
noncomputable abbrev src (a b : Int) : En := .lst [.int true a, .int true b]
inductive DwO (c : Cx) (n : Nat) (f : Addr) (vs : List SV) (ok : SV → Prop) (a b : Int) : Prop
  | mk (v : SV) (a' b' : Int) (h : Vs b') (k : ok v) (q : CallOk c n f vs [src a b] (.ok v [src a' b']))
noncomputable def Dw (c : Cx) (n : Nat) (f : Addr) (vs : List SV) (ok : SV → Prop) : Prop := ∀ a b, Vs b → DwO c n f vs ok a b
theorem imod_lt {a m : Int} (h : 0 < m) : 0 ≤ a % m ∧ a % m < m := ⟨Int.emod_nonneg a (by omega), Int.emod_lt_of_pos a h⟩
theorem bits_of {a : Int} (h : 0 ≤ a) (h2 : a < 2 ^ 64) : Builtin.Int.intBits a ≤ 64 := by
  refine PySem.intBits_le_iff.mpr ?_
  omega
section
variable {c : Cx} {mg mb : Str → Option Value} (B : Base c.w c.h₀ mg mb)
include B
theorem takeD (top : Int) (h : 0 < top) (h2 : top < 2 ^ 60) : Dw c 8 1311 [.lst 0, yi top] (fun v => ∃ k : Int, 0 ≤ k ∧ k < top ∧ v = ni k) := by
  intro a b hb
  cases hd : decide (a > 0) with
  | true =>
    refine ⟨ni (a % top), a / top, b, hb, ⟨_, (imod_lt h).1, (imod_lt h).2, rfl⟩, CallOk.fl (v := yi (a % top)) ?_ (.d .i)⟩
    exact cv B [.b hd, .o (And.intro h h2), .o (And.intro h h2)]
  | false =>
    have hm := imod_lt (a := b * 39373 + 7) (m := 2147483647) (by decide)
    refine ⟨ni (((b * 39373 + 7) % 2147483647 * ((b * 39373 + 7) % 2147483647)) % 2147483629 / 32 % top), a, (b * 39373 + 7) % 2147483647, hm, ⟨_, (imod_lt h).1, (imod_lt h).2, rfl⟩, CallOk.fl (v := yi _) ?_ (.d .i)⟩
    exact cv B [.b hd, .o (IntMulOk.of_left (bits_of hb.1 (by have := hb.2; omega)) : IntMulOk b 39373), .o (IntMulOk.of_left (bits_of hm.1 (by have := hm.2; omega)) : IntMulOk ((b * 39373 + 7) % 2147483647) ((b * 39373 + 7) % 2147483647)), .o (And.intro h h2)]
end
noncomputable def x_20574845524520 : Str := ⟨#[32, 87, 72, 69, 82, 69, 32]⟩
noncomputable def hO {c : Cx} (n : Nat) (h : Nat.ble n 100000 = true := by rfl) : Sup c := .o (p := n ≤ 100000) (Nat.le_of_ble_eq_true h)
theorem sl_app (a b : Str) : (a ++ b).length = a.length + b.length := PySem.Str.length_append a b
theorem Nm.wl (n : Nm) : n.w.length ≤ 20 := by cases n <;> decide
theorem Nm.sl (n : Nm) : n.s.length ≤ 20 := by cases n <;> decide
theorem At.wl (a : At) : a.w.length ≤ 20 := by cases a <;> first | decide | exact Nm.wl _
theorem Sg.tl (s : Sg) : s.t.length ≤ 2 := by cases s <;> decide
theorem Cf.wl (w : Cf) : w.w.length ≤ 20 := by cases w <;> decide
noncomputable def sz {c : Cx} {u : Str} (h : u.length ≤ 100000) : Sup c := .o h
noncomputable def Bd (k : Nat) (s : Str) : Prop := s.length ≤ k * 50
theorem Bd.a {j k : Nat} {s t : Str} (x : Bd j s) (y : Bd k t) : Bd (j + k) (s ++ t) := by unfold Bd; rw [sl_app, Nat.add_mul]; exact Nat.add_le_add x y
theorem bL (s : Str) (h : Nat.ble s.length 50 = true := by rfl) : Bd 1 s := Nat.le_of_ble_eq_true h
theorem Bd.z {k : Nat} {s : Str} (h : Bd k s) (q : Nat.ble k 2000 = true) : s.length ≤ 100000 := Nat.le_trans h (Nat.mul_le_mul_right 50 (Nat.le_of_ble_eq_true q))
theorem Va.wl (v : Va) : v.w.length ≤ 50 := by
  cases v with
  | one a => exact Nat.le_trans a.wl (by decide)
  | bin s a b =>
    show (a.w ++ x_20 ++ s.t ++ x_20 ++ b.w).length ≤ _
    rw [sl_app, sl_app, sl_app, sl_app]
    exact Nat.le_trans (Nat.add_le_add (Nat.add_le_add (Nat.add_le_add (Nat.add_le_add a.wl (Nat.le_refl 1)) s.tl) (Nat.le_refl 1)) b.wl) (by decide)
theorem Nm.bd (n : Nm) : Bd 1 n.w := Nat.le_trans n.wl (by decide)
theorem At.bd (n : At) : Bd 1 n.w := Nat.le_trans n.wl (by decide)
theorem Cf.bd (n : Cf) : Bd 1 n.w := Nat.le_trans n.wl (by decide)
theorem Va.bd (n : Va) : Bd 1 n.w := Nat.le_trans n.wl (by decide)
theorem Sg.bd (s : Sg) : Bd 1 s.t := Nat.le_trans s.tl (by decide)
theorem bJ1 {k : Nat} (s : Str) {a : Str} (x : Bd k a) : Bd k (Txt.join s [a]) := x
theorem bJ2 {i j k : Nat} {s a b : Str} (x : Bd i a) (y : Bd j s) (z : Bd k b) : Bd (i + j + k) (Txt.join s [a, b]) := (x.a y).a z
theorem jb1 {j k : Nat} {s a : Str} (x : Bd j a) (y : Bd k s) (q : Nat.ble (j + k) 2000 = true) : ([a].map (·.length)).sum + [a].length * s.length ≤ 16777216 := by
  have := (x.a y).z q
  rw [sl_app] at this
  simp; omega
theorem jb2 {i j k : Nat} {s a b : Str} (x : Bd i a) (y : Bd j s) (z : Bd k b) (q : Nat.ble (i + j + j + k) 2000 = true) : ([a, b].map (·.length)).sum + [a, b].length * s.length ≤ 16777216 := by
  have := (((x.a y).a y).a z).z q
  rw [sl_app, sl_app, sl_app] at this
  simp; omega
noncomputable def sb {c : Cx} {k : Nat} {u : Str} (h : Bd k u) (q : Nat.ble k 2000 = true := by rfl) : Sup c := .o (h.z q)
inductive PB where
  | p (k : Nat) (s : Str) (h : Bd k s)
noncomputable abbrev P {k : Nat} {s : Str} (h : Bd k s) : PB := .p k s h
noncomputable def PB.k : PB → Nat
  | .p k _ _ => k
noncomputable def PB.ok : Nat → List PB → Bool
  | _, [] => true
  | n, b :: l => Nat.ble (n + b.k) 2000 && PB.ok (n + b.k) l
noncomputable def szG {c : Cx} : (l : List PB) → {k : Nat} → {a : Str} → Bd k a → PB.ok k l = true → List (Sup c)
  | [], _, _, _, _ => []
  | .p _ _ h :: l, _, _, x, q => .o ((x.a h).z (Bool.and_eq_true_iff.mp q).1) :: szG l (x.a h) (Bool.and_eq_true_iff.mp q).2
noncomputable def szB {c : Cx} {k : Nat} {a : Str} (x : Bd k a) (l : List PB) (q : PB.ok k l = true := by rfl) : List (Sup c) := szG l x q
theorem lsp : (x_20 : Str).length = 1 := rfl
theorem lwh : (x_20574845524520 : Str).length = 7 := rfl
theorem ltt : (x_2b : Str).length = 1 ∧ (x_7c7c : Str).length = 2 ∧ (x_3d : Str).length = 1 := ⟨rfl, rfl, rfl⟩
noncomputable def oD : Option Va → Dat
  | none => .none
  | some v => v.d
noncomputable def oW : Option Va → Str
  | none => s_0
  | some v => x_20574845524520 ++ v.w
theorem oW.bd (o : Option Va) : Bd 2 (oW o) := by
  cases o with
  | none => exact Nat.zero_le _
  | some v => exact (bL x_20574845524520).a v.bd
theorem lt2 {k : Int} (h : 0 ≤ k) (q : k < 2) : k = 0 ∨ k = 1 := by omega
theorem lt_s {k : Int} {n : Nat} (q : k < ((n + 1 : Nat) : Int)) : k < (n : Int) ∨ k = (n : Int) := by omega
theorem lt3 {k : Int} (h : 0 ≤ k) (q : k < 3) : k = 0 ∨ k = 1 ∨ k = 2 := (lt_s (n := 2) q).elim (fun q => (lt2 h q).imp id .inl) fun q => .inr (.inr q)
theorem lt4 {k : Int} (h : 0 ≤ k) (q : k < 4) : k = 0 ∨ k = 1 ∨ k = 2 ∨ k = 3 := (lt_s (n := 3) q).elim (fun q => (lt3 h q).imp id (.imp id .inl)) fun q => .inr (.inr (.inr q))
theorem lt5 {k : Int} (h : 0 ≤ k) (q : k < 5) : k = 0 ∨ k = 1 ∨ k = 2 ∨ k = 3 ∨ k = 4 := (lt_s (n := 4) q).elim (fun q => (lt4 h q).imp id (.imp id (.imp id .inl))) fun q => .inr (.inr (.inr (.inr q)))
theorem lt6 {k : Int} (h : 0 ≤ k) (q : k < 6) : k = 0 ∨ k = 1 ∨ k = 2 ∨ k = 3 ∨ k = 4 ∨ k = 5 := (lt_s (n := 5) q).elim (fun q => (lt5 h q).imp id (.imp id (.imp id (.imp id .inl)))) fun q => .inr (.inr (.inr (.inr (.inr q))))
theorem lt7 {k : Int} (h : 0 ≤ k) (q : k < 7) : k = 0 ∨ k = 1 ∨ k = 2 ∨ k = 3 ∨ k = 4 ∨ k = 5 ∨ k = 6 := (lt_s (n := 6) q).elim (fun q => (lt6 h q).imp id (.imp id (.imp id (.imp id (.imp id .inl))))) fun q => .inr (.inr (.inr (.inr (.inr (.inr q)))))
theorem lt8 {k : Int} (h : 0 ≤ k) (q : k < 8) : k = 0 ∨ k = 1 ∨ k = 2 ∨ k = 3 ∨ k = 4 ∨ k = 5 ∨ k = 6 ∨ k = 7 := (lt_s (n := 7) q).elim (fun q => (lt7 h q).imp id (.imp id (.imp id (.imp id (.imp id (.imp id .inl)))))) fun q => .inr (.inr (.inr (.inr (.inr (.inr (.inr q))))))
section
variable {c : Cx} {mg mb : Str → Option Value} (B : Base c.w c.h₀ mg mb)
include B
theorem takeN (top : Int) (h : 0 < top) (h2 : top < 2 ^ 60) : Dw c 8 1311 [.lst 0, ni top] (fun v => ∃ k : Int, 0 ≤ k ∧ k < top ∧ v = ni k) := fun a b hb =>
  let ⟨v, a', b', hb', hv, q⟩ := takeD B top h h2 a b hb
  ⟨v, a', b', hb', hv, q.ar (.c .r (.c (.d .i) .n))⟩
theorem nameD : Dw c 20 1325 [.lst 0] (fun v => ∃ n : Nm, v = .d (.tup [.str false n.s, .str true n.w])) := by
  intro a b hb
  obtain ⟨_, a', b', hb', ⟨k, k0, k8, rfl⟩, h⟩ := takeN B 8 (by decide) (by decide) a b hb
  have f : ∀ {x y}, FV (.d (.tup [.str false x, .str false y])) (.d (.tup [.str false x, .str true y])) := .d (.t (.c .r (.c .s .n)))
  obtain rfl | rfl | rfl | rfl | rfl | rfl | rfl | rfl : k = 0 ∨ k = 1 ∨ k = 2 ∨ k = 3 ∨ k = 4 ∨ k = 5 ∨ k = 6 ∨ k = 7 := lt8 k0 k8
  · exact ⟨_, a', b', hb', ⟨.t, rfl⟩, (cv B [hO 8, hO 8, .call [0] h]).fl f⟩
  · exact ⟨_, a', b', hb', ⟨.ab, rfl⟩, (cv B [hO 8, hO 8, .call [0] h]).fl f⟩
  · exact ⟨_, a', b', hb', ⟨.sp, rfl⟩, (cv B [hO 8, hO 8, .call [0] h]).fl f⟩
  · exact ⟨_, a', b', hb', ⟨.qr, rfl⟩, (cv B [hO 8, hO 8, .call [0] h]).fl f⟩
  · exact ⟨_, a', b', hb', ⟨.n9, rfl⟩, (cv B [hO 8, hO 8, .call [0] h]).fl f⟩
  · exact ⟨_, a', b', hb', ⟨.sel, rfl⟩, (cv B [hO 8, hO 8, .call [0] h]).fl f⟩
  · exact ⟨_, a', b', hb', ⟨.key, rfl⟩, (cv B [hO 8, hO 8, .call [0] h]).fl f⟩
  · exact ⟨_, a', b', hb', ⟨.rep, rfl⟩, (cv B [hO 8, hO 8, .call [0] h]).fl f⟩
theorem confD : Dw c 20 1346 [.lst 0] (fun v => ∃ n : Cf, v = .d (.tup [.str false n.s, .str true n.w])) := by
  intro a b hb
  obtain ⟨_, a', b', hb', ⟨k, k0, k8, rfl⟩, h⟩ := takeN B 5 (by decide) (by decide) a b hb
  have f : ∀ {x y}, FV (.d (.tup [.str false x, .str false y])) (.d (.tup [.str false x, .str true y])) := .d (.t (.c .r (.c .s .n)))
  obtain rfl | rfl | rfl | rfl | rfl : k = 0 ∨ k = 1 ∨ k = 2 ∨ k = 3 ∨ k = 4 := lt5 k0 k8
  · exact ⟨_, a', b', hb', ⟨.ab, rfl⟩, (cv B [hO 5, .call [0] h]).fl f⟩
  · exact ⟨_, a', b', hb', ⟨.ro, rfl⟩, (cv B [hO 5, .call [0] h]).fl f⟩
  · exact ⟨_, a', b', hb', ⟨.fa, rfl⟩, (cv B [hO 5, .call [0] h]).fl f⟩
  · exact ⟨_, a', b', hb', ⟨.ig, rfl⟩, (cv B [hO 5, .call [0] h]).fl f⟩
  · exact ⟨_, a', b', hb', ⟨.re, rfl⟩, (cv B [hO 5, .call [0] h]).fl f⟩
theorem val0 : Dw c 40 1332 [.lst 0, ni 0] (fun v => ∃ x : At, v = .d (.tup [x.d, .str true x.w])) := by
  intro a b hb
  obtain ⟨_, a1, b1, hb1, ⟨k, k0, k8, rfl⟩, h1⟩ := takeN B 5 (by decide) (by decide) a b hb
  have f : ∀ {x y}, FV (.d (.tup [x, .str false y])) (.d (.tup [x, .str true y])) := .d (.t (.c .r (.c .s .n)))
  obtain rfl | rfl | rfl | rfl | rfl : k = 0 ∨ k = 1 ∨ k = 2 ∨ k = 3 ∨ k = 4 := lt5 k0 k8
  · exact ⟨_, a1, b1, hb1, ⟨.nul, rfl⟩, (cv B [.call [0] h1]).fl f⟩
  · obtain ⟨_, a2, b2, hb2, ⟨k, k0, k8, rfl⟩, h2⟩ := takeN B 3 (by decide) (by decide) a1 b1 hb1
    obtain rfl | rfl | rfl : k = 0 ∨ k = 1 ∨ k = 2 := lt3 k0 k8
    · exact ⟨_, a2, b2, hb2, ⟨.n0, rfl⟩, (cv B [.call [0] h1, hO 3, .call [0] h2]).fl f⟩
    · exact ⟨_, a2, b2, hb2, ⟨.n7, rfl⟩, (cv B [.call [0] h1, hO 3, .call [0] h2]).fl f⟩
    · exact ⟨_, a2, b2, hb2, ⟨.ng, rfl⟩, (cv B [.call [0] h1, hO 3, .call [0] h2]).fl f⟩
  · obtain ⟨_, a2, b2, hb2, ⟨k, k0, k8, rfl⟩, h2⟩ := takeN B 3 (by decide) (by decide) a1 b1 hb1
    obtain rfl | rfl | rfl : k = 0 ∨ k = 1 ∨ k = 2 := lt3 k0 k8
    · exact ⟨_, a2, b2, hb2, ⟨.t1, rfl⟩, (cv B [.call [0] h1, hO 3, .call [0] h2]).fl f⟩
    · exact ⟨_, a2, b2, hb2, ⟨.t2, rfl⟩, (cv B [.call [0] h1, hO 3, .call [0] h2]).fl f⟩
    · exact ⟨_, a2, b2, hb2, ⟨.t3, rfl⟩, (cv B [.call [0] h1, hO 3, .call [0] h2]).fl f⟩
  · obtain ⟨_, a2, b2, hb2, ⟨k, k0, k8, rfl⟩, h2⟩ := takeN B 2 (by decide) (by decide) a1 b1 hb1
    obtain rfl | rfl : k = 0 ∨ k = 1 := lt2 k0 k8
    · exact ⟨_, a2, b2, hb2, ⟨.b1, rfl⟩, (cv B [.call [0] h1, hO 2, .call [0] h2]).fl f⟩
    · exact ⟨_, a2, b2, hb2, ⟨.b2, rfl⟩, (cv B [.call [0] h1, hO 2, .call [0] h2]).fl f⟩
  · obtain ⟨_, a2, b2, hb2, ⟨n, rfl⟩, h2⟩ := nameD B a1 b1 hb1
    exact ⟨_, a2, b2, hb2, ⟨(.nam n), rfl⟩, (cv B [.call [0] h1, .call [0] h2])⟩
theorem val1 : Dw c 60 1332 [.lst 0, ni 1] (fun v => ∃ x : Va, v = .d (.tup [x.d, .str true x.w])) := by
  intro a b hb
  obtain ⟨_, a1, b1, hb1, ⟨k, k0, k8, rfl⟩, h1⟩ := takeN B 7 (by decide) (by decide) a b hb
  have f : ∀ {x y}, FV (.d (.tup [x, .str false y])) (.d (.tup [x, .str true y])) := .d (.t (.c .r (.c .s .n)))
  obtain rfl | rfl | rfl | rfl | rfl | rfl | rfl : k = 0 ∨ k = 1 ∨ k = 2 ∨ k = 3 ∨ k = 4 ∨ k = 5 ∨ k = 6 := lt7 k0 k8
  · exact ⟨_, a1, b1, hb1, ⟨.one .nul, rfl⟩, (cv B [.call [0] h1]).fl f⟩
  · obtain ⟨_, a2, b2, hb2, ⟨k, k0, k8, rfl⟩, h2⟩ := takeN B 3 (by decide) (by decide) a1 b1 hb1
    obtain rfl | rfl | rfl : k = 0 ∨ k = 1 ∨ k = 2 := lt3 k0 k8
    · exact ⟨_, a2, b2, hb2, ⟨.one .n0, rfl⟩, (cv B [.call [0] h1, hO 3, .call [0] h2]).fl f⟩
    · exact ⟨_, a2, b2, hb2, ⟨.one .n7, rfl⟩, (cv B [.call [0] h1, hO 3, .call [0] h2]).fl f⟩
    · exact ⟨_, a2, b2, hb2, ⟨.one .ng, rfl⟩, (cv B [.call [0] h1, hO 3, .call [0] h2]).fl f⟩
  · obtain ⟨_, a2, b2, hb2, ⟨k, k0, k8, rfl⟩, h2⟩ := takeN B 3 (by decide) (by decide) a1 b1 hb1
    obtain rfl | rfl | rfl : k = 0 ∨ k = 1 ∨ k = 2 := lt3 k0 k8
    · exact ⟨_, a2, b2, hb2, ⟨.one .t1, rfl⟩, (cv B [.call [0] h1, hO 3, .call [0] h2]).fl f⟩
    · exact ⟨_, a2, b2, hb2, ⟨.one .t2, rfl⟩, (cv B [.call [0] h1, hO 3, .call [0] h2]).fl f⟩
    · exact ⟨_, a2, b2, hb2, ⟨.one .t3, rfl⟩, (cv B [.call [0] h1, hO 3, .call [0] h2]).fl f⟩
  · obtain ⟨_, a2, b2, hb2, ⟨k, k0, k8, rfl⟩, h2⟩ := takeN B 2 (by decide) (by decide) a1 b1 hb1
    obtain rfl | rfl : k = 0 ∨ k = 1 := lt2 k0 k8
    · exact ⟨_, a2, b2, hb2, ⟨.one .b1, rfl⟩, (cv B [.call [0] h1, hO 2, .call [0] h2]).fl f⟩
    · exact ⟨_, a2, b2, hb2, ⟨.one .b2, rfl⟩, (cv B [.call [0] h1, hO 2, .call [0] h2]).fl f⟩
  · obtain ⟨_, a2, b2, hb2, ⟨n, rfl⟩, h2⟩ := nameD B a1 b1 hb1
    exact ⟨_, a2, b2, hb2, ⟨.one (.nam n), rfl⟩, (cv B [.call [0] h1, .call [0] h2])⟩
  all_goals
    obtain ⟨_, a2, b2, hb2, ⟨x, rfl⟩, h2⟩ := val0 B a1 b1 hb1
    obtain ⟨_, a3, b3, hb3, ⟨y, rfl⟩, h3⟩ := val0 B a2 b2 hb2
    obtain ⟨_, a4, b4, hb4, ⟨k, k0, k8, rfl⟩, h4⟩ := takeN B 3 (by decide) (by decide) a3 b3 hb3
    obtain rfl | rfl | rfl : k = 0 ∨ k = 1 ∨ k = 2 := lt3 k0 k8
    · exact ⟨_, a4, b4, hb4, ⟨.bin .pl x y, rfl⟩, (cv B [.call [0] h1, .call [0] h2, .call [0] h3, hO 3, .call [0] h4, sb (x.bd.a (bL x_20)), sb ((x.bd.a (bL x_20)).a (bL x_2b)), sb (((x.bd.a (bL x_20)).a (bL x_2b)).a (bL x_20)), sb ((((x.bd.a (bL x_20)).a (bL x_2b)).a (bL x_20)).a y.bd)])⟩
    · exact ⟨_, a4, b4, hb4, ⟨.bin .cc x y, rfl⟩, (cv B [.call [0] h1, .call [0] h2, .call [0] h3, hO 3, .call [0] h4, sb (x.bd.a (bL x_20)), sb ((x.bd.a (bL x_20)).a (bL x_7c7c)), sb (((x.bd.a (bL x_20)).a (bL x_7c7c)).a (bL x_20)), sb ((((x.bd.a (bL x_20)).a (bL x_7c7c)).a (bL x_20)).a y.bd)])⟩
    · exact ⟨_, a4, b4, hb4, ⟨.bin .eq x y, rfl⟩, (cv B [.call [0] h1, .call [0] h2, .call [0] h3, hO 3, .call [0] h4, sb (x.bd.a (bL x_20)), sb ((x.bd.a (bL x_20)).a (bL x_3d)), sb (((x.bd.a (bL x_20)).a (bL x_3d)).a (bL x_20)), sb ((((x.bd.a (bL x_20)).a (bL x_3d)).a (bL x_20)).a y.bd)])⟩
theorem whereD : Dw c 80 1339 [.lst 0] (fun v => ∃ o : Option Va, v = .d (.tup [oD o, .str true (oW o)])) := by
  intro a b hb
  obtain ⟨_, a1, b1, hb1, ⟨k, k0, k8, rfl⟩, h1⟩ := takeN B 2 (by decide) (by decide) a b hb
  obtain rfl | rfl : k = 0 ∨ k = 1 := lt2 k0 k8
  · exact ⟨_, a1, b1, hb1, ⟨none, rfl⟩, (cv B [.call [0] h1]).fl (.d (.t (.c .r (.c (.s (y := false)) .n))))⟩
  · obtain ⟨_, a2, b2, hb2, ⟨x, rfl⟩, h2⟩ := val1 B a1 b1 hb1
    exact ⟨_, a2, b2, hb2, ⟨some x, rfl⟩, cv B [.call [0] h1, .call [0] h2, sb ((bL x_20574845524520).a x.bd)]⟩
end
noncomputable def s_INSERT : Str := ⟨#[73, 78, 83, 69, 82, 84]⟩
noncomputable def s_UPDATE : Str := ⟨#[85, 80, 68, 65, 84, 69]⟩
noncomputable def s_columns : Str := ⟨#[99, 111, 108, 117, 109, 110, 115]⟩
noncomputable def s_conflict : Str := ⟨#[99, 111, 110, 102, 108, 105, 99, 116]⟩
noncomputable def s_sets : Str := ⟨#[115, 101, 116, 115]⟩
noncomputable def s_where : Str := ⟨#[119, 104, 101, 114, 101]⟩
noncomputable def x_2028 : Str := ⟨#[32, 40]⟩
noncomputable def x_203d20 : Str := ⟨#[32, 61, 32]⟩
noncomputable def x_2044454641554c542056414c554553 : Str := ⟨#[32, 68, 69, 70, 65, 85, 76, 84, 32, 86, 65, 76, 85, 69, 83]⟩
noncomputable def x_20494e544f20 : Str := ⟨#[32, 73, 78, 84, 79, 32]⟩
noncomputable def x_2053455420 : Str := ⟨#[32, 83, 69, 84, 32]⟩
noncomputable def x_29 : Str := ⟨#[41]⟩
noncomputable def x_2c20 : Str := ⟨#[44, 32]⟩
noncomputable def x_44454c4554452046524f4d20 : Str := ⟨#[68, 69, 76, 69, 84, 69, 32, 70, 82, 79, 77, 32]⟩
inductive Co where
  | no | one (n : Nm) | two (n m : Nm)
inductive Se where
  | one (n : Nm) (v : Va) | two (n : Nm) (v : Va) (m : Nm) (u : Va)
inductive Dr where
  | ins (t : Nm) (w : Cf) (o : Co) | upd (t : Nm) (w : Cf) (s : Se) (o : Option Va) | del (t : Nm) (o : Option Va)
noncomputable def Co.d : Co → Dat
  | .no => .none
  | .one n => .lst false [.str false n.s]
  | .two n m => .lst false [.str false n.s, .str false m.s]
noncomputable def Co.w : Co → Str
  | .no => s_0
  | .one n => x_2028 ++ n.w ++ x_29
  | .two n m => x_2028 ++ (n.w ++ x_2c20 ++ m.w) ++ x_29
noncomputable def sp (n : Nm) (v : Va) : Dat := .tup [.str false n.s, v.d]
noncomputable def Se.d : Se → List Dat
  | .one n v => [sp n v]
  | .two n v m u => [sp n v, sp m u]
noncomputable def sw (n : Nm) (v : Va) : Str := n.w ++ x_203d20 ++ v.w
noncomputable def Se.w : Se → Str
  | .one n v => sw n v
  | .two n v m u => sw n v ++ x_2c20 ++ sw m u
noncomputable def Dr.c : Dr → Addr
  | .ins .. => 504 | .upd .. => 528 | .del .. => 554
noncomputable def Dr.f : Dr → List (Str × Dat)
  | .ins t w o => [(s_table, .str false t.s), (s_columns, o.d), (s_select, .none), (s_conflict, .str false w.s)]
  | .upd t w s o => [(s_table, .str false t.s), (s_sets, .lst false s.d), (s_where, oD o), (s_conflict, .str false w.s)]
  | .del t o => [(s_table, .str false t.s), (s_where, oD o)]
noncomputable abbrev Dr.d (x : Dr) : Dat := .inst x.c x.f
noncomputable def iT (t : Nm) (w : Cf) : Str := s_INSERT ++ w.w ++ x_20494e544f20 ++ t.w
noncomputable def Co.l : Co → List Str
  | .no => [] | .one n => [n.w] | .two n m => [n.w, m.w]
noncomputable def Se.l : Se → List Str
  | .one n v => [n.w ++ x_203d20 ++ v.w]
  | .two n v m u => [n.w ++ x_203d20 ++ v.w, m.w ++ x_203d20 ++ u.w]
noncomputable def Dr.w : Dr → Str
  | .ins t w .no => iT t w ++ x_2044454641554c542056414c554553
  | .ins t w o => iT t w ++ x_2028 ++ Txt.join x_2c20 o.l ++ x_29 ++ x_2044454641554c542056414c554553
  | .upd t w s o => s_UPDATE ++ w.w ++ x_20 ++ t.w ++ x_2053455420 ++ Txt.join x_2c20 s.l ++ oW o
  | .del t o => x_44454c4554452046524f4d20 ++ t.w ++ oW o
theorem join1 (s a : Str) : Txt.join s [a] = a := rfl
theorem join2 (s a b : Str) : Txt.join s [a, b] = a ++ s ++ b := rfl
theorem iT.bd (t : Nm) (w : Cf) : Bd 4 (iT t w) := (((bL s_INSERT).a w.bd).a (bL x_20494e544f20)).a t.bd
noncomputable def jk {c : Cx} (s : Str) (l : List Str) (h : (l.map (·.length)).sum + l.length * s.length ≤ 16777216) : Sup c := .o (joinOk_of h)
theorem lens : (s_INSERT : Str).length = 6 ∧ (x_20494e544f20 : Str).length = 6 ∧ (x_2044454641554c542056414c554553 : Str).length = 15 ∧ (x_2028 : Str).length = 2 ∧ (x_29 : Str).length = 1 ∧ (x_2c20 : Str).length = 2 ∧ (s_UPDATE : Str).length = 6 ∧ (x_2053455420 : Str).length = 5 ∧ (x_44454c4554452046524f4d20 : Str).length = 12 ∧ (x_203d20 : Str).length = 3 ∧ (x_20 : Str).length = 1 ∧ (x_20574845524520 : Str).length = 7 ∧ (s_0 : Str).length = 0 := ⟨rfl, rfl, rfl, rfl, rfl, rfl, rfl, rfl, rfl, rfl, rfl, rfl, rfl⟩
theorem oWl (o : Option Va) : (oW o).length ≤ 60 := by
  cases o with
  | none => exact Nat.zero_le _
  | some v => show (x_20574845524520 ++ v.w).length ≤ _; rw [sl_app]; exact Nat.add_le_add (by decide : (x_20574845524520 : Str).length ≤ 10) v.wl
section
variable {c : Cx} {mg mb : Str → Option Value} (B : Base c.w c.h₀ mg mb)
include B
theorem insD : Dw c 100 1351 [.lst 0] (fun v => ∃ t w o, v = .d (.tup [(Dr.ins t w o).d, .str true (Dr.ins t w o).w])) := by
  intro a b hb
  obtain ⟨_, a1, b1, hb1, ⟨t, rfl⟩, h1⟩ := nameD B a b hb
  obtain ⟨_, a2, b2, hb2, ⟨w, rfl⟩, h2⟩ := confD B a1 b1 hb1
  obtain ⟨_, a3, b3, hb3, ⟨k, k0, k8, rfl⟩, h3⟩ := takeN B 2 (by decide) (by decide) a2 b2 hb2
  obtain rfl | rfl : k = 0 ∨ k = 1 := lt2 k0 k8
  · obtain ⟨_, a4, b4, hb4, ⟨k, k0, k8, rfl⟩, h4⟩ := takeN B 2 (by decide) (by decide) a3 b3 hb3
    obtain ⟨_, a5, b5, hb5, ⟨n, rfl⟩, h5⟩ := nameD B a4 b4 hb4
    obtain rfl | rfl : k = 0 ∨ k = 1 := lt2 k0 k8
    · exact ⟨_, a5, b5, hb5, ⟨t, w, .one n, rfl⟩, cv B ([.call [0] h1, .call [0] h2] ++ szB (bL s_INSERT) [P w.bd, P (bL x_20494e544f20), P t.bd] ++ [.call [0] h3, .call [0] h4, .call [0] h5] ++
        szB (iT.bd t w) [P (bL x_2028)] ++ [jk x_2c20 [n.w] (jb1 n.bd (bL x_2c20) rfl)] ++ szB ((iT.bd t w).a (bL x_2028)) [P (bJ1 x_2c20 n.bd), P (bL x_29), P (bL x_2044454641554c542056414c554553)])⟩
    · obtain ⟨_, a6, b6, hb6, ⟨m, rfl⟩, h6⟩ := nameD B a5 b5 hb5
      exact ⟨_, a6, b6, hb6, ⟨t, w, .two n m, rfl⟩, cv B ([.call [0] h1, .call [0] h2] ++ szB (bL s_INSERT) [P w.bd, P (bL x_20494e544f20), P t.bd] ++ [.call [0] h3, .call [0] h4, .call [0] h5, .call [0] h6] ++
        szB (iT.bd t w) [P (bL x_2028)] ++ [jk x_2c20 [n.w, m.w] (jb2 n.bd (bL x_2c20) m.bd rfl)] ++ szB ((iT.bd t w).a (bL x_2028)) [P (bJ2 n.bd (bL x_2c20) m.bd), P (bL x_29), P (bL x_2044454641554c542056414c554553)])⟩
  · exact ⟨_, a3, b3, hb3, ⟨t, w, .no, rfl⟩, cv B ([.call [0] h1, .call [0] h2] ++ szB (bL s_INSERT) [P w.bd, P (bL x_20494e544f20), P t.bd] ++ [.call [0] h3] ++ szB (iT.bd t w) [P (bL x_2044454641554c542056414c554553)])⟩
theorem delD : Dw c 100 1365 [.lst 0] (fun v => ∃ t o, v = .d (.tup [(Dr.del t o).d, .str true (Dr.del t o).w])) := by
  intro a b hb
  obtain ⟨_, a1, b1, hb1, ⟨t, rfl⟩, h1⟩ := nameD B a b hb
  obtain ⟨_, a2, b2, hb2, ⟨o, rfl⟩, h2⟩ := whereD B a1 b1 hb1
  exact ⟨_, a2, b2, hb2, ⟨t, o, rfl⟩, cv B ([.call [0] h1, .call [0] h2] ++ szB (bL x_44454c4554452046524f4d20) [P t.bd, P (oW.bd o)])⟩
theorem updD : Dw c 100 1358 [.lst 0] (fun v => ∃ t w s o, v = .d (.tup [(Dr.upd t w s o).d, .str true (Dr.upd t w s o).w])) := by
  intro a b hb
  obtain ⟨_, a1, b1, hb1, ⟨t, rfl⟩, h1⟩ := nameD B a b hb
  obtain ⟨_, a2, b2, hb2, ⟨w, rfl⟩, h2⟩ := confD B a1 b1 hb1
  obtain ⟨_, a3, b3, hb3, ⟨k, k0, k8, rfl⟩, h3⟩ := takeN B 2 (by decide) (by decide) a2 b2 hb2
  obtain ⟨_, a4, b4, hb4, ⟨n, rfl⟩, h4⟩ := nameD B a3 b3 hb3
  obtain ⟨_, a5, b5, hb5, ⟨v, rfl⟩, h5⟩ := val1 B a4 b4 hb4
  obtain rfl | rfl : k = 0 ∨ k = 1 := lt2 k0 k8
  · obtain ⟨_, a6, b6, hb6, ⟨o, rfl⟩, h6⟩ := whereD B a5 b5 hb5
    have l5 := oWl o
    exact ⟨_, a6, b6, hb6, ⟨t, w, .one n v, o, rfl⟩, cv B ([.call [0] h1, .call [0] h2, .call [0] h3, .call [0] h4, .call [0] h5, hO 0] ++ szB n.bd [P (bL x_203d20), P v.bd] ++ [hO 0, .call [0] h6] ++
      szB (bL s_UPDATE) [P w.bd, P (bL x_20), P t.bd, P (bL x_2053455420)] ++ [jk x_2c20 (Se.one n v).l (jb1 ((n.bd.a (bL x_203d20)).a v.bd) (bL x_2c20) rfl)] ++ szB (((((bL s_UPDATE).a w.bd).a (bL x_20)).a t.bd).a (bL x_2053455420)) [P (bJ1 x_2c20 ((n.bd.a (bL x_203d20)).a v.bd)), P (oW.bd o)])⟩
  · obtain ⟨_, a6, b6, hb6, ⟨m, rfl⟩, h6⟩ := nameD B a5 b5 hb5
    obtain ⟨_, a7, b7, hb7, ⟨u, rfl⟩, h7⟩ := val1 B a6 b6 hb6
    obtain ⟨_, a8, b8, hb8, ⟨o, rfl⟩, h8⟩ := whereD B a7 b7 hb7
    have l5 := oWl o; have l6 := m.wl; have l7 := u.wl
    exact ⟨_, a8, b8, hb8, ⟨t, w, .two n v m u, o, rfl⟩, cv B ([.call [0] h1, .call [0] h2, .call [0] h3, .call [0] h4, .call [0] h5, hO 0] ++ szB n.bd [P (bL x_203d20), P v.bd] ++ [hO 0, .call [0] h6, .call [0] h7, hO 1] ++ szB m.bd [P (bL x_203d20), P u.bd] ++ [hO 1, .call [0] h8] ++
      szB (bL s_UPDATE) [P w.bd, P (bL x_20), P t.bd, P (bL x_2053455420)] ++ [jk x_2c20 (Se.two n v m u).l (jb2 ((n.bd.a (bL x_203d20)).a v.bd) (bL x_2c20) ((m.bd.a (bL x_203d20)).a u.bd) rfl)] ++ szB (((((bL s_UPDATE).a w.bd).a (bL x_20)).a t.bd).a (bL x_2053455420)) [P (bJ2 ((n.bd.a (bL x_203d20)).a v.bd) (bL x_2c20) ((m.bd.a (bL x_203d20)).a u.bd)), P (oW.bd o)])⟩
end
noncomputable def s_expressions : Str := ⟨#[101, 120, 112, 114, 101, 115, 115, 105, 111, 110, 115]⟩
noncomputable def s_selects : Str := ⟨#[115, 101, 108, 101, 99, 116, 115]⟩
noncomputable def x_28 : Str := ⟨#[40]⟩
noncomputable abbrev ew : Dat := .inst 1103 [(s_selects, .none)]
noncomputable abbrev cw : Dat := .inst 882 [(s_expressions, ew), (s_selects, .none)]
theorem nil_sapp (a : Str) : s_0 ++ a = a := by cases a; show Str.mk (#[] ++ _) = _; simp
theorem sapp_assoc (a b d : Str) : a ++ (b ++ d) = a ++ b ++ d := by show Str.mk (_ ++ (_ ++ _)) = Str.mk (_ ++ _ ++ _); simp
theorem len1 : (x_28 : Str).length = 1 := rfl
theorem col0 (a : Str) : a ++ x_20 ++ x_28 = a ++ x_2028 := by rw [← sapp_assoc]; rfl
section
variable {c : Cx} {mg mb : Str → Option Value} (B : Base c.w c.h₀ mg mb)
include B
theorem nameW (n : Nm) : CallOk c 8 813 [sd n.s] [] (.ok (sy n.w) []) := by
  cases n <;> exact (cV B (k := 100) (n := 0) (v := sd (Nm.w _)) [] (by kernel_rfl) (Nat.le_refl _)).fl (.d .s)
theorem atW3 (a : At) (l : Int) (h : l ≤ 12) : CallOk c 20 1067 [.d ew, .d a.d, yi l] [] (.ok (sy a.w) []) := by
  have q : decide ((12 : Int) ≥ l) = true := dT h
  cases a
  case nam n =>
    have r := cV B (k := 100) (d := 20) (a := 1067) (n := 0) (σ := []) (σ' := []) (vs := [.d ew, .d (At.d (.nam n)), yi l]) (v := sy (s_0 ++ n.w)) [.call [] (nameW B n), sb ((bL s_0).a n.bd), .b q] (by kernel_rfl) (Nat.le_refl _)
    rw [nil_sapp] at r; exact r
  all_goals exact (cV B (k := 100) (n := 0) (v := sd (At.w _)) [.b q] (by kernel_rfl) (Nat.le_refl _)).fl (.d .s)
theorem atW2 (a : At) : CallOk c 40 1067 [.d ew, .d a.d] [] (.ok (sy a.w) []) := by
  cases a
  case nam n =>
    have r := cV B (k := 100) (d := 40) (a := 1067) (n := 0) (σ := []) (σ' := []) (vs := [.d ew, .d (At.d (.nam n))]) (v := sy (s_0 ++ n.w)) [.call [] (nameW B n), sb ((bL s_0).a n.bd)] (by kernel_rfl) (Nat.le_refl _)
    rw [nil_sapp] at r; exact r
  all_goals exact (cV B (k := 100) (n := 0) (v := sd (At.w _)) [] (by kernel_rfl) (Nat.le_refl _)).fl (.d .s)
theorem vaW (v : Va) : CallOk c 40 1067 [.d ew, .d v.d] [] (.ok (sy v.w) []) := by
  cases v with
  | one a => exact atW2 B a
  | bin s x y =>
    have l1 := x.wl; have l2 := y.wl; have l3 := s.tl
    have w := fun (a : At) (l : Int) (h : l ≤ 12) => (atW3 B a l h).ar (vs' := [.d ew, .d a.d, ni l]) (.c .r (.c .r (.c (.d .i) .n)))
    have q := (((x.bd.a (bL x_20)).a s.bd).a (bL x_20)).a y.bd
    cases s
    · exact cv B ([.call [] (w x 7 (by decide)), sb (x.bd.a (bL x_20))] ++ szB (x.bd.a (bL x_20)) [P (bL x_2b), P (bL x_20)] ++ [.call [] (w y 8 (by decide)), sb q])
    · exact cv B ([.call [] (w x 9 (by decide)), sb (x.bd.a (bL x_20))] ++ szB (x.bd.a (bL x_20)) [P (bL x_7c7c), P (bL x_20)] ++ [.call [] (w y 10 (by decide)), sb q])
    · exact cv B ([.call [] (w x 4 (by decide)), sb (x.bd.a (bL x_20))] ++ szB (x.bd.a (bL x_20)) [P (bL x_3d), P (bL x_20)] ++ [.call [] (w y 5 (by decide)), sb q])
theorem whW (o : Option Va) : CallOk c 50 860 [.d cw, .d (oD o)] [] (.ok (sy (oW o)) []) := by
  cases o with
  | none => exact (cV B (k := 100) (n := 0) (v := sd s_0) [] (by kernel_rfl) (Nat.le_refl _)).fl (.d .s)
  | some v =>
    have l := v.wl
    exact cv B [.call [] (vaW B v), sb ((bL x_20574845524520).a v.bd)]
theorem cfW (w : Cf) : CallOk c 50 867 [.d cw, sd w.s] [] (.ok (sy w.w) []) := by
  cases w <;> exact (cV B (k := 100) (n := 0) (v := sd (Cf.w _)) [] (by kernel_rfl) (Nat.le_refl _)).fl (.d .s)
theorem insW (t : Nm) (w : Cf) (o : Co) : CallOk c 60 853 [.d cw, .d (Dr.d (.ins t w o))] [] (.ok (sy (Dr.w (.ins t w o))) []) := by
  cases o with
  | no => exact cv B ([.call [] (cfW B w), sb ((bL s_INSERT).a w.bd), sb (((bL s_INSERT).a w.bd).a (bL x_20494e544f20)), .call [] (nameW B t)] ++ szB (((bL s_INSERT).a w.bd).a (bL x_20494e544f20)) [P t.bd, P (bL x_2044454641554c542056414c554553)])
  | one n =>
    have r := cV B (k := 100) (d := 60) (a := 853) (n := 0) (σ := []) (σ' := []) (vs := [.d cw, .d (Dr.d (.ins t w (.one n)))]) (v := sy (iT t w ++ x_20 ++ (x_28 ++ Txt.join x_2c20 (Co.one n).l ++ x_29) ++ x_2044454641554c542056414c554553)) ([.call [] (cfW B w), sb ((bL s_INSERT).a w.bd), sb (((bL s_INSERT).a w.bd).a (bL x_20494e544f20)), .call [] (nameW B t)] ++ szB (((bL s_INSERT).a w.bd).a (bL x_20494e544f20)) [P t.bd, P (bL x_20)] ++ [.call [] (nameW B n), jk x_2c20 [n.w] (jb1 n.bd (bL x_2c20) rfl)] ++ szB (bL x_28) [P (bJ1 x_2c20 n.bd), P (bL x_29)] ++ szB ((iT.bd t w).a (bL x_20)) [P (((bL x_28).a (bJ1 x_2c20 n.bd)).a (bL x_29)), P (bL x_2044454641554c542056414c554553)]) (by kernel_rfl) (Nat.le_refl _)
    have e : iT t w ++ x_20 ++ (x_28 ++ Txt.join x_2c20 (Co.one n).l ++ x_29) ++ x_2044454641554c542056414c554553 = Dr.w (.ins t w (.one n)) := by simp only [Dr.w, sapp_assoc, col0]
    rw [e] at r; exact r
  | two n m =>
    have r := cV B (k := 100) (d := 60) (a := 853) (n := 0) (σ := []) (σ' := []) (vs := [.d cw, .d (Dr.d (.ins t w (.two n m)))]) (v := sy (iT t w ++ x_20 ++ (x_28 ++ Txt.join x_2c20 (Co.two n m).l ++ x_29) ++ x_2044454641554c542056414c554553)) ([.call [] (cfW B w), sb ((bL s_INSERT).a w.bd), sb (((bL s_INSERT).a w.bd).a (bL x_20494e544f20)), .call [] (nameW B t)] ++ szB (((bL s_INSERT).a w.bd).a (bL x_20494e544f20)) [P t.bd, P (bL x_20)] ++ [.call [] (nameW B n), .call [] (nameW B m), jk x_2c20 [n.w, m.w] (jb2 n.bd (bL x_2c20) m.bd rfl)] ++ szB (bL x_28) [P (bJ2 n.bd (bL x_2c20) m.bd), P (bL x_29)] ++ szB ((iT.bd t w).a (bL x_20)) [P (((bL x_28).a (bJ2 n.bd (bL x_2c20) m.bd)).a (bL x_29)), P (bL x_2044454641554c542056414c554553)]) (by kernel_rfl) (Nat.le_refl _)
    have e : iT t w ++ x_20 ++ (x_28 ++ Txt.join x_2c20 (Co.two n m).l ++ x_29) ++ x_2044454641554c542056414c554553 = Dr.w (.ins t w (.two n m)) := by simp only [Dr.w, sapp_assoc, col0]
    rw [e] at r; exact r
theorem updW (t : Nm) (w : Cf) (s : Se) (o : Option Va) : CallOk c 60 853 [.d cw, .d (Dr.d (.upd t w s o))] [] (.ok (sy (Dr.w (.upd t w s o))) []) := by
  cases s with
  | one n v =>
    exact cv B ([.call [] (nameW B n), sb (n.bd.a (bL x_203d20)), .call [] (vaW B v), sb ((n.bd.a (bL x_203d20)).a v.bd), .call [] (cfW B w)] ++ szB (bL s_UPDATE) [P w.bd, P (bL x_20)] ++ [.call [] (nameW B t)] ++ szB (((bL s_UPDATE).a w.bd).a (bL x_20)) [P t.bd, P (bL x_2053455420)] ++
      [jk x_2c20 (Se.one n v).l (jb1 ((n.bd.a (bL x_203d20)).a v.bd) (bL x_2c20) rfl)] ++ szB (((((bL s_UPDATE).a w.bd).a (bL x_20)).a t.bd).a (bL x_2053455420)) [P (bJ1 x_2c20 ((n.bd.a (bL x_203d20)).a v.bd))] ++ [.call [] (whW B o)] ++ szB ((((((bL s_UPDATE).a w.bd).a (bL x_20)).a t.bd).a (bL x_2053455420)).a (bJ1 x_2c20 ((n.bd.a (bL x_203d20)).a v.bd))) [P (oW.bd o)])
  | two n v m u =>
    exact cv B ([.call [] (nameW B n), sb (n.bd.a (bL x_203d20)), .call [] (vaW B v), sb ((n.bd.a (bL x_203d20)).a v.bd), .call [] (nameW B m), sb (m.bd.a (bL x_203d20)), .call [] (vaW B u), sb ((m.bd.a (bL x_203d20)).a u.bd), .call [] (cfW B w)] ++ szB (bL s_UPDATE) [P w.bd, P (bL x_20)] ++ [.call [] (nameW B t)] ++ szB (((bL s_UPDATE).a w.bd).a (bL x_20)) [P t.bd, P (bL x_2053455420)] ++
      [jk x_2c20 (Se.two n v m u).l (jb2 ((n.bd.a (bL x_203d20)).a v.bd) (bL x_2c20) ((m.bd.a (bL x_203d20)).a u.bd) rfl)] ++ szB (((((bL s_UPDATE).a w.bd).a (bL x_20)).a t.bd).a (bL x_2053455420)) [P (bJ2 ((n.bd.a (bL x_203d20)).a v.bd) (bL x_2c20) ((m.bd.a (bL x_203d20)).a u.bd))] ++ [.call [] (whW B o)] ++ szB ((((((bL s_UPDATE).a w.bd).a (bL x_20)).a t.bd).a (bL x_2053455420)).a (bJ2 ((n.bd.a (bL x_203d20)).a v.bd) (bL x_2c20) ((m.bd.a (bL x_203d20)).a u.bd))) [P (oW.bd o)])
theorem delW (t : Nm) (o : Option Va) : CallOk c 60 853 [.d cw, .d (Dr.d (.del t o))] [] (.ok (sy (Dr.w (.del t o))) []) := by
  exact cv B [.call [] (nameW B t), sb ((bL x_44454c4554452046524f4d20).a t.bd), .call [] (whW B o), sb (((bL x_44454c4554452046524f4d20).a t.bd).a (oW.bd o))]
theorem chW (d : Dr) : CallOk c 60 853 [.d cw, .d d.d] [] (.ok (sy d.w) []) := by
  cases d with
  | ins t w o => exact insW B t w o
  | upd t w s o => exact updW B t w s o
  | del t o => exact delW B t o
end
noncomputable def s_delete : Str := ⟨#[100, 101, 108, 101, 116, 101]⟩
noncomputable def s_insert : Str := ⟨#[105, 110, 115, 101, 114, 116]⟩
noncomputable def s_update : Str := ⟨#[117, 112, 100, 97, 116, 101]⟩
inductive Sh : Addr → Addr → List (Str × Dat) → Prop
  | lit (x : Dat) : Sh 90 87 [(s_value, x)]
  | nam (x : Dat) : Sh 116 113 [(s_table, .none), (s_column, x), (s_source, .none), (s_place, .none), (s_depth, .int false 0)]
  | bin (x y z : Dat) : Sh 194 191 [(s_op, x), (s_left, y), (s_right, z)]
noncomputable def At.rf : At → Addr
  | .nam _ => 113
  | _ => 87
noncomputable def Va.rf : Va → Addr
  | .one a => a.rf
  | .bin .. => 191
theorem At.sh (a : At) : Sh a.c a.rf a.f := by cases a <;> first | exact .lit _ | exact .nam _
theorem Va.sh (v : Va) : Sh v.c v.rf v.f := by
  cases v with
  | one a => exact a.sh
  | bin s a b => exact .bin _ _ _
noncomputable def oR : Option Va → Dat
  | none => .none
  | some v => .tup v.r
noncomputable def Co.r : Co → Dat
  | .no => .none
  | .one n => .tup [.str false n.s]
  | .two n m => .tup [.str false n.s, .str false m.s]
noncomputable def pr (n : Nm) (v : Va) : Dat := .tup [.str false n.s, .tup v.r]
noncomputable def Se.r : Se → List Dat
  | .one n v => [pr n v]
  | .two n v m u => [pr n v, pr m u]
noncomputable def Dr.r : Dr → List Dat
  | .ins t w o => [.str false s_insert, .str false t.s, o.r, .none, .str false w.s]
  | .upd t w s o => [.str false s_update, .str false t.s, .tup s.r, oR o, .str false w.s]
  | .del t o => [.str false s_delete, .str false t.s, oR o]
noncomputable def Dr.rf : Dr → Addr
  | .ins .. => 501 | .upd .. => 525 | .del .. => 551
section
variable {c : Cx} {mg mb : Str → Option Value} (B : Base c.w c.h₀ mg mb)
include B
theorem atR (a : At) : CallOk c 10 a.rf [.d a.d] [] (.ok (.d (.tup a.r)) []) := by
  cases a <;> exact cv B []
theorem binR {C f C' f' : Addr} {l l' : List (Str × Dat)} {r r' : List Dat} {x : Dat} (h : Sh C f l) (h' : Sh C' f' l') (k : CallOk c 10 f [.d (.inst C l)] [] (.ok (.d (.tup r)) [])) (k' : CallOk c 10 f' [.d (.inst C' l')] [] (.ok (.d (.tup r')) [])) :
    CallOk c 20 191 [.d (.inst 194 [(s_op, x), (s_left, .inst C l), (s_right, .inst C' l')])] [] (.ok (.d (.tup [.str false s_binary, x, .tup r, .tup r'])) []) := by
  cases h <;> cases h' <;> exact cv B [.call [] k, .call [] k']
theorem vaR (v : Va) : CallOk c 20 v.rf [.d v.d] [] (.ok (.d (.tup v.r)) []) := by
  cases v with
  | one a => exact (atR B a).le (by decide)
  | bin s a b => exact binR B a.sh b.sh (atR B a) (atR B b)
theorem ofR {C f : Addr} {l : List (Str × Dat)} {r : List Dat} (h : Sh C f l) (k : CallOk c 20 f [.d (.inst C l)] [] (.ok (.d (.tup r)) [])) : CallOk c 30 28 [.d (.inst C l)] [] (.ok (.d (.tup r)) []) := by
  cases h <;> exact cv B [.call [] k]
theorem oR_ok (o : Option Va) : CallOk c 30 28 [.d (oD o)] [] (.ok (.d (oR o)) []) := by
  cases o with
  | none => exact cv B []
  | some v => exact ofR B v.sh (vaR B v)
theorem upd1 {C f : Addr} {l : List (Str × Dat)} {r : List Dat} {x t w o o' : Dat} (h : Sh C f l) (k : CallOk c 20 f [.d (.inst C l)] [] (.ok (.d (.tup r)) [])) (q : CallOk c 30 28 [.d o] [] (.ok (.d o') [])) :
    CallOk c 40 525 [.d (.inst 528 [(s_table, t), (s_sets, .lst false [.tup [x, .inst C l]]), (s_where, o), (s_conflict, w)])] [] (.ok (.d (.tup [.str false s_update, t, .tup [.tup [x, .tup r]], o', w])) []) := by
  cases h <;> exact cv B [.call [] k, .call [] q]
theorem upd2 {C f C' f' : Addr} {l l' : List (Str × Dat)} {r r' : List Dat} {x x' t w o o' : Dat} (h : Sh C f l) (k : CallOk c 20 f [.d (.inst C l)] [] (.ok (.d (.tup r)) [])) (h' : Sh C' f' l') (k' : CallOk c 20 f' [.d (.inst C' l')] [] (.ok (.d (.tup r')) [])) (q : CallOk c 30 28 [.d o] [] (.ok (.d o') [])) :
    CallOk c 40 525 [.d (.inst 528 [(s_table, t), (s_sets, .lst false [.tup [x, .inst C l], .tup [x', .inst C' l']]), (s_where, o), (s_conflict, w)])] [] (.ok (.d (.tup [.str false s_update, t, .tup [.tup [x, .tup r], .tup [x', .tup r']], o', w])) []) := by
  cases h <;> cases h' <;> exact cv B [.call [] k, .call [] k', .call [] q]
theorem drR (d : Dr) : CallOk c 40 d.rf [.d d.d] [] (.ok (.d (.tup d.r)) []) := by
  cases d with
  | ins t w o =>
    have q := oR_ok B none
    cases o <;> exact cv B [.call [] q]
  | upd t w s o =>
    cases s with
    | one n v => exact upd1 B v.sh (vaR B v) (oR_ok B o)
    | two n v m u => exact upd2 B v.sh (vaR B v) u.sh (vaR B u) (oR_ok B o)
  | del t o => exact cv B [.call [] (oR_ok B o)]
end
noncomputable def s_RESERVED : Str := ⟨#[82, 69, 83, 69, 82, 86, 69, 68]⟩
noncomputable def s_at : Str := ⟨#[97, 116]⟩
noncomputable def s_end : Str := ⟨#[101, 110, 100]⟩
noncomputable def s_kind : Str := ⟨#[107, 105, 110, 100]⟩
noncomputable def s_sign : Str := ⟨#[115, 105, 103, 110]⟩
noncomputable def s_stream : Str := ⟨#[115, 116, 114, 101, 97, 109]⟩
noncomputable def s_words : Str := ⟨#[119, 111, 114, 100, 115]⟩
noncomputable def x_206973206d697373696e67 : Str := ⟨#[32, 105, 115, 32, 109, 105, 115, 115, 105, 110, 103]⟩
noncomputable def x_61206e616d65206973206d697373696e67 : Str := ⟨#[97, 32, 110, 97, 109, 101, 32, 105, 115, 32, 109, 105, 115, 115, 105, 110, 103]⟩
noncomputable def wd (kd tx : Str) (vl : Dat) (pl : Int) : Dat := .inst 682 [(s_kind, .str true kd), (s_text, .str true tx), (s_value, vl), (s_place, .int true pl)]
noncomputable def SS (T : Str) (W : List Dat) (i dp : Int) : St := [.flds [(s_text, sy T), (s_words, .lst 1), (s_at, yi i), (s_depth, yi dp)], .lst W]
noncomputable def RSt (T : Str) (W : List Dat) (i dp : Int) : St := [.flds [(s_stream, .inst 1293 1), (s_selects, nN)], .flds [(s_text, sy T), (s_words, .lst 2), (s_at, yi i), (s_depth, yi dp)], .lst W]
noncomputable def isK (kd tx k : Str) : Bool := match sq kd s_name with | true => sq tx k | false => false
noncomputable def isS (kd tx k : Str) : Bool := match sq kd s_sign with | true => sq tx k | false => false
noncomputable def RES : List Dat := match tG.get 8 with | some l => (match lk l s_RESERVED with | some (.tup l) => l | _ => []) | none => []
noncomputable def resv (tx : Str) : Bool := match memS tx RES with | some (r, _) => r | none => true
noncomputable def isF (kd tx : Str) : Bool := match sq kd s_name with | true => flip true (resv tx) | false => false
structure Wa (W : List Dat) (i : Int) (kd tx : Str) (vl : Dat) (pl : Int) : Prop where
  g : gi W i = some (wd kd tx vl pl)
  l : i < 2 ^ 60
noncomputable abbrev rx (b : Bool) (m : Str) (pl : Int) : Exn := ⟨605, [(fMsg, .str b m), (fPlc, .int true pl)]⟩
inductive Rf (c : Cx) (n : Nat) (f : Addr) (vs : List SV) (σ : St) : Prop
  | mk (b : Bool) (m : Str) (pl : Int) (h : CallOk c n f vs σ (.exc (rx b m pl)))
theorem Rf.le {c : Cx} {n m : Nat} {f : Addr} {vs : List SV} {σ : St} (h : Rf c n f vs σ) (q : n ≤ m) : Rf c m f vs σ := let ⟨b, t, pl, k⟩ := h; ⟨b, t, pl, k.le q⟩
section
variable {c : Cx} {mg mb : Str → Option Value} (B : Base c.w c.h₀ mg mb)
variable {kd tx k : Str} {vl : Dat} {pl i : Int} {W : List Dat}
include B
theorem wK {b : Bool} (h : isK kd tx k = b) : CallOk c 4 658 [.d (wd kd tx vl pl), sd k] [] (.ok (bo b) []) := by
  unfold isK at h
  cases q : sq kd s_name with
  | false => rw [q] at h; cases h; exact cv B [.b q]
  | true => rw [q] at h; exact cv B [.b q, .b h]
theorem wS {b : Bool} (h : isS kd tx k = b) : CallOk c 4 651 [.d (wd kd tx vl pl), sd k] [] (.ok (bo b) []) := by
  unfold isS at h
  cases q : sq kd s_sign with
  | false => rw [q] at h; cases h; exact cv B [.b q]
  | true => rw [q] at h; exact cv B [.b q, .b h]
variable (w : Wa W i kd tx vl pl) (T : Str) (dp : Int)
include w
theorem tkY (h : isK kd tx k = true) : CallOk c 8 1248 [.inst 1293 0, sd k] (SS T W i dp) (.ok (bo true) (SS T W (i + 1) dp)) :=
  cv B [.o w.l, .x w.g, .call [] (wK B (vl := vl) (pl := pl) h)]
theorem tkN (h : isK kd tx k = false) : CallOk c 8 1248 [.inst 1293 0, sd k] (SS T W i dp) (.ok (bo false) (SS T W i dp)) :=
  cv B [.o w.l, .x w.g, .call [] (wK B (vl := vl) (pl := pl) h)]
theorem tsY (h : isS kd tx k = true) : CallOk c 8 1255 [.inst 1293 0, sd k] (SS T W i dp) (.ok (bo true) (SS T W (i + 1) dp)) :=
  cv B [.o w.l, .x w.g, .call [] (wS B (vl := vl) (pl := pl) h)]
theorem tsN (h : isS kd tx k = false) : CallOk c 8 1255 [.inst 1293 0, sd k] (SS T W i dp) (.ok (bo false) (SS T W i dp)) :=
  cv B [.o w.l, .x w.g, .call [] (wS B (vl := vl) (pl := pl) h)]
theorem ikB {b : Bool} (h : isK kd tx k = b) : CallOk c 8 1220 [.inst 1293 0, sd k] (SS T W i dp) (.ok (bo b) (SS T W i dp)) :=
  cv B [.o w.l, .x w.g, .call [] (wK B (vl := vl) (pl := pl) h)]
theorem isB {b : Bool} (h : isS kd tx k = b) : CallOk c 8 1227 [.inst 1293 0, sd k] (SS T W i dp) (.ok (bo b) (SS T W i dp)) :=
  cv B [.o w.l, .x w.g, .call [] (wS B (vl := vl) (pl := pl) h)]
theorem goK (h : sq kd s_end = false) : CallOk c 6 1199 [.inst 1293 0] (SS T W i dp) (.ok (.d (wd kd tx vl pl)) (SS T W (i + 1) dp)) :=
  cv B [.o w.l, .x w.g, .b (show (!sq kd s_end) = true by rw [h]; rfl)]
theorem nkY (h : isK kd tx k = true) : CallOk c 12 1262 [.inst 1293 0, sd k] (SS T W i dp) (.ok nN (SS T W (i + 1) dp)) :=
  cv B [.call [0, 1] (tkY B w T dp h)]
theorem nkN (h : isK kd tx k = false) (l : k.length ≤ 1000) : Rf c 12 1262 [.inst 1293 0, sd k] (SS T W i dp) :=
  ⟨true, k ++ x_206973206d697373696e67, pl, (cx B [.call [0, 1] ((tkN B w T dp h).ar (vs' := [.inst 1293 0, sy k]) (.c .r (.c (.d .s) .n))), sz (u := k ++ x_206973206d697373696e67) (by rw [sl_app]; show _ + 11 ≤ _; omega), .o w.l, .x w.g]).ar (vs := [.inst 1293 0, sy k]) (.c .r (.c (.d .s) .n))⟩
theorem nsY (h : isS kd tx k = true) : CallOk c 12 1269 [.inst 1293 0, sd k] (SS T W i dp) (.ok nN (SS T W (i + 1) dp)) :=
  cv B [.call [0, 1] (tsY B w T dp h)]
theorem nsN (h : isS kd tx k = false) (l : k.length ≤ 1000) : Rf c 12 1269 [.inst 1293 0, sd k] (SS T W i dp) :=
  ⟨true, k ++ x_206973206d697373696e67, pl, (cx B [.call [0, 1] ((tsN B w T dp h).ar (vs' := [.inst 1293 0, sy k]) (.c .r (.c (.d .s) .n))), sz (u := k ++ x_206973206d697373696e67) (by rw [sl_app]; show _ + 11 ≤ _; omega), .o w.l, .x w.g]).ar (vs := [.inst 1293 0, sy k]) (.c .r (.c (.d .s) .n))⟩
theorem nnY (h : isF kd tx = true) : CallOk c 12 1276 [.inst 1293 0] (SS T W i dp) (.ok (.d vl) (SS T W (i + 1) dp)) := by
  unfold isF at h
  cases q : sq kd s_name with
  | false => rw [q] at h; cases h
  | true =>
    rw [q] at h
    have e : sq kd s_end = false := by rw [sq_eq q]; rfl
    exact cv B [.o w.l, .x w.g, .b q, .b h, .call [0, 1] (goK B w T dp e)]
theorem nnN (h : isF kd tx = false) : Rf c 12 1276 [.inst 1293 0] (SS T W i dp) := by
  unfold isF at h
  cases q : sq kd s_name with
  | false => exact ⟨false, x_61206e616d65206973206d697373696e67, pl, cx B [.o w.l, .x w.g, .b q, .o w.l, .x w.g]⟩
  | true =>
    rw [q] at h
    exact ⟨false, x_61206e616d65206973206d697373696e67, pl, cx B [.o w.l, .x w.g, .b q, .b h, .o w.l, .x w.g]⟩
end
noncomputable def s_AB_1 : Str := ⟨#[65, 66, 95, 49]⟩
noncomputable def s_CASE : Str := ⟨#[67, 65, 83, 69]⟩
noncomputable def s_CAST : Str := ⟨#[67, 65, 83, 84]⟩
noncomputable def s_EXISTS : Str := ⟨#[69, 88, 73, 83, 84, 83]⟩
noncomputable def s_NOT : Str := ⟨#[78, 79, 84]⟩
noncomputable def s_T : Str := ⟨#[84]⟩
noncomputable def s_number : Str := ⟨#[110, 117, 109, 98, 101, 114]⟩
noncomputable def s_variable : Str := ⟨#[118, 97, 114, 105, 97, 98, 108, 101]⟩
noncomputable def x_2e : Str := ⟨#[46]⟩
noncomputable def Nm.x : Nm → Str
  | .t => s_T | .ab => s_AB_1 | _ => s_0
noncomputable def At.kd : At → Str
  | .nul => s_name | .n0 => s_number | .n7 => s_number | .ng => s_number | .b1 => s_blob | .b2 => s_blob | .nam _ => s_name | _ => s_text
noncomputable def At.tx : At → Str
  | .nul => s_NULL | .nam n => n.x | _ => s_0
noncomputable def At.vl : At → Dat
  | .nul => .str false s_NULL | a => a.v
noncomputable def KLs : List (Str × Dat) := match tD.get 909 with | some l => l | none => []
noncomputable def SLs : List (Str × Dat) := match tD.get 908 with | some l => l | none => []
noncomputable def getL (tx : Str) : Dat := match lk SLs tx with | some w => w | none => .int false 0
noncomputable def inD : Dat → Option Int
  | .int y n => bif y then none else some n
  | _ => none
theorem inD.r {d : Dat} {n : Int} (h : inD d = some n) : d = .int false n := by
  cases d with
  | int y m => exact ifC h (fun _ h => nn h) fun q h => by rw [q, Option.some.inj h]
  | _ => exact nn h
noncomputable def lvl (kd tx : Str) : Option Int := match sq kd s_sign with
  | true => inD (getL tx)
  | false => match sq kd s_name with | false => some 0 | true => match keyS tx KLs with | false => some 0 | true => none
structure Nd (kd tx : Str) : Prop where
  dot : isS kd tx x_2e = false
  par : isS kd tx x_28 = false
noncomputable def sqb {c : Cx} (x y : Str) (v : Bool) (h : sq x y = v := by rfl) : Sup c := .b h
noncomputable def neb {c : Cx} (x y : Str) (v : Bool) (h : (!sq x y) = v := by rfl) : Sup c := .b h
noncomputable def kinds : List Dat := [.str false s_number, .str false s_text, .str false s_blob]
noncomputable def mem1 (x : Str) (l : List Dat) : Bool := match memS x l with | some (r, _) => r | none => false
noncomputable def inb {c : Cx} (x : Str) (l : List Dat) (v : Bool) (h : flip false (mem1 x l) = v := by rfl) : Sup c := .b h
section
variable {c : Cx} {mg mb : Str → Option Value} (B : Base c.w c.h₀ mg mb)
variable {kd tx kd' tx' : Str} {vl vl' : Dat} {pl pl' i : Int} {W : List Dat} (w : Wa W i kd tx vl pl) (w' : Wa W (i + 1) kd' tx' vl' pl') (T : Str) (dp : Int)
include B
include w in
theorem lv {n : Int} (h : lvl kd tx = some n) : CallOk c 12 940 [.inst 1034 0] (RSt T W i dp) (.ok (ni n) (RSt T W i dp)) := by
  unfold lvl at h
  cases q : sq kd s_sign with
  | true =>
    rw [q] at h
    exact cv B [.o w.l, .x w.g, .b q, .x (congrArg some (inD.r h))]
  | false =>
    rw [q] at h
    cases q2 : sq kd s_name with
    | false =>
      rw [q2] at h; cases h
      exact cv B [.o w.l, .x w.g, .b q, neb kd s_name true (by rw [q2]; rfl)]
    | true =>
      rw [q2] at h
      cases q3 : keyS tx KLs with
      | true => rw [q3] at h; cases h
      | false =>
        rw [q3] at h; cases h
        exact cv B [.o w.l, .x w.g, .b q, neb kd s_name false (by rw [q2]; rfl), .b (b := flip true (keyS tx KLs)) (v := true) (by rw [q3]; rfl)]
theorem primN {n : Nm} (w : Wa W i s_name n.x (.str false n.s) pl) (w' : Wa W (i + 1) kd' tx' vl' pl') (h : Nd kd' tx') : CallOk c 30 1024 [.inst 1034 0] (RSt T W i dp) (.ok (.d (At.d (.nam n))) (RSt T W (i + 1) dp)) := by
  have f : isF s_name n.x = true := by cases n <;> rfl
  exact cv B [.call [1, 2] (nnY B w T dp f), .call [1, 2] (tsN B w' T dp h.dot), .call [1, 2] (tsN B w' T dp h.par)]
include w' in
theorem prim (a : At) (w : Wa W i a.kd a.tx a.vl pl) (h : Nd kd' tx') : CallOk c 40 989 [.inst 1034 0] (RSt T W i dp) (.ok (.d a.d) (RSt T W (i + 1) dp)) := by
  cases a
  case n0 => exact cv B [.o w.l, .x w.g, sqb s_number s_number true, inb s_number kinds true, .call [1, 2] (goK B w T dp rfl)]
  case n7 => exact cv B [.o w.l, .x w.g, sqb s_number s_number true, inb s_number kinds true, .call [1, 2] (goK B w T dp rfl)]
  case ng => exact cv B [.o w.l, .x w.g, sqb s_number s_number true, inb s_number kinds true, .call [1, 2] (goK B w T dp rfl)]
  case t1 => exact cv B [.o w.l, .x w.g, sqb s_text s_number false, inb s_text kinds true, .call [1, 2] (goK B w T dp rfl)]
  case t2 => exact cv B [.o w.l, .x w.g, sqb s_text s_number false, inb s_text kinds true, .call [1, 2] (goK B w T dp rfl)]
  case t3 => exact cv B [.o w.l, .x w.g, sqb s_text s_number false, inb s_text kinds true, .call [1, 2] (goK B w T dp rfl)]
  case b1 => exact cv B [.o w.l, .x w.g, sqb s_blob s_number false, inb s_blob kinds true, .call [1, 2] (goK B w T dp rfl)]
  case b2 => exact cv B [.o w.l, .x w.g, sqb s_blob s_number false, inb s_blob kinds true, .call [1, 2] (goK B w T dp rfl)]
  case nul => exact cv B [.o w.l, .x w.g, sqb s_name s_number false, inb s_name kinds false, sqb s_name s_variable false, .call [] (wS B (kd := s_name) (tx := s_NULL) (k := x_28) (vl := .str false s_NULL) (pl := pl) (b := false) rfl), .call [] (wK B (kd := s_name) (tx := s_NULL) (k := s_NULL) (vl := .str false s_NULL) (pl := pl) (b := true) rfl), .call [1, 2] (goK B w T dp rfl)]
  case nam n =>
    have f : ∀ k, isS s_name n.x k = false := fun k => rfl
    exact cv B [.o w.l, .x w.g, sqb s_name s_number false, inb s_name kinds false, sqb s_name s_variable false, .call [] (wS B (kd := s_name) (tx := n.x) (k := x_28) (vl := .str false n.s) (pl := pl) (f _)),
      .call [] (wK B (kd := s_name) (tx := n.x) (k := s_NULL) (vl := .str false n.s) (pl := pl) (by cases n <;> rfl : isK s_name n.x s_NULL = false)),
      .call [] (wK B (kd := s_name) (tx := n.x) (k := s_EXISTS) (vl := .str false n.s) (pl := pl) (by cases n <;> rfl : isK s_name n.x s_EXISTS = false)),
      .call [] (wK B (kd := s_name) (tx := n.x) (k := s_CASE) (vl := .str false n.s) (pl := pl) (by cases n <;> rfl : isK s_name n.x s_CASE = false)),
      .call [] (wK B (kd := s_name) (tx := n.x) (k := s_CAST) (vl := .str false n.s) (pl := pl) (by cases n <;> rfl : isK s_name n.x s_CAST = false)),
      .call [0, 1, 2] (primN B T dp w w' h)]
include w' in
theorem pfx (a : At) (w : Wa W i a.kd a.tx a.vl pl) (h : Nd kd' tx') : CallOk c 50 982 [.inst 1034 0] (RSt T W i dp) (.ok (.d a.d) (RSt T W (i + 1) dp)) := by
  have k : isK a.kd a.tx s_NOT = false := by cases a <;> first | rfl | (rename_i n; cases n <;> rfl)
  have s : sq a.kd s_sign = false := by cases a <;> rfl
  exact cv B [.o w.l, .x w.g, .call [] (wK B (vl := a.vl) (pl := pl) k), .b s, .call [0, 1, 2] (prim B w' T dp a w h)]
theorem priR (w : Wa W i s_end s_0 .none pl) : Rf c 50 982 [.inst 1034 0] (RSt T W i dp) := by
  obtain ⟨b, m, p0, h⟩ := nnN B w T dp (rfl : isF s_end s_0 = false)
  have h1 : CallOk c 30 1024 [.inst 1034 0] (RSt T W i dp) (.exc (rx b m p0)) := cx B [.call [1, 2] h]
  have e := fun k => wK B (kd := s_end) (tx := s_0) (k := k) (vl := .none) (pl := pl) (b := false) rfl
  have h2 : CallOk c 40 989 [.inst 1034 0] (RSt T W i dp) (.exc (rx b m p0)) := cx B [.o w.l, .x w.g, sqb s_end s_number false, inb s_end kinds false, sqb s_end s_variable false, .call [] (wS B (kd := s_end) (tx := s_0) (k := x_28) (vl := .none) (pl := pl) (b := false) rfl),
      .call [] (e s_NULL), .call [] (e s_EXISTS), .call [] (e s_CASE), .call [] (e s_CAST), .call [0, 1, 2] h1]
  exact ⟨b, m, p0, cx B [.o w.l, .x w.g, .call [] (e s_NOT), sqb s_end s_sign false, .call [0, 1, 2] h2]⟩
theorem RSdp : RSt T W i (dp + 1 - 1) = RSt T W i dp := by rw [Int.add_sub_cancel]
include w' in
theorem exIn (a : At) (w : Wa W i a.kd a.tx a.vl pl) (h : Nd kd' tx') (hl : lvl kd' tx' = some 0) (l : Int) (h1 : 1 ≤ l) (hd : dp < 40) : CallOk c 60 933 [.inst 1034 0, yi l] (RSt T W i dp) (.ok (.d a.d) (RSt T W (i + 1) dp)) := by
  have e : decide (dp + 1 > 50) = false := dF (by omega)
  have e2 : decide ((0 : Int) ≥ l) = false := dF (by omega)
  have r := cV B (k := 100) (d := 60) (a := 933) (n := 3) (vs := [.inst 1034 0, yi l]) (σ := RSt T W i dp) (σ' := RSt T W (i + 1) (dp + 1 - 1)) (v := .d a.d) [.b e, .call [0, 1, 2] (pfx B w' T (dp + 1) a w h), .call [0, 1, 2] (lv B w' T (dp + 1) hl), .b e2] (by kernel_rfl) (Nat.le_refl _)
  rw [RSdp B] at r; exact r
theorem exInR (w : Wa W i s_end s_0 .none pl) (l : Int) (hd : dp < 40) : Rf c 60 933 [.inst 1034 0, yi l] (RSt T W i dp) := by
  have e : decide (dp + 1 > 50) = false := dF (by omega)
  obtain ⟨b, m, p0, h⟩ := priR B T (dp + 1) w
  exact ⟨b, m, p0, cx B [.b e, .call [0, 1, 2] h]⟩
theorem exR (w : Wa W i s_end s_0 .none pl) (hd : dp < 40) : Rf c 60 933 [.inst 1034 0] (RSt T W i dp) := by
  have e : decide (dp + 1 > 50) = false := dF (by omega)
  obtain ⟨b, m, p0, h⟩ := priR B T (dp + 1) w
  exact ⟨b, m, p0, cx B [.b e, .call [0, 1, 2] h]⟩
include w' in
theorem exA (a : At) (w : Wa W i a.kd a.tx a.vl pl) (h : Nd kd' tx') (hl : lvl kd' tx' = some 0) (hd : dp < 40) : CallOk c 60 933 [.inst 1034 0] (RSt T W i dp) (.ok (.d a.d) (RSt T W (i + 1) dp)) := by
  have e : decide (dp + 1 > 50) = false := dF (by omega)
  have r := cV B (k := 100) (d := 60) (a := 933) (n := 3) (vs := [.inst 1034 0]) (σ := RSt T W i dp) (σ' := RSt T W (i + 1) (dp + 1 - 1)) (v := .d a.d) [.b e, .call [0, 1, 2] (pfx B w' T (dp + 1) a w h), .call [0, 1, 2] (lv B w' T (dp + 1) hl)] (by kernel_rfl) (Nat.le_refl _)
  rw [RSdp B] at r; exact r
noncomputable def Sg.l : Sg → Int
  | .pl => 7 | .cc => 9 | .eq => 4
end
noncomputable def s_ABORT : Str := ⟨#[65, 66, 79, 82, 84]⟩
noncomputable def s_DEFAULT : Str := ⟨#[68, 69, 70, 65, 85, 76, 84]⟩
noncomputable def s_DELETE : Str := ⟨#[68, 69, 76, 69, 84, 69]⟩
noncomputable def s_FAIL : Str := ⟨#[70, 65, 73, 76]⟩
noncomputable def s_FROM : Str := ⟨#[70, 82, 79, 77]⟩
noncomputable def s_IGNORE : Str := ⟨#[73, 71, 78, 79, 82, 69]⟩
noncomputable def s_INTO : Str := ⟨#[73, 78, 84, 79]⟩
noncomputable def s_OR : Str := ⟨#[79, 82]⟩
noncomputable def s_REPLACE : Str := ⟨#[82, 69, 80, 76, 65, 67, 69]⟩
noncomputable def s_ROLLBACK : Str := ⟨#[82, 79, 76, 76, 66, 65, 67, 75]⟩
noncomputable def s_SET : Str := ⟨#[83, 69, 84]⟩
noncomputable def s_VALUES : Str := ⟨#[86, 65, 76, 85, 69, 83]⟩
noncomputable def s_WHERE : Str := ⟨#[87, 72, 69, 82, 69]⟩
noncomputable def x_2c : Str := ⟨#[44]⟩
inductive Kw where
  | upd | del | ins | repl | or | cf (w : Cf) | into | dflt | vals | set | frm | whr
noncomputable def Cf.k : Cf → Str
  | .ab => s_ABORT | .ro => s_ROLLBACK | .fa => s_FAIL | .ig => s_IGNORE | .re => s_REPLACE
noncomputable def Kw.s : Kw → Str
  | .upd => s_UPDATE | .del => s_DELETE | .ins => s_INSERT | .repl => s_REPLACE | .or => s_OR | .cf w => w.k | .into => s_INTO | .dflt => s_DEFAULT | .vals => s_VALUES | .set => s_SET | .frm => s_FROM | .whr => s_WHERE
inductive Tk where
  | v (a : At) | sg (s : Sg) | cm | lp | rp | kw (k : Kw) | ed
noncomputable def Tk.kd : Tk → Str
  | .v a => a.kd | .kw _ => s_name | .ed => s_end | _ => s_sign
noncomputable def Tk.tx : Tk → Str
  | .v a => a.tx | .sg s => s.t | .cm => x_2c | .lp => x_28 | .rp => x_29 | .kw k => k.s | .ed => s_0
noncomputable def Tk.vl : Tk → Dat
  | .v a => a.vl | .kw k => .str false k.s | _ => .none
inductive Wc (W : List Dat) (i : Int) (t : Tk) (P : Prop) : Prop
  | mk (pl : Int) (h : Wa W i t.kd t.tx t.vl pl) (r : P)
noncomputable def Ws (W : List Dat) : Int → List Tk → Prop
  | _, [] => True
  | i, t :: l => Wc W i t (Ws W (i + 1) l)
inductive Gx (W : List Dat) (r : List Tk) (K : Int → Prop) : Prop
  | mk (j : Int) (w : Ws W j r) (h : K j)
inductive Ge (W : List Dat) (K : Int → Prop) : Prop
  | mk (j p : Int) (w : Wa W j s_end s_0 .none p) (h : K j)
inductive Stop : Tk → Prop
  | cm : Stop .cm | whr : Stop (.kw .whr) | ed : Stop .ed
theorem Stop.nd {t : Tk} (h : Stop t) : Nd t.kd t.tx := by cases h <;> exact ⟨rfl, rfl⟩
theorem Stop.lv {t : Tk} (h : Stop t) : lvl t.kd t.tx = some 0 := by cases h <;> rfl
theorem Sg.nd (s : Sg) : Nd s_sign s.t := by cases s <;> exact ⟨rfl, rfl⟩
theorem Sg.lv (s : Sg) : lvl s_sign s.t = some s.l := by cases s <;> rfl
inductive GE : List Tk → Option (Va × List Tk) → Prop
  | e {r} : GE (.ed :: r) none
  | one {a t r} : Stop t → GE (.v a :: t :: r) (some (.one a, t :: r))
  | op {a s r} : GE (.v a :: .sg s :: .ed :: r) none
  | bin {a s b t r} : Stop t → GE (.v a :: .sg s :: .v b :: t :: r) (some (.bin s a b, t :: r))
@[reducible] def ExP (c : Cx) (W : List Dat) (T : Str) (i dp : Int) (o : Option (Va × List Tk)) : Prop := match o with
    | none => Rf c 70 933 [.inst 1034 0] (RSt T W i dp)
    | some (x, r) => Gx W r fun j => CallOk c 70 933 [.inst 1034 0] (RSt T W i dp) (.ok (.d x.d) (RSt T W j dp))
section
variable {c : Cx} {mg mb : Str → Option Value} (B : Base c.w c.h₀ mg mb) {i : Int} {W : List Dat} (T : Str) (dp : Int)
include B
theorem exOp (a b : At) (s : Sg) {t : Tk} (ht : Stop t) {p1 p2 p3 p4 : Int} (w1 : Wa W i a.kd a.tx a.vl p1) (w2 : Wa W (i + 1) s_sign s.t .none p2) (w3 : Wa W (i + 1 + 1) b.kd b.tx b.vl p3) (w4 : Wa W (i + 1 + 1 + 1) t.kd t.tx t.vl p4) (hd : dp < 39) :
    CallOk c 70 933 [.inst 1034 0] (RSt T W i dp) (.ok (.d (Va.d (.bin s a b))) (RSt T W (i + 1 + 1 + 1) dp)) := by
  have e : decide (dp + 1 > 50) = false := dF (by omega)
  have h1 := pfx B w2 T (dp + 1) a w1 s.nd
  have h2 := P465.lv B w2 T (dp + 1) s.lv
  have h3 := goK B w2 T (dp + 1) (rfl : sq s_sign s_end = false)
  have h4 := fun l (hl : (1 : Int) ≤ l) => (exIn B w4 T (dp + 1) b w3 ht.nd ht.lv l hl (by omega)).ar (vs' := [.inst 1034 0, ni l]) (.c .r (.c (.d .i) .n))
  have h5 := P465.lv B w4 T (dp + 1) ht.lv
  have r : CallOk c 70 933 [.inst 1034 0] (RSt T W i dp) (.ok (.d (.inst 194 [(s_op, .str true s.t), (s_left, a.d), (s_right, b.d)])) (RSt T W (i + 1 + 1 + 1) (dp + 1 - 1))) := by
    cases s
    · exact cv B [.b e, .call [0, 1, 2] h1, .call [0, 1, 2] h2, .call [1, 2] h3, sqb s_sign s_sign true, .call [0, 1, 2] (h4 8 (by decide)), .call [0, 1, 2] h5]
    · exact cv B [.b e, .call [0, 1, 2] h1, .call [0, 1, 2] h2, .call [1, 2] h3, sqb s_sign s_sign true, .call [0, 1, 2] (h4 10 (by decide)), .call [0, 1, 2] h5]
    · exact cv B [.b e, .call [0, 1, 2] h1, .call [0, 1, 2] h2, .call [1, 2] h3, sqb s_sign s_sign true, .call [0, 1, 2] (h4 5 (by decide)), .call [0, 1, 2] h5]
  rw [RSdp B] at r
  exact r.fl (.d (.n (.c .s (.c .r (.c .r .n)))))
theorem exOpR (a : At) (s : Sg) {p1 p2 p3 : Int} (w1 : Wa W i a.kd a.tx a.vl p1) (w2 : Wa W (i + 1) s_sign s.t .none p2) (w3 : Wa W (i + 1 + 1) s_end s_0 .none p3) (hd : dp < 39) : Rf c 70 933 [.inst 1034 0] (RSt T W i dp) := by
  have e : decide (dp + 1 > 50) = false := dF (by omega)
  have h1 := pfx B w2 T (dp + 1) a w1 s.nd
  have h2 := P465.lv B w2 T (dp + 1) s.lv
  have h3 := goK B w2 T (dp + 1) (rfl : sq s_sign s_end = false)
  have h4 := fun l => exInR B T (dp + 1) w3 l (by omega)
  have h4 := fun l => let ⟨b, m, p, h⟩ := h4 l; (⟨b, m, p, h.ar (vs' := [.inst 1034 0, ni l]) (.c .r (.c (.d .i) .n))⟩ : Rf c 60 933 [.inst 1034 0, ni l] _)
  cases s
  · obtain ⟨b, m, p0, h4⟩ := h4 8
    exact ⟨b, m, p0, cx B [.b e, .call [0, 1, 2] h1, .call [0, 1, 2] h2, .call [1, 2] h3, sqb s_sign s_sign true, .call [0, 1, 2] h4]⟩
  · obtain ⟨b, m, p0, h4⟩ := h4 10
    exact ⟨b, m, p0, cx B [.b e, .call [0, 1, 2] h1, .call [0, 1, 2] h2, .call [1, 2] h3, sqb s_sign s_sign true, .call [0, 1, 2] h4]⟩
  · obtain ⟨b, m, p0, h4⟩ := h4 5
    exact ⟨b, m, p0, cx B [.b e, .call [0, 1, 2] h1, .call [0, 1, 2] h2, .call [1, 2] h3, sqb s_sign s_sign true, .call [0, 1, 2] h4]⟩
theorem exC {ts : List Tk} {o : Option (Va × List Tk)} (g : GE ts o) (w : Ws W i ts) (hd : dp < 39) : ExP c W T i dp o := by
  revert w
  cases g with
  | e => intro w; obtain ⟨p, w1, -⟩ := w; exact (exR B T dp w1 (by omega)).le (by decide)
  | one ht => intro w; obtain ⟨p, w1, w2⟩ := w; have w3 := w2; obtain ⟨q, w4, -⟩ := w3; exact ⟨_, w2, (exA B w4 T dp _ w1 ht.nd ht.lv (by omega)).le (by decide)⟩
  | op => intro w; obtain ⟨p, w1, q, w2, r, w3, -⟩ := w; exact exOpR B T dp _ _ w1 w2 w3 hd
  | bin ht => intro w; obtain ⟨p, w1, q, w2, r, w3, w4⟩ := w; have w5 := w4; obtain ⟨u, w6, -⟩ := w5; exact ⟨_, w4, exOp B T dp _ _ _ ht w1 w2 w3 w6 hd⟩
end
noncomputable def x_6120636f6e666c696374277320776f7264206973206d697373696e67 : Str := ⟨#[97, 32, 99, 111, 110, 102, 108, 105, 99, 116, 39, 115, 32, 119, 111, 114, 100, 32, 105, 115, 32, 109, 105, 115, 115, 105, 110, 103]⟩
noncomputable def CS (T : Str) (W : List Dat) (i dp : Int) : St := [.flds [(s_stream, .inst 1293 2), (s_expressions, .inst 1034 1), (s_selects, nN)], .flds [(s_stream, .inst 1293 2), (s_selects, nN)], .flds [(s_text, sy T), (s_words, .lst 3), (s_at, yi i), (s_depth, yi dp)], .lst W]
inductive GA : List Tk → Option ((Nm × Va) × List Tk) → Prop
  | e {r} : GA (.ed :: r) none
  | n {n r} : GA (.v (.nam n) :: .ed :: r) none
  | x {n ts} : GE ts none → GA (.v (.nam n) :: .sg .eq :: ts) none
  | ok {n ts x r} : GE ts (some (x, r)) → GA (.v (.nam n) :: .sg .eq :: ts) (some ((n, x), r))
inductive Fst : Tk → Prop
  | n {n} : Fst (.v (.nam n)) | into : Fst (.kw .into) | ed : Fst .ed
theorem Fst.k {t : Tk} (h : Fst t) : isK t.kd t.tx s_OR = false := by
  cases h with
  | @n n => cases n <;> rfl
  | _ => rfl
inductive GC : List Tk → Option (Cf × List Tk) → Prop
  | no {t r} : Fst t → GC (t :: r) (some (.ab, t :: r))
  | e {r} : GC (.kw .or :: .ed :: r) none
  | ok {w r} : GC (.kw .or :: .kw (.cf w) :: r) (some (w, r))
noncomputable def CFs : List Dat := [.str false s_ABORT, .str false s_ROLLBACK, .str false s_FAIL, .str false s_IGNORE, .str false s_REPLACE]
@[reducible] def CfP (c : Cx) (W : List Dat) (T : Str) (i dp : Int) (o : Option (Cf × List Tk)) : Prop := match o with
    | none => Rf c 40 1129 [.inst 1160 0] (CS T W i dp)
    | some (x, r) => Gx W r fun j => CallOk c 40 1129 [.inst 1160 0] (CS T W i dp) (.ok (sd x.s) (CS T W j dp))
@[reducible] def AsP (c : Cx) (W : List Dat) (T : Str) (i dp : Int) (o : Option ((Nm × Va) × List Tk)) : Prop := match o with
    | none => Rf c 80 1150 [.inst 1160 0] (CS T W i dp)
    | some (x, r) => Gx W r fun j => CallOk c 80 1150 [.inst 1160 0] (CS T W i dp) (.ok (.d (sp x.1 x.2)) (CS T W j dp))
section
variable {c : Cx} {mg mb : Str → Option Value} (B : Base c.w c.h₀ mg mb) {i : Int} {W : List Dat} (T : Str) (dp : Int)
include B
theorem cfC {ts : List Tk} {o : Option (Cf × List Tk)} (g : GC ts o) (w : Ws W i ts) : CfP c W T i dp o := by
  revert w
  cases g with
  | no h =>
    intro w
    obtain ⟨p, w1, w2⟩ := w
    exact ⟨i, ⟨p, w1, w2⟩, cv B [.call [2, 3] (tkN B w1 T dp h.k)]⟩
  | e =>
    intro w
    obtain ⟨p, w1, q, w2, -⟩ := w
    exact ⟨false, x_6120636f6e666c696374277320776f7264206973206d697373696e67, q, cx B [.call [2, 3] (tkY B w1 T dp (rfl : isK s_name s_OR s_OR = true)), .o w2.l, .x w2.g, sqb s_end s_name false, .o w2.l, .x w2.g]⟩
  | @ok x r =>
    intro w
    obtain ⟨p, w1, q, w2, w3⟩ := w
    have e1 : flip false (mem1 x.k CFs) = true := by cases x <;> rfl
    have e2 : (Txt.lower x.k).length ≤ 100000 := by cases x <;> decide
    have e3 : Txt.lower x.k = x.s := by cases x <;> rfl
    refine ⟨_, w3, CallOk.fl (v := sy x.s) ?_ (.d .s)⟩
    rw [← e3]
    exact cv B [.call [2, 3] (tkY B w1 T dp (rfl : isK s_name s_OR s_OR = true)), .o w2.l, .x w2.g, sqb s_name s_name true, .b e1, .call [2, 3] (goK B w2 T dp (rfl : sq s_name s_end = false)), sz e2]
theorem nF (n : Nm) : isF s_name n.x = true := by cases n <;> rfl
theorem asC {ts : List Tk} {o : Option ((Nm × Va) × List Tk)} (g : GA ts o) (w : Ws W i ts) (hd : dp < 39) : AsP c W T i dp o := by
  revert w
  cases g with
  | e =>
    intro w
    obtain ⟨p, w1, -⟩ := w
    obtain ⟨b, m, p0, h⟩ := nnN B w1 T dp (rfl : isF s_end s_0 = false)
    exact ⟨b, m, p0, cx B [.call [2, 3] h]⟩
  | @n n r =>
    intro w
    obtain ⟨p, w1, q, w2, -⟩ := w
    obtain ⟨b, m, p0, h⟩ := nsN B w2 T dp (k := x_3d) rfl (by decide)
    exact ⟨b, m, p0, cx B [.call [2, 3] (nnY B w1 T dp (nF B n)), .call [2, 3] h]⟩
  | @x n ts h =>
    intro w
    obtain ⟨p, w1, q, w2, w3⟩ := w
    obtain ⟨b, m, p0, h⟩ := exC B T dp h w3 hd
    exact ⟨b, m, p0, cx B [.call [2, 3] (nnY B w1 T dp (nF B n)), .call [2, 3] (nsY B w2 T dp (k := x_3d) rfl), .call [1, 2, 3] h]⟩
  | @ok n ts x r h =>
    intro w
    obtain ⟨p, w1, q, w2, w3⟩ := w
    obtain ⟨j, w4, h⟩ := exC B T dp h w3 hd
    exact ⟨j, w4, cv B [.call [2, 3] (nnY B w1 T dp (nF B n)), .call [2, 3] (nsY B w2 T dp (k := x_3d) rfl), .call [1, 2, 3] h]⟩
end
inductive GU : List Tk → Option Dr → Prop
  | c0 {ts} : GC ts none → GU ts none
  | c1 {ts w r} : GC ts (some (w, .ed :: r)) → GU ts none
  | c2 {ts w t r} : GC ts (some (w, .v (.nam t) :: .ed :: r)) → GU ts none
  | c3 {ts w t a} : GC ts (some (w, .v (.nam t) :: .kw .set :: a)) → GA a none → GU ts none
  | c4 {ts w t a x b} : GC ts (some (w, .v (.nam t) :: .kw .set :: a)) → GA a (some (x, .cm :: b)) → GA b none → GU ts none
  | c5 {ts w t a x b} : GC ts (some (w, .v (.nam t) :: .kw .set :: a)) → GA a (some (x, .kw .whr :: b)) → GE b none → GU ts none
  | c6 {ts w t a x r} : GC ts (some (w, .v (.nam t) :: .kw .set :: a)) → GA a (some (x, .ed :: r)) → GU ts (some (.upd t w (.one x.1 x.2) none))
  | c7 {ts w t a x b z r} : GC ts (some (w, .v (.nam t) :: .kw .set :: a)) → GA a (some (x, .kw .whr :: b)) → GE b (some (z, .ed :: r)) → GU ts (some (.upd t w (.one x.1 x.2) (some z)))
  | c8 {ts w t a x b y d} : GC ts (some (w, .v (.nam t) :: .kw .set :: a)) → GA a (some (x, .cm :: b)) → GA b (some (y, .kw .whr :: d)) → GE d none → GU ts none
  | c9 {ts w t a x b y r} : GC ts (some (w, .v (.nam t) :: .kw .set :: a)) → GA a (some (x, .cm :: b)) → GA b (some (y, .ed :: r)) → GU ts (some (.upd t w (.two x.1 x.2 y.1 y.2) none))
  | c10 {ts w t a x b y d z r} : GC ts (some (w, .v (.nam t) :: .kw .set :: a)) → GA a (some (x, .cm :: b)) → GA b (some (y, .kw .whr :: d)) → GE d (some (z, .ed :: r)) → GU ts (some (.upd t w (.two x.1 x.2 y.1 y.2) (some z)))
inductive GD : List Tk → Option Dr → Prop
  | c0 {r} : GD (.ed :: r) none
  | c1 {r} : GD (.kw .frm :: .ed :: r) none
  | c2 {t r} : GD (.kw .frm :: .v (.nam t) :: .ed :: r) (some (.del t none))
  | c3 {t b} : GE b none → GD (.kw .frm :: .v (.nam t) :: .kw .whr :: b) none
  | c4 {t b z r} : GE b (some (z, .ed :: r)) → GD (.kw .frm :: .v (.nam t) :: .kw .whr :: b) (some (.del t (some z)))
@[reducible] def ChP (c : Cx) (W : List Dat) (T : Str) (i dp : Int) (f : Addr) (o : Option Dr) : Prop := match o with
    | none => Rf c 100 f [.inst 1160 0] (CS T W i dp)
    | some x => Ge W fun j => CallOk c 100 f [.inst 1160 0] (CS T W i dp) (.ok (.d x.d) (CS T W j dp))
section
variable {c : Cx} {mg mb : Str → Option Value} (B : Base c.w c.h₀ mg mb) {i : Int} {W : List Dat} (T : Str) (dp : Int)
include B
theorem upC {ts : List Tk} {o : Option Dr} (g : GU ts o) (w : Ws W i ts) (hd : dp < 39) : ChP c W T i dp 1143 o := by
  have nw : ∀ {a b : Str}, isS a b x_2c = isS a b x_2c := rfl
  revert w
  cases g with
  | c0 gc =>
    intro w
    obtain ⟨b, m, p0, h⟩ := cfC B T dp gc w
    exact ⟨b, m, p0, cx B [.call [0, 1, 2, 3] h]⟩
  | c1 gc =>
    intro w
    obtain ⟨j, ⟨p, w1, -⟩, hc⟩ := cfC B T dp gc w
    obtain ⟨b, m, p0, h⟩ := nnN B w1 T dp (rfl : isF s_end s_0 = false)
    exact ⟨b, m, p0, cx B [.call [0, 1, 2, 3] hc, .call [2, 3] h]⟩
  | c2 gc =>
    intro w
    obtain ⟨j, ⟨p, w1, q, w2, -⟩, hc⟩ := cfC B T dp gc w
    obtain ⟨b, m, p0, h⟩ := nkN B w2 T dp (k := s_SET) rfl (by decide)
    exact ⟨b, m, p0, cx B [.call [0, 1, 2, 3] hc, .call [2, 3] (nnY B w1 T dp (nF B _)), .call [2, 3] h]⟩
  | c3 gc ga =>
    intro w
    obtain ⟨j, ⟨p, w1, q, w2, w3⟩, hc⟩ := cfC B T dp gc w
    obtain ⟨b, m, p0, h⟩ := asC B T dp ga w3 hd
    exact ⟨b, m, p0, cx B [.call [0, 1, 2, 3] hc, .call [2, 3] (nnY B w1 T dp (nF B _)), .call [2, 3] (nkY B w2 T dp (k := s_SET) rfl), .call [0, 1, 2, 3] h]⟩
  | c4 gc ga gb =>
    intro w
    obtain ⟨j, ⟨p, w1, q, w2, w3⟩, hc⟩ := cfC B T dp gc w
    obtain ⟨j2, ⟨p2, w4, w5⟩, ha⟩ := asC B T dp ga w3 hd
    obtain ⟨b, m, p0, h⟩ := asC B T dp gb w5 hd
    exact ⟨b, m, p0, cx B [.call [0, 1, 2, 3] hc, .call [2, 3] (nnY B w1 T dp (nF B _)), .call [2, 3] (nkY B w2 T dp (k := s_SET) rfl), .call [0, 1, 2, 3] ha, .call [2, 3] (tsY B w4 T dp (k := x_2c) rfl), .call [0, 1, 2, 3] h]⟩
  | c5 gc ga gb =>
    intro w
    obtain ⟨j, ⟨p, w1, q, w2, w3⟩, hc⟩ := cfC B T dp gc w
    obtain ⟨j2, ⟨p2, w4, w5⟩, ha⟩ := asC B T dp ga w3 hd
    obtain ⟨b, m, p0, h⟩ := exC B T dp gb w5 hd
    exact ⟨b, m, p0, cx B [.call [0, 1, 2, 3] hc, .call [2, 3] (nnY B w1 T dp (nF B _)), .call [2, 3] (nkY B w2 T dp (k := s_SET) rfl), .call [0, 1, 2, 3] ha, .call [2, 3] (tsN B w4 T dp (k := x_2c) rfl), .call [2, 3] (tkY B w4 T dp (k := s_WHERE) rfl), .call [1, 2, 3] h]⟩
  | c6 gc ga =>
    intro w
    obtain ⟨j, ⟨p, w1, q, w2, w3⟩, hc⟩ := cfC B T dp gc w
    obtain ⟨j2, ⟨p2, w4, w5⟩, ha⟩ := asC B T dp ga w3 hd
    exact ⟨j2, p2, w4, cv B [.call [0, 1, 2, 3] hc, .call [2, 3] (nnY B w1 T dp (nF B _)), .call [2, 3] (nkY B w2 T dp (k := s_SET) rfl), .call [0, 1, 2, 3] ha, .call [2, 3] (tsN B w4 T dp (k := x_2c) rfl), .call [2, 3] (tkN B w4 T dp (k := s_WHERE) rfl)]⟩
  | c7 gc ga gb =>
    intro w
    obtain ⟨j, ⟨p, w1, q, w2, w3⟩, hc⟩ := cfC B T dp gc w
    obtain ⟨j2, ⟨p2, w4, w5⟩, ha⟩ := asC B T dp ga w3 hd
    obtain ⟨j3, ⟨p3, w6, -⟩, he⟩ := exC B T dp gb w5 hd
    exact ⟨j3, p3, w6, cv B [.call [0, 1, 2, 3] hc, .call [2, 3] (nnY B w1 T dp (nF B _)), .call [2, 3] (nkY B w2 T dp (k := s_SET) rfl), .call [0, 1, 2, 3] ha, .call [2, 3] (tsN B w4 T dp (k := x_2c) rfl), .call [2, 3] (tkY B w4 T dp (k := s_WHERE) rfl), .call [1, 2, 3] he]⟩
  | c8 gc ga gb ge =>
    intro w
    obtain ⟨j, ⟨p, w1, q, w2, w3⟩, hc⟩ := cfC B T dp gc w
    obtain ⟨j2, ⟨p2, w4, w5⟩, ha⟩ := asC B T dp ga w3 hd
    obtain ⟨j3, ⟨p3, w6, w7⟩, hb⟩ := asC B T dp gb w5 hd
    obtain ⟨b, m, p0, h⟩ := exC B T dp ge w7 hd
    exact ⟨b, m, p0, cx B [.call [0, 1, 2, 3] hc, .call [2, 3] (nnY B w1 T dp (nF B _)), .call [2, 3] (nkY B w2 T dp (k := s_SET) rfl), .call [0, 1, 2, 3] ha, .call [2, 3] (tsY B w4 T dp (k := x_2c) rfl), .call [0, 1, 2, 3] hb, hO 1, .call [2, 3] (tsN B w6 T dp (k := x_2c) rfl), .call [2, 3] (tkY B w6 T dp (k := s_WHERE) rfl), .call [1, 2, 3] h]⟩
  | c9 gc ga gb =>
    intro w
    obtain ⟨j, ⟨p, w1, q, w2, w3⟩, hc⟩ := cfC B T dp gc w
    obtain ⟨j2, ⟨p2, w4, w5⟩, ha⟩ := asC B T dp ga w3 hd
    obtain ⟨j3, ⟨p3, w6, w7⟩, hb⟩ := asC B T dp gb w5 hd
    exact ⟨j3, p3, w6, cv B [.call [0, 1, 2, 3] hc, .call [2, 3] (nnY B w1 T dp (nF B _)), .call [2, 3] (nkY B w2 T dp (k := s_SET) rfl), .call [0, 1, 2, 3] ha, .call [2, 3] (tsY B w4 T dp (k := x_2c) rfl), .call [0, 1, 2, 3] hb, hO 1, .call [2, 3] (tsN B w6 T dp (k := x_2c) rfl), .call [2, 3] (tkN B w6 T dp (k := s_WHERE) rfl)]⟩
  | c10 gc ga gb ge =>
    intro w
    obtain ⟨j, ⟨p, w1, q, w2, w3⟩, hc⟩ := cfC B T dp gc w
    obtain ⟨j2, ⟨p2, w4, w5⟩, ha⟩ := asC B T dp ga w3 hd
    obtain ⟨j3, ⟨p3, w6, w7⟩, hb⟩ := asC B T dp gb w5 hd
    obtain ⟨j4, ⟨p4, w8, -⟩, he⟩ := exC B T dp ge w7 hd
    exact ⟨j4, p4, w8, cv B [.call [0, 1, 2, 3] hc, .call [2, 3] (nnY B w1 T dp (nF B _)), .call [2, 3] (nkY B w2 T dp (k := s_SET) rfl), .call [0, 1, 2, 3] ha, .call [2, 3] (tsY B w4 T dp (k := x_2c) rfl), .call [0, 1, 2, 3] hb, hO 1, .call [2, 3] (tsN B w6 T dp (k := x_2c) rfl), .call [2, 3] (tkY B w6 T dp (k := s_WHERE) rfl), .call [1, 2, 3] he]⟩
theorem deC {ts : List Tk} {o : Option Dr} (g : GD ts o) (w : Ws W i ts) (hd : dp < 39) : ChP c W T i dp 1157 o := by
  revert w
  cases g with
  | c0 =>
    intro w
    obtain ⟨p, w1, -⟩ := w
    obtain ⟨b, m, p0, h⟩ := nkN B w1 T dp (k := s_FROM) rfl (by decide)
    exact ⟨b, m, p0, cx B [.call [2, 3] h]⟩
  | c1 =>
    intro w
    obtain ⟨p, w1, q, w2, -⟩ := w
    obtain ⟨b, m, p0, h⟩ := nnN B w2 T dp (rfl : isF s_end s_0 = false)
    exact ⟨b, m, p0, cx B [.call [2, 3] (nkY B w1 T dp (k := s_FROM) rfl), .call [2, 3] h]⟩
  | c2 =>
    intro w
    obtain ⟨p, w1, q, w2, r, w3, -⟩ := w
    exact ⟨_, r, w3, cv B [.call [2, 3] (nkY B w1 T dp (k := s_FROM) rfl), .call [2, 3] (nnY B w2 T dp (nF B _)), .call [2, 3] (tkN B w3 T dp (k := s_WHERE) rfl)]⟩
  | c3 ge =>
    intro w
    obtain ⟨p, w1, q, w2, r, w3, w4⟩ := w
    obtain ⟨b, m, p0, h⟩ := exC B T dp ge w4 hd
    exact ⟨b, m, p0, cx B [.call [2, 3] (nkY B w1 T dp (k := s_FROM) rfl), .call [2, 3] (nnY B w2 T dp (nF B _)), .call [2, 3] (tkY B w3 T dp (k := s_WHERE) rfl), .call [1, 2, 3] h]⟩
  | c4 ge =>
    intro w
    obtain ⟨p, w1, q, w2, r, w3, w4⟩ := w
    obtain ⟨j, ⟨p4, w8, -⟩, h⟩ := exC B T dp ge w4 hd
    exact ⟨_, p4, w8, cv B [.call [2, 3] (nkY B w1 T dp (k := s_FROM) rfl), .call [2, 3] (nnY B w2 T dp (nF B _)), .call [2, 3] (tkY B w3 T dp (k := s_WHERE) rfl), .call [1, 2, 3] h]⟩
end
noncomputable def s_SELECT : Str := ⟨#[83, 69, 76, 69, 67, 84]⟩
noncomputable def x_56414c554553206f722053454c454354206973206d697373696e67 : Str := ⟨#[86, 65, 76, 85, 69, 83, 32, 111, 114, 32, 83, 69, 76, 69, 67, 84, 32, 105, 115, 32, 109, 105, 115, 115, 105, 110, 103]⟩
inductive GN : List Tk → Option (Co × List Tk) → Prop
  | n0 {r} : GN (.lp :: .ed :: r) none
  | n1 {n r} : GN (.lp :: .v (.nam n) :: .ed :: r) none
  | n2 {n r} : GN (.lp :: .v (.nam n) :: .cm :: .ed :: r) none
  | n3 {n m r} : GN (.lp :: .v (.nam n) :: .cm :: .v (.nam m) :: .ed :: r) none
  | k1 {n r} : GN (.lp :: .v (.nam n) :: .rp :: r) (some (.one n, r))
  | k2 {n m r} : GN (.lp :: .v (.nam n) :: .cm :: .v (.nam m) :: .rp :: r) (some (.two n m, r))
noncomputable def Co.dl : Co → List Dat
  | .no => [] | .one n => [.str false n.s] | .two n m => [.str false n.s, .str false m.s]
theorem GN.d {ts r : List Tk} {o : Co} (g : GN ts (some (o, r))) : o.d = .lst false o.dl := by cases g <;> rfl
noncomputable def insX (t : Nm) (w : Cf) (d : Dat) : Dat := .inst 504 [(s_table, .str false t.s), (s_columns, d), (s_select, .none), (s_conflict, .str false w.s)]
theorem CallOk.ins {c : Cx} {n : Nat} {f : Addr} {vs : List SV} {σ σ' : St} {t : Nm} {w : Cf} {o : Co} (h : CallOk c n f vs σ (.ok (.d (insX t w (.lst false o.dl))) σ')) (e : o.d = .lst false o.dl) : CallOk c n f vs σ (.ok (.d (Dr.d (.ins t w o))) σ') := by
  show CallOk c n f vs σ (.ok (.d (insX t w o.d)) σ')
  rw [e]; exact h
inductive GI : List Tk → Option Dr → Prop
  | c0 {ts} : GC ts none → GI (.kw .ins :: ts) none
  | c1 {ts w r} : GC ts (some (w, .ed :: r)) → GI (.kw .ins :: ts) none
  | c2 {ts w r} : GC ts (some (w, .kw .into :: .ed :: r)) → GI (.kw .ins :: ts) none
  | c3 {ts w t r} : GC ts (some (w, .kw .into :: .v (.nam t) :: .ed :: r)) → GI (.kw .ins :: ts) none
  | c4 {ts w t r} : GC ts (some (w, .kw .into :: .v (.nam t) :: .kw .dflt :: .ed :: r)) → GI (.kw .ins :: ts) none
  | c5 {ts w t r} : GC ts (some (w, .kw .into :: .v (.nam t) :: .kw .dflt :: .kw .vals :: .ed :: r)) → GI (.kw .ins :: ts) (some (.ins t w .no))
  | c6 {ts w t a} : GC ts (some (w, .kw .into :: .v (.nam t) :: .lp :: a)) → GN (.lp :: a) none → GI (.kw .ins :: ts) none
  | c7 {ts w t a o r} : GC ts (some (w, .kw .into :: .v (.nam t) :: .lp :: a)) → GN (.lp :: a) (some (o, .ed :: r)) → GI (.kw .ins :: ts) none
  | c8 {ts w t a o r} : GC ts (some (w, .kw .into :: .v (.nam t) :: .lp :: a)) → GN (.lp :: a) (some (o, .kw .dflt :: .ed :: r)) → GI (.kw .ins :: ts) none
  | c9 {ts w t a o r} : GC ts (some (w, .kw .into :: .v (.nam t) :: .lp :: a)) → GN (.lp :: a) (some (o, .kw .dflt :: .kw .vals :: .ed :: r)) → GI (.kw .ins :: ts) (some (.ins t w o))
  | d5 {t r} : GI (.kw .repl :: .kw .into :: .v (.nam t) :: .kw .dflt :: .kw .vals :: .ed :: r) (some (.ins t .re .no))
  | d9 {t a o r} : GN (.lp :: a) (some (o, .kw .dflt :: .kw .vals :: .ed :: r)) → GI (.kw .repl :: .kw .into :: .v (.nam t) :: .lp :: a) (some (.ins t .re o))
@[reducible] def NaP (c : Cx) (W : List Dat) (T : Str) (i dp : Int) (o : Option (Co × List Tk)) : Prop := match o with
    | none => Rf c 30 907 [.inst 1293 0] (SS T W i dp)
    | some (x, r) => Gx W r fun j => CallOk c 30 907 [.inst 1293 0] (SS T W i dp) (.ok (.lst 3) (SS T W j dp ++ [.dead, .lst x.dl]))
section
variable {c : Cx} {mg mb : Str → Option Value} (B : Base c.w c.h₀ mg mb) {i : Int} {W : List Dat} (T : Str) (dp : Int)
include B
theorem naC {ts : List Tk} {o : Option (Co × List Tk)} (g : GN ts o) (w : Ws W i ts) : NaP c W T i dp o := by
  have L := fun {p} (w : Wa W i s_sign x_28 .none p) => nsY B w T dp (k := x_28) rfl
  revert w
  cases g with
  | n0 =>
    intro w
    obtain ⟨p, w1, q, w2, -⟩ := w
    obtain ⟨b, m, p0, h⟩ := nnN B w2 T dp (rfl : isF s_end s_0 = false)
    exact ⟨b, m, p0, cx B [.call [0, 1] (L w1), .call [0, 1] h]⟩
  | n1 =>
    intro w
    obtain ⟨p, w1, q, w2, r, w3, -⟩ := w
    obtain ⟨b, m, p0, h⟩ := nsN B w3 T dp (k := x_29) rfl (by decide)
    exact ⟨b, m, p0, cx B [.call [0, 1] (L w1), .call [0, 1] (nnY B w2 T dp (nF B _)), .call [0, 1] (tsN B w3 T dp (k := x_2c) rfl), .call [0, 1] h]⟩
  | n2 =>
    intro w
    obtain ⟨p, w1, q, w2, r, w3, s, w4, -⟩ := w
    obtain ⟨b, m, p0, h⟩ := nnN B w4 T dp (rfl : isF s_end s_0 = false)
    exact ⟨b, m, p0, cx B [.call [0, 1] (L w1), .call [0, 1] (nnY B w2 T dp (nF B _)), .call [0, 1] (tsY B w3 T dp (k := x_2c) rfl), .call [0, 1] h]⟩
  | n3 =>
    intro w
    obtain ⟨p, w1, q, w2, r, w3, s, w4, u, w5, -⟩ := w
    obtain ⟨b, m, p0, h⟩ := nsN B w5 T dp (k := x_29) rfl (by decide)
    exact ⟨b, m, p0, cx B [.call [0, 1] (L w1), .call [0, 1] (nnY B w2 T dp (nF B _)), .call [0, 1] (tsY B w3 T dp (k := x_2c) rfl), .call [0, 1] (nnY B w4 T dp (nF B _)), hO 1, .call [0, 1] (tsN B w5 T dp (k := x_2c) rfl), .call [0, 1] h]⟩
  | k1 =>
    intro w
    obtain ⟨p, w1, q, w2, r, w3, w6⟩ := w
    exact ⟨_, w6, cV B (k := 100) (n := 4) [.call [0, 1] (L w1), .call [0, 1] (nnY B w2 T dp (nF B _)), .call [0, 1] (tsN B w3 T dp (k := x_2c) rfl), .call [0, 1] (nsY B w3 T dp (k := x_29) rfl)] (by kernel_rfl) (by decide : 2 ≤ 4)⟩
  | k2 =>
    intro w
    obtain ⟨p, w1, q, w2, r, w3, s, w4, u, w5, w6⟩ := w
    exact ⟨_, w6, cV B (k := 100) (n := 4) [.call [0, 1] (L w1), .call [0, 1] (nnY B w2 T dp (nF B _)), .call [0, 1] (tsY B w3 T dp (k := x_2c) rfl), .call [0, 1] (nnY B w4 T dp (nF B _)), hO 1, .call [0, 1] (tsN B w5 T dp (k := x_2c) rfl), .call [0, 1] (nsY B w5 T dp (k := x_29) rfl)] (by kernel_rfl) (by decide : 2 ≤ 4)⟩
theorem inC {ts : List Tk} {o : Option Dr} (g : GI ts o) (w : Ws W i ts) : ChP c W T i dp 1136 o := by
  have ty := fun {i p} (w : Wa W i s_name s_INTO (.str false s_INTO) p) => nkY B w T dp (k := s_INTO) rfl
  have nn := fun {i n p} (w : Wa W i s_name (Nm.x n) (.str false n.s) p) => nnY B w T dp (nF B n)
  revert w
  cases g with
  | c0 gc =>
    intro w
    obtain ⟨p0, w0, w⟩ := w
    obtain ⟨b, m, q, h⟩ := cfC B T dp gc w
    exact ⟨b, m, q, cx B [.call [2, 3] (tkN B w0 T dp (k := s_REPLACE) rfl), .call [2, 3] (nkY B w0 T dp (k := s_INSERT) rfl), .call [0, 1, 2, 3] h]⟩
  | c1 gc =>
    intro w
    obtain ⟨p0, w0, w⟩ := w
    obtain ⟨j, w, hc⟩ := cfC B T dp gc w
    obtain ⟨p1, w1, -⟩ := w
    obtain ⟨b, m, q, h⟩ := nkN B w1 T dp (k := s_INTO) rfl (by decide)
    exact ⟨b, m, q, cx B ([.call [2, 3] (tkN B w0 T dp (k := s_REPLACE) rfl), .call [2, 3] (nkY B w0 T dp (k := s_INSERT) rfl), .call [0, 1, 2, 3] hc, .call [2, 3] h])⟩
  | c2 gc =>
    intro w
    obtain ⟨p0, w0, w⟩ := w
    obtain ⟨j, w, hc⟩ := cfC B T dp gc w
    obtain ⟨p1, w1, p2, w2, -⟩ := w
    obtain ⟨b, m, q, h⟩ := nnN B w2 T dp (rfl : isF s_end s_0 = false)
    exact ⟨b, m, q, cx B ([.call [2, 3] (tkN B w0 T dp (k := s_REPLACE) rfl), .call [2, 3] (nkY B w0 T dp (k := s_INSERT) rfl), .call [0, 1, 2, 3] hc, .call [2, 3] (ty w1), .call [2, 3] h])⟩
  | c3 gc =>
    intro w
    obtain ⟨p0, w0, w⟩ := w
    obtain ⟨j, w, hc⟩ := cfC B T dp gc w
    obtain ⟨p1, w1, p2, w2, pe, we, -⟩ := w
    exact ⟨false, x_56414c554553206f722053454c454354206973206d697373696e67, pe, cx B ([.call [2, 3] (tkN B w0 T dp (k := s_REPLACE) rfl), .call [2, 3] (nkY B w0 T dp (k := s_INSERT) rfl), .call [0, 1, 2, 3] hc, .call [2, 3] (ty w1), .call [2, 3] (nn w2), .call [2, 3] (isB B we T dp (k := x_28) (b := false) rfl), .call [2, 3] (tkN B we T dp (k := s_DEFAULT) rfl), .call [2, 3] (ikB B we T dp (k := s_SELECT) (b := false) rfl), .call [2, 3] (ikB B we T dp (k := s_VALUES) (b := false) rfl), .o we.l, .x we.g])⟩
  | c4 gc =>
    intro w
    obtain ⟨p0, w0, w⟩ := w
    obtain ⟨j, w, hc⟩ := cfC B T dp gc w
    obtain ⟨p1, w1, p2, w2, p4, w4, p5, w5, -⟩ := w
    obtain ⟨b, m, q, h⟩ := nkN B w5 T dp (k := s_VALUES) rfl (by decide)
    exact ⟨b, m, q, cx B ([.call [2, 3] (tkN B w0 T dp (k := s_REPLACE) rfl), .call [2, 3] (nkY B w0 T dp (k := s_INSERT) rfl), .call [0, 1, 2, 3] hc, .call [2, 3] (ty w1), .call [2, 3] (nn w2), .call [2, 3] (isB B w4 T dp (k := x_28) (b := false) rfl), .call [2, 3] (tkY B w4 T dp (k := s_DEFAULT) rfl), .call [2, 3] h])⟩
  | c5 gc =>
    intro w
    obtain ⟨p0, w0, w⟩ := w
    obtain ⟨j, w, hc⟩ := cfC B T dp gc w
    obtain ⟨p1, w1, p2, w2, p4, w4, p5, w5, pe, we, -⟩ := w
    exact ⟨_, pe, we, cv B ([.call [2, 3] (tkN B w0 T dp (k := s_REPLACE) rfl), .call [2, 3] (nkY B w0 T dp (k := s_INSERT) rfl), .call [0, 1, 2, 3] hc, .call [2, 3] (ty w1), .call [2, 3] (nn w2), .call [2, 3] (isB B w4 T dp (k := x_28) (b := false) rfl), .call [2, 3] (tkY B w4 T dp (k := s_DEFAULT) rfl), .call [2, 3] (nkY B w5 T dp (k := s_VALUES) rfl)])⟩
  | c6 gc ga =>
    intro w
    obtain ⟨p0, w0, w⟩ := w
    obtain ⟨j, w, hc⟩ := cfC B T dp gc w
    obtain ⟨p1, w1, p2, w2, w3⟩ := w
    have w3' := w3
    obtain ⟨pL, wL, -⟩ := w3'
    obtain ⟨b, m, q, h⟩ := naC B T dp ga w3
    exact ⟨b, m, q, cx B ([.call [2, 3] (tkN B w0 T dp (k := s_REPLACE) rfl), .call [2, 3] (nkY B w0 T dp (k := s_INSERT) rfl), .call [0, 1, 2, 3] hc, .call [2, 3] (ty w1), .call [2, 3] (nn w2), .call [2, 3] (isB B wL T dp (k := x_28) (b := true) rfl), .call [2, 3] h])⟩
  | c7 gc ga =>
    intro w
    obtain ⟨p0, w0, w⟩ := w
    obtain ⟨j, w, hc⟩ := cfC B T dp gc w
    obtain ⟨p1, w1, p2, w2, w3⟩ := w
    have w3' := w3
    obtain ⟨pL, wL, -⟩ := w3'
    obtain ⟨j, ⟨pe, we, -⟩, hn⟩ := naC B T dp ga w3
    exact ⟨false, x_56414c554553206f722053454c454354206973206d697373696e67, pe, cx B ([.call [2, 3] (tkN B w0 T dp (k := s_REPLACE) rfl), .call [2, 3] (nkY B w0 T dp (k := s_INSERT) rfl), .call [0, 1, 2, 3] hc, .call [2, 3] (ty w1), .call [2, 3] (nn w2), .call [2, 3] (isB B wL T dp (k := x_28) (b := true) rfl), .call [2, 3] hn, .call [2, 3] (tkN B we T dp (k := s_DEFAULT) rfl), .call [2, 3] (ikB B we T dp (k := s_SELECT) (b := false) rfl), .call [2, 3] (ikB B we T dp (k := s_VALUES) (b := false) rfl), .o we.l, .x we.g])⟩
  | c8 gc ga =>
    intro w
    obtain ⟨p0, w0, w⟩ := w
    obtain ⟨j, w, hc⟩ := cfC B T dp gc w
    obtain ⟨p1, w1, p2, w2, w3⟩ := w
    have w3' := w3
    obtain ⟨pL, wL, -⟩ := w3'
    obtain ⟨j, ⟨p4, w4, p5, w5, -⟩, hn⟩ := naC B T dp ga w3
    obtain ⟨b, m, q, h⟩ := nkN B w5 T dp (k := s_VALUES) rfl (by decide)
    exact ⟨b, m, q, cx B ([.call [2, 3] (tkN B w0 T dp (k := s_REPLACE) rfl), .call [2, 3] (nkY B w0 T dp (k := s_INSERT) rfl), .call [0, 1, 2, 3] hc, .call [2, 3] (ty w1), .call [2, 3] (nn w2), .call [2, 3] (isB B wL T dp (k := x_28) (b := true) rfl), .call [2, 3] hn, .call [2, 3] (tkY B w4 T dp (k := s_DEFAULT) rfl), .call [2, 3] h])⟩
  | c9 gc ga =>
    intro w
    obtain ⟨p0, w0, w⟩ := w
    obtain ⟨j, w, hc⟩ := cfC B T dp gc w
    obtain ⟨p1, w1, p2, w2, w3⟩ := w
    have w3' := w3
    obtain ⟨pL, wL, -⟩ := w3'
    obtain ⟨j, ⟨p4, w4, p5, w5, pe, we, -⟩, hn⟩ := naC B T dp ga w3
    exact ⟨_, pe, we, (cv B ([.call [2, 3] (tkN B w0 T dp (k := s_REPLACE) rfl), .call [2, 3] (nkY B w0 T dp (k := s_INSERT) rfl), .call [0, 1, 2, 3] hc, .call [2, 3] (ty w1), .call [2, 3] (nn w2), .call [2, 3] (isB B wL T dp (k := x_28) (b := true) rfl), .call [2, 3] hn, .call [2, 3] (tkY B w4 T dp (k := s_DEFAULT) rfl), .call [2, 3] (nkY B w5 T dp (k := s_VALUES) rfl)])).ins ga.d⟩
  | d5 =>
    intro w
    obtain ⟨p0, w0, w⟩ := w
    obtain ⟨p1, w1, p2, w2, p4, w4, p5, w5, pe, we, -⟩ := w
    exact ⟨_, pe, we, cv B ([.call [2, 3] (tkY B w0 T dp (k := s_REPLACE) rfl), .call [2, 3] (ty w1), .call [2, 3] (nn w2), .call [2, 3] (isB B w4 T dp (k := x_28) (b := false) rfl), .call [2, 3] (tkY B w4 T dp (k := s_DEFAULT) rfl), .call [2, 3] (nkY B w5 T dp (k := s_VALUES) rfl)])⟩
  | d9 ga =>
    intro w
    obtain ⟨p0, w0, w⟩ := w
    obtain ⟨p1, w1, p2, w2, w3⟩ := w
    have w3' := w3
    obtain ⟨pL, wL, -⟩ := w3'
    obtain ⟨j, ⟨p4, w4, p5, w5, pe, we, -⟩, hn⟩ := naC B T dp ga w3
    exact ⟨_, pe, we, (cv B ([.call [2, 3] (tkY B w0 T dp (k := s_REPLACE) rfl), .call [2, 3] (ty w1), .call [2, 3] (nn w2), .call [2, 3] (isB B wL T dp (k := x_28) (b := true) rfl), .call [2, 3] hn, .call [2, 3] (tkY B w4 T dp (k := s_DEFAULT) rfl), .call [2, 3] (nkY B w5 T dp (k := s_VALUES) rfl)])).ins ga.d⟩
end
noncomputable def s_found : Str := ⟨#[102, 111, 117, 110, 100]⟩
noncomputable def s_greatest : Str := ⟨#[103, 114, 101, 97, 116, 101, 115, 116]⟩
noncomputable def s_read : Str := ⟨#[114, 101, 97, 100]⟩
noncomputable def s_refused : Str := ⟨#[114, 101, 102, 117, 115, 101, 100]⟩
inductive FVf : List (Str × SV) → List (Str × SV) → Prop
  | n : FVf [] []
  | c {k x y l r} : FV x y → FVf l r → FVf ((k, x) :: l) ((k, y) :: r)
theorem FVf.rf (l : List (Str × SV)) : FVf l l := by
  induction l with
  | nil => exact .n
  | cons p l ih => exact .c .r ih
theorem FVf.ok {W : Wd} {l l' : List (Str × SV)} {es : List DictEntry} (f : FVf l l') (h : VRf W l es) : VRf W l' es := by
  induction f generalizing es with
  | n => exact h
  | c a _ ih => cases h with
    | cons x y => exact .cons (a.ok x) (ih y)
theorem FVf.lk {x : Str} {s' : SV} {l l' : List (Str × SV)} (f : FVf l l') (h : P465.lk l' x = some s') : ∃ s, P465.lk l x = some s ∧ FV s s' := by
  induction f with
  | n => exact nn h
  | c p _ ih =>
    exact lk_cons h (fun e e' => ⟨_, lk_hd e, e' ▸ p⟩) fun e h => by rw [lk_tl e]; exact ih h
inductive FN : En → En → Prop
  | r {e} : FN e e
  | f {l l'} : FVf l l' → FN (.flds l) (.flds l')
  | c {l l'} : FVf l l' → FN (.loc l) (.loc l')
  | w {l l'} : (∀ x s', lk l' x = some s' → lk l x = some s') → FN (.loc l) (.loc l')
  | l {l l'} : FDs l l' → FN (.lst l) (.lst l')
inductive FNs : St → St → Prop
  | n : FNs [] []
  | c {a b l r} : FN a b → FNs l r → FNs (a :: l) (b :: r)
theorem FNs.len {σ σ' : St} (f : FNs σ σ') : σ.length = σ'.length := by
  induction f with
  | n => rfl
  | c _ _ ih => exact congrArg (· + 1) ih
theorem FNs.at {σ σ' : St} {i : Nat} {e' : En} (f : FNs σ σ') (h : σ'[i]? = some e') : ∃ e, σ[i]? = some e ∧ FN e e' := by
  induction f generalizing i with
  | n => exact nn h
  | c a _ ih => cases i with
    | zero => exact ⟨_, rfl, Option.some.inj h ▸ a⟩
    | succ i => exact ih h
theorem FN.ok {W : Wd} {fl : List Addr} {h : Heap} {a : Addr} {e e' : En} (q : FN e e') (r : ER W fl h a e) : ER W fl h a e' := by
  cases q with
  | r => exact r
  | f q => cases r with | flds z f g v l => exact .flds z f g (q.ok v) l
  | c q => cases r with | loc z m f => exact .loc z m fun x s k => let ⟨s0, k0, p⟩ := q.lk k; let ⟨v, e, y⟩ := f x s0 k0; ⟨v, e, p.ok y⟩
  | w q => cases r with | loc z m f => exact .loc z m fun x s k => f x s (q x s k)
  | l q => cases r with | lst z g v => exact .lst z g (q.ok v)
theorem Inv.fl {h₀ h : Heap} {fl : List Addr} {σ σ' : St} {W : Wd} (q : FNs σ σ') (I : Inv h₀ fl σ W h) : Inv h₀ fl σ' W h :=
  ⟨I.base, I.zk, by rw [I.len, q.len], I.nodup, I.low, fun i e k => let ⟨e0, k0, p⟩ := q.at k; let ⟨a, x, r⟩ := I.ent i e0 k0; ⟨a, x, p.ok r⟩, I.frz, I.stk, I.gr⟩
section
variable {c : Cx} {n : Nat} {f : Addr} {vs : List SV} {σ σ' σ1 : St} {v : SV} {r : CR}
theorem CallOk.sa (h : CallOk c n f vs σ r) (q : FNs σ' σ) : CallOk c n f vs σ' r :=
  fun p W sh as A I R Rr z => h p W sh as A (I.fl q) R Rr z
theorem CallOk.so (h : CallOk c n f vs σ (.ok v σ1)) (q : FNs σ1 σ') : CallOk c n f vs σ (.ok v σ') :=
  fun p W sh as A I R Rr z => h p W sh as A I R Rr fun sh' W' x S' I' R' r => z sh' W' x S' (I'.fl q) R' r
theorem WhK.sa {se : SE} {t : Expr} {body : List Stmt} {s : SR} (h : WhK c se t body σ s) (q : FNs σ' σ) : WhK c se t body σ' s :=
  fun p env W sh A V I R z => h p env W sh A V (I.fl q) R z
theorem WhK.so {se : SE} {t : Expr} {body : List Stmt} (h : WhK c se t body σ (.ok none σ1)) (q : FNs σ1 σ') : WhK c se t body σ (.ok none σ') :=
  fun p env W sh A V I R z => h p env W sh A V I R fun sh' W' x S' I' R' r => z sh' W' x S' (I'.fl q) R' r
end
noncomputable def ScS (T : Str) (p : SV) (f : List Dat) : St := [.flds [(s_text, sy T), (s_place, p), (s_found, .lst 1), (s_greatest, ni 0)], .lst f]
noncomputable def ScO (c : Cx) (T : Str) (W : List Dat) : Prop := ∃ p, CallOk c 100 721 [.inst 787 0] (ScS T (ni 0) []) (.ok (.lst 1) (ScS T (yi p) W))
noncomputable def tup3 (a : Str) (b : Dat) (d : Bool) : SV := .d (.tup [.str false a, b, .bool d])
noncomputable def RdO (c : Cx) (T : Str) (x : Dr) : Prop := CallOk c 110 1372 [sy T] [] (.ok (tup3 s_read (.tup x.r) true) [])
noncomputable def RdN (c : Cx) (T : Str) (pl : Int) : Prop := CallOk c 110 1372 [sy T] [] (.ok (tup3 s_refused (.int true pl) false) [])
inductive GR : List Tk → Option Dr → Prop
  | u {ts o} : GU ts o → GR (.kw .upd :: ts) o
  | d {ts o} : GD ts o → GR (.kw .del :: ts) o
  | i {ts o} : GI ts o → GR ts o
noncomputable def Dr.isU : Option Dr → Prop | some d => (match d with | .upd .. => True | _ => False) | none => True
noncomputable def Dr.isD : Option Dr → Prop | some d => (match d with | .del .. => True | _ => False) | none => True
noncomputable def Dr.isI : Option Dr → Prop | some d => (match d with | .ins .. => True | _ => False) | none => True
theorem GU.is {ts : List Tk} {o : Option Dr} (g : GU ts o) : Dr.isU o := by cases g <;> exact True.intro
theorem GD.is {ts : List Tk} {o : Option Dr} (g : GD ts o) : Dr.isD o := by cases g <;> exact True.intro
theorem GI.is {ts : List Tk} {o : Option Dr} (g : GI ts o) : Dr.isI o := by cases g <;> exact True.intro
inductive HdI : List Tk → Prop
  | mk (k : Kw) (r : List Tk) (a : isK s_name k.s s_UPDATE = false) (b : isK s_name k.s s_DELETE = false) : HdI (.kw k :: r)
theorem GI.hd {ts : List Tk} {o : Option Dr} (g : GI ts o) : HdI ts := by cases g <;> exact .mk _ _ rfl rfl
section
variable {c : Cx} {mg mb : Str → Option Value} (B : Base c.w c.h₀ mg mb) {W : List Dat} (T : Str)
include B
theorem rdX {pl : Int} {b : Bool} {m : Str} (h : CallOk c 100 721 [.inst 787 0] (ScS T (ni 0) []) (.exc (rx b m pl))) : RdN c T pl :=
  cv B [.call [4, 6] h]
theorem rdC {ts : List Tk} {o : Option Dr} (g : GR ts o) (hs : ScO c T W) (w : Ws W 0 ts) : match o with
    | none => ∃ pl, RdN c T pl
    | some x => RdO c T x := by
  obtain ⟨p, hs⟩ := hs
  have z : FNs [.flds [(s_text, sy T), (s_words, .lst 1), (s_at, ni 0), (s_depth, ni 0)], .lst W] (SS T W 0 0) := .c (.f (.c .r (.c .r (.c (.d .i) (.c (.d .i) .n))))) (.c .r .n)
  cases g with
  | @u ts o g =>
    obtain ⟨p0, w0, w1⟩ := w
    have k := (tkY B w0 T 0 (k := s_UPDATE) rfl).sa z
    cases o with
    | none =>
      obtain ⟨b, m, pl, h⟩ := upC B T 0 g w1 (by decide)
      exact ⟨pl, cv B [.call [4, 6] hs, .call [1, 6] k, .call [9, 7, 1, 6] h]⟩
    | some x =>
      cases x with
      | ins => exact g.is.elim
      | del => exact g.is.elim
      | upd t w s o =>
      obtain ⟨j, pl, we, h⟩ := upC B T 0 g w1 (by decide)
      exact cv B [.call [4, 6] hs, .call [1, 6] k, .call [9, 7, 1, 6] h, .call [] (drR B (.upd t w s o)), .o we.l, .x we.g, sqb s_end s_end true]
  | @d ts o g =>
    obtain ⟨p0, w0, w1⟩ := w
    have k := (tkN B w0 T 0 (k := s_UPDATE) rfl).sa z
    have k2 := tkY B w0 T 0 (k := s_DELETE) rfl
    cases o with
    | none =>
      obtain ⟨b, m, pl, h⟩ := deC B T 0 g w1 (by decide)
      exact ⟨pl, cv B [.call [4, 6] hs, .call [1, 6] k, .call [1, 6] k2, .call [9, 7, 1, 6] h]⟩
    | some x =>
      cases x with
      | ins => exact g.is.elim
      | upd => exact g.is.elim
      | del t o =>
      obtain ⟨j, pl, we, h⟩ := deC B T 0 g w1 (by decide)
      exact cv B [.call [4, 6] hs, .call [1, 6] k, .call [1, 6] k2, .call [9, 7, 1, 6] h, .call [] (drR B (.del t o)), .o we.l, .x we.g, sqb s_end s_end true]
  | @i ts o g =>
    obtain ⟨q, r, e1, e2⟩ := g.hd
    have w' := w
    obtain ⟨p0, w0, -⟩ := w'
    have k := (tkN B w0 T 0 (k := s_UPDATE) e1).sa z
    have k2 := tkN B w0 T 0 (k := s_DELETE) e2
    cases o with
    | none =>
      obtain ⟨b, m, pl, h⟩ := inC B T 0 g w
      exact ⟨pl, cv B [.call [4, 6] hs, .call [1, 6] k, .call [1, 6] k2, .call [9, 7, 1, 6] h]⟩
    | some x =>
      cases x with
      | upd => exact g.is.elim
      | del => exact g.is.elim
      | ins t wc o =>
      obtain ⟨j, pl, we, h⟩ := inC B T 0 g w
      exact cv B [.call [4, 6] hs, .call [1, 6] k, .call [1, 6] k2, .call [9, 7, 1, 6] h, .call [] (drR B (.ins t wc o)), .o we.l, .x we.g, sqb s_end s_end true]
end
noncomputable def s_abcdefghijklmnopqrstuvwxyzABCDEFGHIJKLMNOPQRSTUVWXYZ_ : Str := ⟨#[97, 98, 99, 100, 101, 102, 103, 104, 105, 106, 107, 108, 109, 110, 111, 112, 113, 114, 115, 116, 117, 118, 119, 120, 121, 122, 65, 66, 67, 68, 69, 70, 71, 72, 73, 74, 75, 76, 77, 78, 79, 80, 81, 82, 83, 84, 85, 86, 87, 88, 89, 90, 95]⟩
noncomputable def s_self : Str := ⟨#[115, 101, 108, 102]⟩
noncomputable def x_6162636465666768696a6b6c6d6e6f707172737475767778797a4142434445464748494a4b4c4d4e4f505152535455565758595a5f3031323334353637383924 : Str := ⟨#[97, 98, 99, 100, 101, 102, 103, 104, 105, 106, 107, 108, 109, 110, 111, 112, 113, 114, 115, 116, 117, 118, 119, 120, 121, 122, 65, 66, 67, 68, 69, 70, 71, 72, 73, 74, 75, 76, 77, 78, 79, 80, 81, 82, 83, 84, 85, 86, 87, 88, 89, 90, 95, 48, 49, 50, 51, 52, 53, 54, 55, 56, 57, 36]⟩
noncomputable abbrev Str.L (T : Str) : List Nat := T.cps.toList
noncomputable abbrev mkS (l : List Nat) : Str := ⟨l.toArray⟩
theorem mkS_L (l : List Nat) : (mkS l).cps.toList = l := rfl
theorem tslc (T : Str) {a b : Nat} (h : a ≤ b) : Txt.slice T (some (a : Int)) (some (b : Int)) = mkS ((T.cps.toList.drop a).take (b - a)) := by
  have e : Txt.slice T (some (a : Int)) (some (b : Int)) = StrLaws.sliceText T (some ((min a T.length : Nat) : Int)) (some ((min b T.length : Nat) : Int)) := by
    have : Builtin.Str.strSliceIndices (some (a : Int)) (some (b : Int)) 1 T.length = Builtin.Str.strSliceIndices (some ((min a T.length : Nat) : Int)) (some ((min b T.length : Nat) : Int)) 1 T.length := by
      unfold Builtin.Str.strSliceIndices
      dsimp only
      have q : ∀ k : Nat, (if (1 : Int) > 0 then max 0 (min (if (k : Int) < 0 then (k : Int) + (T.length : Int) else (k : Int)) (T.length : Int)) else max (-1) (min (if (k : Int) < 0 then (k : Int) + (T.length : Int) else (k : Int)) ((T.length : Int) - 1))) = ((min k T.length : Nat) : Int) := fun k => by
        rw [if_pos (by decide), if_neg (by omega)]; omega
      rw [q, q, q, q, Nat.min_assoc, Nat.min_assoc, Nat.min_self]
    unfold Txt.slice StrLaws.sliceText
    rw [this]
  rw [e, StrLaws.sliceText_nat T (by omega) (by omega)]
  have hl : T.length = T.cps.toList.length := by simp [Str.length]
  rw [hl]
  congr 2
  rcases Nat.le_total a T.cps.toList.length with h1 | h1
  · rw [Nat.min_eq_left h1]
    rcases Nat.le_total b T.cps.toList.length with h2 | h2
    · rw [Nat.min_eq_left h2]
    · rw [Nat.min_eq_right h2, List.take_of_length_le (by simp), List.take_of_length_le (by rw [List.length_drop]; omega)]
  · rw [Nat.min_eq_right h1, Nat.min_eq_right (by omega), List.drop_of_length_le h1, List.drop_of_length_le (Nat.le_refl _)]; simp
theorem slcL {T : Str} {a b : Nat} {u : List Nat} (h : a ≤ b) (e : (T.cps.toList.drop a).take (b - a) = u) : Txt.slice T (some (a : Int)) (some (b : Int)) = mkS u := by rw [tslc T h, e]
theorem sat {T : Str} {i c : Nat} (h : T.cps.toList[i]? = some c) : strAt T (i : Int) = some ⟨#[c]⟩ := by
  show (match nth T.cps.toList i with | some c => some (⟨#[c]⟩ : Str) | none => none) = _
  rw [nth_eq, h]
theorem lenT (T : Str) : T.length = T.cps.toList.length := by simp [Str.length]
theorem ltT {T : Str} {i c : Nat} (h : T.cps.toList[i]? = some c) : decide ((i : Int) < (T.length : Int)) = true := by
  have := (List.getElem?_eq_some_iff.mp h).1
  exact dT (by rw [lenT]; omega)
theorem geT {T : Str} {i : Nat} (h : T.length = i) : decide ((i : Int) < (T.length : Int)) = false := dF (by omega)
theorem i60 {T : Str} {i : Nat} (h0 : T.length ≤ 100000) (h : i ≤ T.length) : (i : Int) < 2 ^ 60 := by omega
theorem atLe {T : Str} {i c : Nat} (h : T.cps.toList[i]? = some c) : i < T.length := by
  have := (List.getElem?_eq_some_iff.mp h).1; rw [lenT]; exact this
noncomputable def LET : Str := s_abcdefghijklmnopqrstuvwxyzABCDEFGHIJKLMNOPQRSTUVWXYZ_
noncomputable def NMS : Str := x_6162636465666768696a6b6c6d6e6f707172737475767778797a4142434445464748494a4b4c4d4e4f505152535455565758595a5f3031323334353637383924
noncomputable def chI (c : Nat) (s : Str) : Bool := flip false (subS ⟨#[c]⟩ s)
section
variable {c : Cx} {mg mb : Str → Option Value} (B : Base c.w c.h₀ mg mb) {T : Str} (h0 : T.length ≤ 100000) (f : List Dat) (ch p : Nat)
include B h0
noncomputable def LSt (T : Str) (p : Nat) (f : List Dat) (ch e : Nat) : St := ScS T (yi p) f ++ [.loc [(s_self, .inst 787 0), (s_sign, sy ⟨#[ch]⟩), (s_text, sy T), (s_end, yi e)]]
noncomputable def NEnd (T : Str) (e : Nat) : Prop := T.length = e ∨ ∃ x, T.cps.toList[e]? = some x ∧ chI x NMS = false ∧ x ≤ 127
theorem bareL (k e : Nat) (hk : ∀ j, j < k → ∃ x, T.cps.toList[e + j]? = some x ∧ chI x NMS = true) (hn : NEnd T (e + k)) : Wh c 29 735 3 2 (LSt T p f ch e) (.ok none (LSt T p f ch (e + k))) := by
  induction k generalizing e with
  | zero =>
    rcases hn with hn | ⟨x, h1, h2, h3⟩
    · exact wE B (k := 100) [.o h0, .b (geT hn)] (by kernel_rfl)
    · exact wE B (k := 100) [.o h0, .b (ltT h1), .o (i60 h0 (Nat.le_of_lt (atLe h1))), .xs true (sat h1), .b h2, .o (i60 h0 (Nat.le_of_lt (atLe h1))), .xs true (sat h1), .b (dF (Int.not_lt.mpr (Int.ofNat_le.mpr h3)) : decide ((x : Int) > 127) = false)] (by kernel_rfl)
  | succ k ih =>
    obtain ⟨x, h1, h2⟩ := hk 0 (Nat.zero_lt_succ k)
    have ih := ih (e + 1) (fun j hj => by rw [Nat.add_assoc, Nat.add_comm 1]; exact hk (j + 1) (Nat.succ_lt_succ hj)) (by rw [Nat.add_assoc, Nat.add_comm 1]; exact hn)
    rw [Nat.add_assoc, Nat.add_comm 1] at ih
    exact wG B (k := 100) [.o h0, .b (ltT h1), .o (i60 h0 (Nat.le_of_lt (atLe h1))), .xs true (sat h1), .b h2] (by kernel_rfl) ih
end
noncomputable def x_612071756f7465206973206e6f7420636c6f736564 : Str := ⟨#[97, 32, 113, 117, 111, 116, 101, 32, 105, 115, 32, 110, 111, 116, 32, 99, 108, 111, 115, 101, 100]⟩
section
variable {T : Str} {p : Nat} {l : List Nat} (D : T.cps.toList.drop p = l)
include D
theorem drD (k : Nat) : T.cps.toList.drop (p + k) = l.drop k := by rw [← D, List.drop_drop]
theorem getD' {j x : Nat} (h : l[j]? = some x) : T.cps.toList[p + j]? = some x := by
  rw [← D, List.getElem?_drop] at h; exact h
theorem slD {a b : Nat} {u : List Nat} (hab : a ≤ b) (h : (l.drop a).take (b - a) = u) : Txt.slice T (some ((p + a : Nat) : Int)) (some ((p + b : Nat) : Int)) = mkS u :=
  slcL (by omega) (by rw [drD D, show p + b - (p + a) = b - a by omega]; exact h)
theorem lenD : T.cps.toList.length - p = l.length := by rw [← D, List.length_drop]
end
theorem slLe {T : Str} (h0 : T.length ≤ 100000) (a b : Option Int) : (Txt.slice T a b).length ≤ 100000 := Nat.le_trans (Txt.slice_le T a b) h0
theorem frm {T : Str} {b : Nat} : fromIndex T.length (b : Int) = b := by unfold fromIndex; rw [if_neg (by omega)]; omega
theorem gtD {T : Str} {v x : Nat} (h : T.cps.toList[v]? = some x) : T.cps.getD v 0 = x := StrLaws.getD_of_getElem? h
theorem fnd {T : Str} {b q : Nat} {mid r : List Nat} (D : T.cps.toList.drop b = mid ++ q :: r) (hm : ∀ x ∈ mid, x ≠ q) : Txt.find3 T ⟨#[q]⟩ (b : Int) = ((b + mid.length : Nat) : Int) := by
  have hq : T.cps.toList[b + mid.length]? = some q := getD' D (by simp)
  have hn : ∀ v, b ≤ v → v < b + mid.length → T.cps.getD v 0 ≠ q := fun v h1 h2 => by
    have hlt : v - b < mid.length := by omega
    have e : T.cps.toList[b + (v - b)]? = some mid[v - b] := getD' D (by rw [List.getElem?_append_left hlt]; exact List.getElem?_eq_getElem hlt)
    rw [show b + (v - b) = v by omega] at e
    rw [gtD e]
    exact hm _ (List.getElem_mem hlt)
  rcases StrLaws.find3_spec T q (b : Int) with ⟨-, h⟩ | ⟨k, e, h1, h2, h3, h4⟩
  · rw [frm] at h
    exact absurd (gtD hq) (h _ (by omega) (atLe hq))
  · rw [frm] at h1 h4
    rw [e]
    have : k = b + mid.length := by
      rcases Nat.lt_trichotomy k (b + mid.length) with h | h | h
      · exact absurd h3 (hn k h1 h)
      · exact h
      · exact absurd (gtD hq) (h4 _ (by omega) h)
    rw [this]
theorem fndN {T : Str} {b q : Nat} {l : List Nat} (D : T.cps.toList.drop b = l) (hm : ∀ x ∈ l, x ≠ q) : Txt.find3 T ⟨#[q]⟩ (b : Int) = -1 := by
  rcases StrLaws.find3_spec T q (b : Int) with ⟨h, -⟩ | ⟨k, e, h1, h2, h3, h4⟩
  · exact h
  · rw [frm] at h1
    rw [lenT] at h2
    have e : l[k - b]? = some T.cps.toList[k] := by
      rw [← D, List.getElem?_drop, show b + (k - b) = k by omega]; exact List.getElem?_eq_getElem h2
    have := gtD (T := T) (v := k) (List.getElem?_eq_getElem h2)
    exact absurd (this.symm.trans h3) (hm _ (List.mem_of_getElem? e))
theorem sqNe {u : List Nat} {q : Nat} (h : u ≠ [q]) : sq (mkS u) ⟨#[q]⟩ = false := by
  cases e : sq (mkS u) ⟨#[q]⟩ with
  | false => rfl
  | true => exact absurd (congrArg (fun s : Str => s.cps.toList) (sq_eq e)) h
theorem tk1 {r : List Nat} {q : Nat} (h : r.head? ≠ some q) : r.take 1 ≠ [q] := by
  cases r with
  | nil => intro e; cases e
  | cons a r => intro e; apply h; have : a = q := by simpa using e
                rw [this]; rfl
noncomputable def wq (kd tx : Str) (v : Dat) (p : Nat) : Dat := .inst 682 [(s_kind, .str false kd), (s_text, .str false tx), (s_value, v), (s_place, .int true p)]
section
variable {c : Cx} {mg mb : Str → Option Value} (B : Base c.w c.h₀ mg mb) {T : Str} (h0 : T.length ≤ 100000) (f : List Dat) (hf : f.length ≤ 100000) (p : Nat)
include B h0
theorem clA {q b : Nat} {mid r : List Nat} (D : T.cps.toList.drop b = mid ++ q :: r) (hm : ∀ x ∈ mid, x ≠ q) (hr : r.head? ≠ some q) :
    CallOk c 30 742 [.inst 787 0, sy ⟨#[q]⟩, yi b] (ScS T (yi p) f) (.ok (.d (.tup [.str true (mkS mid), .int true ((b + mid.length + 1 : Nat) : Int)])) (ScS T (yi p) f)) := by
  have s1 : Txt.slice T (some ((b + mid.length + 1 : Nat) : Int)) (some ((b + mid.length + 2 : Nat) : Int)) = mkS (r.take 1) := by
    have D2 : T.cps.toList.drop (b + mid.length) = q :: r := by rw [drD D]; simp
    exact slD D2 (a := 1) (b := 2) (by decide) rfl
  have s2 : Txt.slice T (some (b : Int)) (some ((b + mid.length : Nat) : Int)) = mkS mid := slcL (by omega) (by rw [D, Nat.add_sub_cancel_left]; simp)
  have hj : JoinOk s_0 [mkS mid] = true := joinOk_of (by
    have := slLe h0 (some (b : Int)) (some ((b + mid.length : Nat) : Int)); rw [s2] at this
    simp only [List.map, List.sum_cons, List.sum_nil, List.length, lens]; omega)
  exact cv B [.f true (fnd D hm), .b (dT (by omega) : decide (((b + mid.length : Nat) : Int) ≥ 0) = true), .s true s1 (slLe h0 _ _), .b (sqNe (tk1 hr)), .b (dF (by omega) : decide (((b + mid.length : Nat) : Int) < 0) = false), .s true s2 (slLe h0 _ _), hO 0, .o hj]
theorem clB {q b : Nat} {m1 m2 r : List Nat} (D : T.cps.toList.drop b = m1 ++ q :: (q :: (m2 ++ q :: r))) (hm : ∀ x ∈ m1, x ≠ q) (hm2 : ∀ x ∈ m2, x ≠ q) (hr : r.head? ≠ some q) :
    CallOk c 30 742 [.inst 787 0, sy ⟨#[q]⟩, yi b] (ScS T (yi p) f) (.ok (.d (.tup [.str true (mkS (m1 ++ q :: m2)), .int true ((b + m1.length + 2 + m2.length + 1 : Nat) : Int)])) (ScS T (yi p) f)) := by
  have D2 : T.cps.toList.drop (b + m1.length) = q :: q :: (m2 ++ q :: r) := by rw [drD D]; simp
  have D3 : T.cps.toList.drop (b + m1.length + 2) = m2 ++ q :: r := by rw [drD D2]; rfl
  have D4 : T.cps.toList.drop (b + m1.length + 2 + m2.length) = q :: r := by rw [drD D3]; simp
  have s1 : Txt.slice T (some ((b + m1.length + 1 : Nat) : Int)) (some ((b + m1.length + 2 : Nat) : Int)) = mkS [q] := slD D2 (a := 1) (b := 2) (by decide) rfl
  have s2 : Txt.slice T (some (b : Int)) (some ((b + m1.length + 1 : Nat) : Int)) = mkS (m1 ++ [q]) := slcL (by omega) (by rw [D, Nat.add_assoc, Nat.add_sub_cancel_left]; simp [List.take_append, List.take_of_length_le])
  have s3 : Txt.slice T (some ((b + m1.length + 2 + m2.length + 1 : Nat) : Int)) (some ((b + m1.length + 2 + m2.length + 2 : Nat) : Int)) = mkS (r.take 1) := slD D4 (a := 1) (b := 2) (by decide) rfl
  have s4 : Txt.slice T (some ((b + m1.length + 2 : Nat) : Int)) (some ((b + m1.length + 2 + m2.length : Nat) : Int)) = mkS m2 := slcL (by omega) (by rw [D3, Nat.add_sub_cancel_left]; simp)
  have hj : JoinOk s_0 [mkS (m1 ++ [q]), mkS m2] = true := joinOk_of (by
    have t1 := slLe h0 (some (b : Int)) (some ((b + m1.length + 1 : Nat) : Int)); rw [s2] at t1
    have t2 := slLe h0 (some ((b + m1.length + 2 : Nat) : Int)) (some ((b + m1.length + 2 + m2.length : Nat) : Int)); rw [s4] at t2
    simp only [List.map, List.sum_cons, List.sum_nil, List.length, lens]; omega)
  have e : Txt.join s_0 [mkS (m1 ++ [q]), mkS m2] = mkS (m1 ++ q :: m2) := by
    rw [join2]; show Str.mk ((m1 ++ [q]).toArray ++ #[] ++ m2.toArray) = _; simp
  rw [← e]
  exact cv B [.f true (fnd D hm), .b (dT (by omega) : decide (((b + m1.length : Nat) : Int) ≥ 0) = true), .s true s1 (slLe h0 _ _), .b (sq_refl (mkS [q]) : sq (mkS [q]) ⟨#[q]⟩ = true), .s true s2 (slLe h0 _ _), hO 0, .f true (fnd D3 hm2), .b (dT (by omega) : decide (((b + m1.length + 2 + m2.length : Nat) : Int) ≥ 0) = true), .s true s3 (slLe h0 _ _), .b (sqNe (tk1 hr)), .b (dF (by omega) : decide (((b + m1.length + 2 + m2.length : Nat) : Int) < 0) = false), .s true s4 (slLe h0 _ _), hO 1, .o hj]
theorem clN {q b : Nat} {l : List Nat} (D : T.cps.toList.drop b = l) (hm : ∀ x ∈ l, x ≠ q) : Rf c 30 742 [.inst 787 0, sy ⟨#[q]⟩, yi b] (ScS T (yi p) f) :=
  ⟨false, x_612071756f7465206973206e6f7420636c6f736564, p, cx B [.f true (fndN D hm), .b (by decide : decide ((-1 : Int) ≥ 0) = false), .b (by decide : decide ((-1 : Int) < 0) = true)]⟩
end
noncomputable def s_signs : Str := ⟨#[115, 105, 103, 110, 115]⟩
noncomputable def s_xX : Str := ⟨#[120, 88]⟩
noncomputable def x_27 : Str := ⟨#[39]⟩
noncomputable def x_30304146 : Str := ⟨#[48, 48, 65, 70]⟩
noncomputable def x_30313233343536373839 : Str := ⟨#[48, 49, 50, 51, 52, 53, 54, 55, 56, 57]⟩
noncomputable def x_3058 : Str := ⟨#[48, 88]⟩
noncomputable def x_3078 : Str := ⟨#[48, 120]⟩
noncomputable def Adj (r : List Nat) : Prop := r = [] ∨ ∃ x r', r = x :: r' ∧ (x = 32 ∨ x = 44 ∨ x = 41)
theorem Adj.ne {r : List Nat} {q : Nat} (h : Adj r) (h1 : q ≠ 32) (h2 : q ≠ 44) (h3 : q ≠ 41) : r.head? ≠ some q := by
  rcases h with rfl | ⟨x, r', rfl, h⟩
  · intro e; cases e
  · intro e; have e : x = q := by simpa using e
    rcases h with rfl | rfl | rfl <;> simp_all
theorem lenU {T : Str} {p : Nat} {u r : List Nat} {x : Nat} {us : List Nat} (hu : u = x :: us) (D : T.cps.toList.drop p = u ++ r) : T.length = p + u.length + r.length := by
  have h := lenD D
  have : p < T.cps.toList.length := by
    rcases Nat.lt_or_ge p T.cps.toList.length with h | h
    · exact h
    · rw [List.drop_of_length_le h, hu] at D; cases D
  rw [List.length_append] at h
  rw [lenT]; omega
noncomputable def FIG : Str := x_30313233343536373839
section
variable {c : Cx} {mg mb : Str → Option Value} (B : Base c.w c.h₀ mg mb) {T : Str} (h0 : T.length ≤ 100000) (f : List Dat) (hf : f.length ≤ 100000) (p : Nat)
include B h0 hf
theorem qwT {e : Nat} {v : Str} (h : CallOk c 30 742 [.inst 787 0, sy ⟨#[39]⟩, yi ((p + 1 : Nat) : Int)] (ScS T (yi p) f) (.ok (.d (.tup [.str true v, .int true (e : Int)])) (ScS T (yi p) f))) :
    CallOk c 60 749 [.inst 787 0, sd ⟨#[39]⟩] (ScS T (yi p) f) (.ok nN (ScS T (yi e) (f ++ [wq s_text s_0 (.str true v) p]))) :=
  cv B [.call [0, 1] (h.ar (vs' := [.inst 787 0, sd ⟨#[39]⟩, yi ((p + 1 : Nat) : Int)]) (.c .r (.c (.d .s) (.c .r .n)))), .o hf]
theorem qwN {e : Nat} {v : Str} (h : CallOk c 30 742 [.inst 787 0, sy ⟨#[34]⟩, yi ((p + 1 : Nat) : Int)] (ScS T (yi p) f) (.ok (.d (.tup [.str true v, .int true (e : Int)])) (ScS T (yi p) f))) :
    CallOk c 60 749 [.inst 787 0, sd ⟨#[34]⟩] (ScS T (yi p) f) (.ok nN (ScS T (yi e) (f ++ [wq s_name s_0 (.str true v) p]))) :=
  cv B [.call [0, 1] (h.ar (vs' := [.inst 787 0, sd ⟨#[34]⟩, yi ((p + 1 : Nat) : Int)]) (.c .r (.c (.d .s) (.c .r .n)))), .o hf]
omit hf in
theorem qwR (h : Rf c 30 742 [.inst 787 0, sy ⟨#[34]⟩, yi ((p + 1 : Nat) : Int)] (ScS T (yi p) f)) : Rf c 60 749 [.inst 787 0, sd ⟨#[34]⟩] (ScS T (yi p) f) := by
  obtain ⟨b, m, pl, h⟩ := h
  exact ⟨b, m, pl, cx B [.call [0, 1] (h.ar (vs' := [.inst 787 0, sd ⟨#[34]⟩, yi ((p + 1 : Nat) : Int)]) (.c .r (.c (.d .s) (.c .r .n))))]⟩
theorem bl1 {e : Nat} (h : CallOk c 30 742 [.inst 787 0, sy ⟨#[39]⟩, yi ((p + 2 : Nat) : Int)] (ScS T (yi p) f) (.ok (.d (.tup [.str true x_30304146, .int true (e : Int)])) (ScS T (yi p) f)))
    (s1 : Txt.slice T (some ((p + 1 : Nat) : Int)) (some ((p + 2 : Nat) : Int)) = x_27) :
    CallOk c 60 735 [.inst 787 0, sd ⟨#[88]⟩] (ScS T (yi p) f) (.ok nN (ScS T (yi e) (f ++ [wq s_blob s_0 (.byt #[0, 175]) p]))) := by
  have h1 := (h.fl (v' := .d (.tup [.str false x_30304146, .int true (e : Int)])) (.d (.t (.c .s (.c .r .n))))).ar (vs' := [.inst 787 0, sd ⟨#[39]⟩, yi ((p + 2 : Nat) : Int)]) (.c .r (.c (.d .s) (.c .r .n)))
  have h2 : CallOk c 50 756 [.inst 787 0] (ScS T (yi p) f) (.ok nN (ScS T (yi e) (f ++ [wq s_blob s_0 (.byt #[0, 175]) p]))) := cv B [.call [0, 1] h1, .o hf]
  exact cv B [.s false s1 (slLe h0 _ _), .call [0, 1] h2]
theorem bl2 {e : Nat} (h : CallOk c 30 742 [.inst 787 0, sy ⟨#[39]⟩, yi ((p + 2 : Nat) : Int)] (ScS T (yi p) f) (.ok (.d (.tup [.str true s_0, .int true (e : Int)])) (ScS T (yi p) f)))
    (s1 : Txt.slice T (some ((p + 1 : Nat) : Int)) (some ((p + 2 : Nat) : Int)) = x_27) :
    CallOk c 60 735 [.inst 787 0, sd ⟨#[88]⟩] (ScS T (yi p) f) (.ok nN (ScS T (yi e) (f ++ [wq s_blob s_0 (.byt #[]) p]))) := by
  have h1 := (h.fl (v' := .d (.tup [.str false s_0, .int true (e : Int)])) (.d (.t (.c .s (.c .r .n))))).ar (vs' := [.inst 787 0, sd ⟨#[39]⟩, yi ((p + 2 : Nat) : Int)]) (.c .r (.c (.d .s) (.c .r .n)))
  have h2 : CallOk c 50 756 [.inst 787 0] (ScS T (yi p) f) (.ok nN (ScS T (yi e) (f ++ [wq s_blob s_0 (.byt #[]) p]))) := cv B [.call [0, 1] h1, .o hf]
  exact cv B [.s false s1 (slLe h0 _ _), .call [0, 1] h2]
omit hf in
theorem nEnd {u r : List Nat} {x : Nat} {us : List Nat} (hu : u = x :: us) (D : T.cps.toList.drop p = u ++ r) (a : Adj r) : NEnd T (p + u.length) := by
  have hl := lenU hu D
  rcases a with rfl | ⟨y, r', rfl, hy⟩
  · exact .inl hl
  · refine .inr ⟨y, getD' D (by simp), ?_, ?_⟩
    · rcases hy with rfl | rfl | rfl <;> rfl
    · rcases hy with rfl | rfl | rfl <;> decide
theorem bareC {ch : Nat} {us r : List Nat} (D : T.cps.toList.drop p = (ch :: us) ++ r) (a : Adj r) (hn : ∀ x ∈ us, chI x NMS = true) (hx : chI ch s_xX = false) (ha : Txt.isascii (mkS (ch :: us)) = true) (hl : (Txt.upper (mkS (ch :: us))).length ≤ 100000) :
    CallOk c 60 735 [.inst 787 0, sy ⟨#[ch]⟩] (ScS T (yi p) f) (.ok nN (ScS T (yi ((p + (ch :: us).length : Nat) : Int)) (f ++ [.inst 682 [(s_kind, .str false s_name), (s_text, .str true (Txt.upper (mkS (ch :: us)))), (s_value, .str true (mkS (ch :: us))), (s_place, .int true p)]]))) := by
  have e : p + (ch :: us).length = p + 1 + us.length := by rw [List.length_cons]; omega
  have q := nEnd B h0 p rfl D a
  rw [e] at q
  have w := bareL B h0 f ch p us.length (p + 1) (fun j hj => by
    have h := getD' (j := 1 + j) (x := us[j]) D (by rw [Nat.add_comm, List.cons_append, List.getElem?_cons_succ, List.getElem?_append_left hj]; exact List.getElem?_eq_getElem hj)
    rw [← Nat.add_assoc] at h
    exact ⟨_, h, hn _ (List.getElem_mem hj)⟩) q
  have s1 : Txt.slice T (some (p : Int)) (some ((p + 1 + us.length : Nat) : Int)) = mkS (ch :: us) := slcL (by omega) (by rw [D, show p + 1 + us.length - p = (ch :: us).length by rw [List.length_cons]; omega]; simp)
  rw [e]
  refine CallOk.le (n := 30) ?_ (by decide)
  exact cv B [.b hx, .st (whk_st (pos := whP (stmAt 735 3)) w), .s true s1 (slLe h0 _ _), .b ha, sz hl, .o hf]
noncomputable def ESt (T : Str) (p : Nat) (f : List Dat) (e : Nat) : St := ScS T (yi p) f ++ [.loc [(s_self, .inst 787 0), (s_signs, sd FIG), (s_end, yi e), (s_text, sy T)]]
omit hf in
theorem eoL (k e : Nat) (hk : ∀ j, j < k → ∃ x, T.cps.toList[e + j]? = some x ∧ chI x FIG = true) (hn : T.length = e + k ∨ ∃ x, T.cps.toList[e + k]? = some x ∧ chI x FIG = false) : Wh c 19 728 1 2 (ESt T p f e) (.ok none (ESt T p f (e + k))) := by
  induction k generalizing e with
  | zero =>
    rcases hn with hn | ⟨x, h1, h2⟩
    · exact wE B (k := 100) [.o h0, .b (geT hn)] (by kernel_rfl)
    · exact wE B (k := 100) [.o h0, .b (ltT h1), .o (i60 h0 (Nat.le_of_lt (atLe h1))), .xs true (sat h1), .b h2] (by kernel_rfl)
  | succ k ih =>
    obtain ⟨x, h1, h2⟩ := hk 0 (Nat.zero_lt_succ k)
    have ih := ih (e + 1) (fun j hj => by rw [Nat.add_assoc, Nat.add_comm 1]; exact hk (j + 1) (Nat.succ_lt_succ hj)) (by rw [Nat.add_assoc, Nat.add_comm 1]; exact hn)
    rw [Nat.add_assoc, Nat.add_comm 1] at ih
    exact wG B (k := 100) [.o h0, .b (ltT h1), .o (i60 h0 (Nat.le_of_lt (atLe h1))), .xs true (sat h1), .b h2] (by kernel_rfl) ih
omit hf in
theorem voC {e : Nat} {u : Str} {n : Int} (hne : p ≠ e) (s1 : Txt.slice T (some (p : Int)) (some (e : Int)) = u) (hu : (u = x_30 ∧ n = 0) ∨ (u = x_37 ∧ n = 7) ∨ (u = x_39323233333732303336383534373735383037 ∧ n = 9223372036854775807)) :
    CallOk c 20 770 [.inst 787 0, yi p, yi e, ni 10] (ScS T (yi p) f) (.ok (ni n) (ScS T (yi p) f)) := by
  have q : decide ((p : Int) = (e : Int)) = false := dF (by omega)
  rcases hu with ⟨rfl, rfl⟩ | ⟨rfl, rfl⟩ | ⟨rfl, rfl⟩ <;> exact cv B [.b q, .s false s1 (slLe h0 _ _)]
theorem numC {ch : Nat} {us r : List Nat} {n : Int} (D : T.cps.toList.drop p = (ch :: us) ++ r) (a : Adj r) (hn : ∀ x ∈ ch :: us, chI x FIG = true) (hch : ch ≠ 48 ∨ us = [])
    (hu : (mkS (ch :: us) = x_30 ∧ n = 0) ∨ (mkS (ch :: us) = x_37 ∧ n = 7) ∨ (mkS (ch :: us) = x_39323233333732303336383534373735383037 ∧ n = 9223372036854775807)) :
    CallOk c 60 763 [.inst 787 0] (ScS T (yi p) f) (.ok nN (ScS T (yi ((p + (ch :: us).length : Nat) : Int)) (f ++ [wq s_number s_0 (.int false n) p]))) := by
  generalize hg : (ch :: us).length = k at *
  have hk : 1 ≤ k := by rw [← hg, List.length_cons]; omega
  have hl := lenU rfl D
  rw [hg] at hl
  have D2 : T.cps.toList.drop (p + k) = r := by rw [drD D, ← hg]; simp
  have w := eoL B h0 f p k p (fun j hj => ⟨(ch :: us)[j]'(by omega), getD' D (by rw [List.getElem?_append_left (by omega)]; exact List.getElem?_eq_getElem (by omega)), hn _ (List.getElem_mem _)⟩) (by
    rcases a with rfl | ⟨y, r', rfl, hy⟩
    · exact .inl hl
    · exact .inr ⟨y, getD' (j := 0) D2 rfl, by rcases hy with rfl | rfl | rfl <;> rfl⟩)
  have s0 : Txt.slice T (some (p : Int)) (some ((p + 2 : Nat) : Int)) = mkS (((ch :: us) ++ r).take 2) := slD D (a := 0) (b := 2) (by decide) rfl
  have s1 : Txt.slice T (some (p : Int)) (some ((p + k : Nat) : Int)) = mkS (ch :: us) := slcL (by omega) (by rw [D, Nat.add_sub_cancel_left, ← hg]; simp)
  have h1 : CallOk c 20 728 [.inst 787 0, sd FIG, yi p] (ScS T (yi p) f) (.ok (yi ((p + k : Nat) : Int)) (ScS T (yi p) f)) := cv B [.st (whk_st (pos := whP (stmAt 728 1)) w)]
  have h2 := voC B h0 f p (n := n) (by omega) s1 hu
  have z : flip false (mem1 (mkS (((ch :: us) ++ r).take 2)) [.str false x_3078, .str false x_3058]) = false := by
    have g : ∀ y : Nat, (y = 120 ∨ y = 88) → ((ch :: us) ++ r).take 2 ≠ [48, y] := fun y hy e => by
      rcases hch with h | rfl
      · apply h; simp at e; exact e.1
      · rcases a with rfl | ⟨x, r', rfl, hx⟩
        · simp at e
        · simp at e; rcases hx with rfl | rfl | rfl <;> rcases hy with rfl | rfl <;> simp_all
    have e1 : sq (mkS (((ch :: us) ++ r).take 2)) x_3078 = false := by
      cases q : sq (mkS (((ch :: us) ++ r).take 2)) x_3078 with
      | false => rfl
      | true => exact absurd (congrArg (fun s : Str => s.cps.toList) (sq_eq q)) (g 120 (.inl rfl))
    have e2 : sq (mkS (((ch :: us) ++ r).take 2)) x_3058 = false := by
      cases q : sq (mkS (((ch :: us) ++ r).take 2)) x_3058 with
      | false => rfl
      | true => exact absurd (congrArg (fun s : Str => s.cps.toList) (sq_eq q)) (g 88 (.inr rfl))
    show (sq _ _ || (sq _ _ || false)) = false
    rw [e1, e2]; rfl
  rcases a with rfl | ⟨y, r', rfl, hy⟩
  · have s2 : Txt.slice T (some ((p + k : Nat) : Int)) (some ((p + k + 1 : Nat) : Int)) = s_0 := slD D2 (a := 0) (b := 1) (by decide) rfl
    exact cV B (k := 100) (n := 2) [.s true s0 (slLe h0 _ _), .b z, .call [0, 1] h1, .call [0, 1] h2, .s false s2 (slLe h0 _ _), .o hf] (by rcases hu with ⟨-, rfl⟩ | ⟨-, rfl⟩ | ⟨-, rfl⟩ <;> kernel_rfl) (Nat.le_refl _)
  · have s2 : Txt.slice T (some ((p + k : Nat) : Int)) (some ((p + k + 1 : Nat) : Int)) = ⟨#[y]⟩ := slD D2 (a := 0) (b := 1) (by decide) rfl
    have e1 : (!sq ⟨#[y]⟩ s_0) = true := rfl
    have e2 : sq ⟨#[y]⟩ x_2e = false := by rcases hy with rfl | rfl | rfl <;> rfl
    have e3 : chI y NMS = false := by rcases hy with rfl | rfl | rfl <;> rfl
    have e4 : decide ((y : Int) > 127) = false := dF (by rcases hy with rfl | rfl | rfl <;> decide)
    exact cV B (k := 100) (n := 2) [.s true s0 (slLe h0 _ _), .b z, .call [0, 1] h1, .call [0, 1] h2, .s true s2 (slLe h0 _ _), .b e1, .b e2, .b e3, .b e4, .o hf] (by rcases hu with ⟨-, rfl⟩ | ⟨-, rfl⟩ | ⟨-, rfl⟩ <;> kernel_rfl) (Nat.le_refl _)
end
noncomputable def s_size : Str := ⟨#[115, 105, 122, 101]⟩
noncomputable def x_213d : Str := ⟨#[33, 61]⟩
noncomputable def x_2d2d : Str := ⟨#[45, 45]⟩
noncomputable def x_2f2a : Str := ⟨#[47, 42]⟩
noncomputable def x_3c3c : Str := ⟨#[60, 60]⟩
noncomputable def x_3c3d : Str := ⟨#[60, 61]⟩
noncomputable def x_3c3e : Str := ⟨#[60, 62]⟩
noncomputable def x_3d3d : Str := ⟨#[61, 61]⟩
noncomputable def x_3e3d : Str := ⟨#[62, 61]⟩
noncomputable def x_3e3e : Str := ⟨#[62, 62]⟩
noncomputable def TWO : List Dat := [.str false x_3c3d, .str false x_3e3d, .str false x_3c3e, .str false x_213d, .str false x_3d3d, .str false x_7c7c, .str false x_3c3c, .str false x_3e3e]
noncomputable def BLK : Str := ⟨#[32, 9, 10, 13, 12]⟩
noncomputable def SW (T : Str) (p : Nat) (f : List Dat) (v : SV) : St := ScS T (yi p) f ++ [.loc [(s_self, .inst 787 0), (s_size, yi T.length), (s_sign, v)]]
noncomputable def SW0 (T : Str) (p : Nat) (f : List Dat) : St := ScS T (yi p) f ++ [.loc [(s_self, .inst 787 0), (s_size, yi T.length)]]
theorem FDs.rf : ∀ l : List Dat, FDs l l
  | [] => .n
  | _ :: l => .c .r (FDs.rf l)
theorem FDs.ap {a b : Dat} (h : FD a b) : ∀ l : List Dat, FDs (l ++ [a]) (l ++ [b])
  | [] => .c h .n
  | _ :: l => .c .r (FDs.ap h l)
section
variable {c : Cx} {mg mb : Str → Option Value} (B : Base c.w c.h₀ mg mb) {T : Str} (h0 : T.length ≤ 100000) (f : List Dat) (hf : f.length ≤ 100000) (p : Nat)
include B h0 hf
theorem mk1 {ch : Nat} {r : List Nat} (hc : ch = 40 ∨ ch = 41 ∨ ch = 44 ∨ ch = 61 ∨ ch = 43) (D : T.cps.toList.drop p = ch :: r) (e1 : sq (mkS (ch :: r.take 1)) x_2d2d = false) (e2 : sq (mkS (ch :: r.take 1)) x_2f2a = false) (e3 : flip false (mem1 (mkS (ch :: r.take 1)) TWO) = false) :
    CallOk c 60 777 [.inst 787 0, sd ⟨#[ch]⟩] (ScS T (yi p) f) (.ok nN (ScS T (yi ((p + 1 : Nat) : Int)) (f ++ [wq s_sign ⟨#[ch]⟩ .none p]))) := by
  have s0 : Txt.slice T (some (p : Int)) (some ((p + 2 : Nat) : Int)) = mkS (ch :: r.take 1) := slD D (a := 0) (b := 2) (by decide) rfl
  rcases hc with rfl | rfl | rfl | rfl | rfl <;> exact cv B [.s true s0 (slLe h0 _ _), .b e1, .b e2, .b e3, .o hf]
theorem mk2 {r : List Nat} (D : T.cps.toList.drop p = 124 :: 124 :: r) :
    CallOk c 60 777 [.inst 787 0, sd ⟨#[124]⟩] (ScS T (yi p) f) (.ok nN (ScS T (yi ((p + 2 : Nat) : Int)) (f ++ [wq s_sign x_7c7c .none p]))) := by
  have s0 : Txt.slice T (some (p : Int)) (some ((p + 2 : Nat) : Int)) = x_7c7c := slD D (a := 0) (b := 2) (by decide) rfl
  exact cv B [.s false s0 (slLe h0 _ _), .o hf]
variable {r : SR} {v : SV}
omit hf in
theorem tBl {l : List Nat} (D : T.cps.toList.drop p = 32 :: l) (k : Wh c 99 721 1 2 (SW T (p + 1) f (sd ⟨#[32]⟩)) r) : Wh c 99 721 1 2 (SW T p f v) r := by
  have h1 := getD' (j := 0) D rfl
  exact wG B (k := 100) [.b (ltT h1), .o (i60 h0 (Nat.le_of_lt (atLe h1))), .xs false (sat h1)] (by kernel_rfl) k
omit hf in
theorem tNu {ch : Nat} {l : List Nat} {p' : Nat} {w : Dat} (hc : ch = 48 ∨ ch = 55 ∨ ch = 57) (D : T.cps.toList.drop p = ch :: l) (q : CallOk c 60 763 [.inst 787 0] (ScS T (yi p) f) (.ok nN (ScS T (yi p') (f ++ [w])))) (k : Wh c 99 721 1 2 (SW T p' (f ++ [w]) (sd ⟨#[ch]⟩)) r) : Wh c 99 721 1 2 (SW T p f v) r := by
  have h1 := getD' (j := 0) D rfl
  rcases hc with rfl | rfl | rfl <;> exact wG B (k := 100) [.b (ltT h1), .o (i60 h0 (Nat.le_of_lt (atLe h1))), .xs false (sat h1), .call [0, 1] q] (by kernel_rfl) k
omit hf in
theorem tQu {ch : Nat} {l : List Nat} {p' : Nat} {w : Dat} (hc : ch = 34 ∨ ch = 39) (D : T.cps.toList.drop p = ch :: l) (q : CallOk c 60 749 [.inst 787 0, sd ⟨#[ch]⟩] (ScS T (yi p) f) (.ok nN (ScS T (yi p') (f ++ [w])))) (k : Wh c 99 721 1 2 (SW T p' (f ++ [w]) (sd ⟨#[ch]⟩)) r) : Wh c 99 721 1 2 (SW T p f v) r := by
  have h1 := getD' (j := 0) D rfl
  rcases hc with rfl | rfl <;> exact wG B (k := 100) [.b (ltT h1), .o (i60 h0 (Nat.le_of_lt (atLe h1))), .xs false (sat h1), .call [0, 1] q] (by kernel_rfl) k
omit hf in
theorem tBx {l : List Nat} {p' : Nat} {w : Dat} (D : T.cps.toList.drop p = 88 :: l) (q : CallOk c 60 735 [.inst 787 0, sd ⟨#[88]⟩] (ScS T (yi p) f) (.ok nN (ScS T (yi p') (f ++ [w])))) (k : Wh c 99 721 1 2 (SW T p' (f ++ [w]) (sd ⟨#[88]⟩)) r) : Wh c 99 721 1 2 (SW T p f v) r := by
  have h1 := getD' (j := 0) D rfl
  exact wG B (k := 100) [.b (ltT h1), .o (i60 h0 (Nat.le_of_lt (atLe h1))), .xs false (sat h1), .call [0, 1] q] (by kernel_rfl) k
omit hf in
theorem tSg {ch : Nat} {l : List Nat} {p' : Nat} {w : Dat} (hc : ch = 40 ∨ ch = 41 ∨ ch = 44 ∨ ch = 61 ∨ ch = 43 ∨ ch = 124) (D : T.cps.toList.drop p = ch :: l) (q : CallOk c 60 777 [.inst 787 0, sd ⟨#[ch]⟩] (ScS T (yi p) f) (.ok nN (ScS T (yi p') (f ++ [w])))) (k : Wh c 99 721 1 2 (SW T p' (f ++ [w]) (sd ⟨#[ch]⟩)) r) : Wh c 99 721 1 2 (SW T p f v) r := by
  have h1 := getD' (j := 0) D rfl
  rcases hc with rfl | rfl | rfl | rfl | rfl | rfl <;> exact wG B (k := 100) [.b (ltT h1), .o (i60 h0 (Nat.le_of_lt (atLe h1))), .xs false (sat h1), .call [0, 1] q] (by kernel_rfl) k
omit hf in
theorem tBa {ch : Nat} {l : List Nat} {p' : Nat} {w : Dat} (e1 : chI ch BLK = false) (e2 : chI ch LET = true) (D : T.cps.toList.drop p = ch :: l) (q : CallOk c 60 735 [.inst 787 0, sy ⟨#[ch]⟩] (ScS T (yi p) f) (.ok nN (ScS T (yi p') (f ++ [w])))) (k : Wh c 99 721 1 2 (SW T p' (f ++ [w]) (sy ⟨#[ch]⟩)) r) : Wh c 99 721 1 2 (SW T p f v) r := by
  have h1 := getD' (j := 0) D rfl
  exact wG B (k := 100) [.b (ltT h1), .o (i60 h0 (Nat.le_of_lt (atLe h1))), .xs true (sat h1), .b e1, .b e2, .call [0, 1] q] (by kernel_rfl) k
omit hf in
theorem tBa0 {ch : Nat} {l : List Nat} {p' : Nat} {w : Dat} (e1 : chI ch BLK = false) (e2 : chI ch LET = true) (D : T.cps.toList.drop p = ch :: l) (q : CallOk c 60 735 [.inst 787 0, sy ⟨#[ch]⟩] (ScS T (yi p) f) (.ok nN (ScS T (yi p') (f ++ [w])))) (k : Wh c 99 721 1 2 (SW T p' (f ++ [w]) (sy ⟨#[ch]⟩)) r) : Wh c 99 721 1 2 (SW0 T p f) r := by
  have h1 := getD' (j := 0) D rfl
  exact wG B (k := 100) [.b (ltT h1), .o (i60 h0 (Nat.le_of_lt (atLe h1))), .xs true (sat h1), .b e1, .b e2, .call [0, 1] q] (by kernel_rfl) k
omit hf in
theorem tEnd (h : T.length = p) : Wh c 99 721 1 2 (SW T p f v) (.ok none (SW T p f v)) := wE B (k := 100) [.b (geT h)] (by kernel_rfl)
omit hf in
theorem tRf {l : List Nat} (D : T.cps.toList.drop p = 34 :: l) (q : Rf c 60 749 [.inst 787 0, sd ⟨#[34]⟩] (ScS T (yi p) f)) : ∃ b m pl, Wh c 99 721 1 2 (SW T p f v) (.exc (rx b m pl)) := by
  have h1 := getD' (j := 0) D rfl
  obtain ⟨b, m, pl, q⟩ := q
  exact ⟨b, m, pl, wX B (k := 100) [.b (ltT h1), .o (i60 h0 (Nat.le_of_lt (atLe h1))), .xs false (sat h1), .call [0, 1] q] (by kernel_rfl)⟩
end
noncomputable def Tk.ch : Tk → Str
  | .v a => a.w | .sg s => s.t | .cm => x_2c | .lp => x_28 | .rp => x_29 | .kw k => k.s | .ed => s_0
noncomputable abbrev Tk.cl (t : Tk) : List Nat := t.ch.cps.toList
noncomputable def tkD (t : Tk) (p : Nat) : Dat := wd t.kd t.tx t.vl p
noncomputable def bareOk : List Nat → Bool
  | [] => false
  | ch :: us => !chI ch BLK && (chI ch LET && (!chI ch s_xX && (us.all (fun x => chI x NMS) && (Txt.isascii (mkS (ch :: us)) && Nat.ble (Txt.upper (mkS (ch :: us))).length 100000))))
section
variable {c : Cx} {mg mb : Str → Option Value} (B : Base c.w c.h₀ mg mb) {T : Str} (h0 : T.length ≤ 100000) (f : List Dat) (hf : f.length ≤ 100000) (p : Nat)
include B h0 hf
variable {r : List Nat} {s : SR} {v : SV}
theorem lB {ch : Nat} {us : List Nat} {t : Tk} (hb : bareOk (ch :: us) = true) (a : Adj r) (D : T.cps.toList.drop p = (ch :: us) ++ r) (h1 : t.kd = s_name) (h2 : Txt.upper (mkS (ch :: us)) = t.tx) (h3 : t.vl = .str false (mkS (ch :: us)))
    (k : ∀ v', Wh c 99 721 1 2 (SW T (p + (ch :: us).length) (f ++ [tkD t p]) v') s) : Wh c 99 721 1 2 (SW T p f v) s ∧ Wh c 99 721 1 2 (SW0 T p f) s := by
  obtain ⟨e1, hb⟩ := andT hb
  obtain ⟨e2, hb⟩ := andT hb
  obtain ⟨e3, hb⟩ := andT hb
  obtain ⟨e4, hb⟩ := andT hb
  obtain ⟨e5, e6⟩ := andT hb
  · have e1 := (Bool.not_eq_true' _).mp e1
    have e3 := (Bool.not_eq_true' _).mp e3
    have q := bareC B h0 f hf p D a (fun x hx => List.all_eq_true.mp e4 x hx) e3 e5 (Nat.le_of_ble_eq_true e6)
    have fd : FD (.inst 682 [(s_kind, .str false s_name), (s_text, .str true (Txt.upper (mkS (ch :: us)))), (s_value, .str true (mkS (ch :: us))), (s_place, .int true p)]) (tkD t p) := by
      unfold tkD wd
      rw [h1, h2, h3]
      exact .n (.c .s (.c .s (.c .s (.c .r .n))))
    have k' := fun v' => (k v').sa (.c .r (.c (.l (FDs.ap fd f)) (.c .r .n)))
    exact ⟨tBa B h0 f p e1 e2 D q (k' _), tBa0 B h0 f p e1 e2 D q (k' _)⟩
theorem lQ {mid : List Nat} {t : Tk} (D : T.cps.toList.drop p = 34 :: (mid ++ 34 :: r)) (hm : ∀ x ∈ mid, x ≠ 34) (a : Adj r) (h1 : t.kd = s_name) (h2 : t.tx = s_0) (h3 : t.vl = .str false (mkS mid))
    (k : ∀ v', Wh c 99 721 1 2 (SW T (p + 1 + mid.length + 1) (f ++ [tkD t p]) v') s) : Wh c 99 721 1 2 (SW T p f v) s := by
  have D1 : T.cps.toList.drop (p + 1) = mid ++ 34 :: r := drD D 1
  have q := qwN B h0 f hf p (clA B h0 f p D1 hm (a.ne (by decide) (by decide) (by decide)))
  refine tQu B h0 f p (.inl rfl) D q ((k _).sa (.c .r (.c (.l (FDs.ap ?_ f)) (.c .r .n))))
  unfold tkD wd wq
  rw [h1, h2, h3]
  exact .n (.c .s (.c .s (.c .s (.c .r .n))))
theorem lQ2 {m1 m2 : List Nat} {t : Tk} (D : T.cps.toList.drop p = 34 :: (m1 ++ 34 :: (34 :: (m2 ++ 34 :: r)))) (hm : ∀ x ∈ m1, x ≠ 34) (hm2 : ∀ x ∈ m2, x ≠ 34) (a : Adj r) (h1 : t.kd = s_name) (h2 : t.tx = s_0) (h3 : t.vl = .str false (mkS (m1 ++ 34 :: m2)))
    (k : ∀ v', Wh c 99 721 1 2 (SW T (p + 1 + m1.length + 2 + m2.length + 1) (f ++ [tkD t p]) v') s) : Wh c 99 721 1 2 (SW T p f v) s := by
  have D1 : T.cps.toList.drop (p + 1) = m1 ++ 34 :: (34 :: (m2 ++ 34 :: r)) := drD D 1
  have q := qwN B h0 f hf p (clB B h0 f p D1 hm hm2 (a.ne (by decide) (by decide) (by decide)))
  refine tQu B h0 f p (.inl rfl) D q ((k _).sa (.c .r (.c (.l (FDs.ap ?_ f)) (.c .r .n))))
  unfold tkD wd wq
  rw [h1, h2, h3]
  exact .n (.c .s (.c .s (.c .s (.c .r .n))))
theorem lT {mid : List Nat} {t : Tk} (D : T.cps.toList.drop p = 39 :: (mid ++ 39 :: r)) (hm : ∀ x ∈ mid, x ≠ 39) (a : Adj r) (h1 : t.kd = s_text) (h2 : t.tx = s_0) (h3 : t.vl = .str false (mkS mid))
    (k : ∀ v', Wh c 99 721 1 2 (SW T (p + 1 + mid.length + 1) (f ++ [tkD t p]) v') s) : Wh c 99 721 1 2 (SW T p f v) s := by
  have D1 : T.cps.toList.drop (p + 1) = mid ++ 39 :: r := drD D 1
  have q := qwT B h0 f hf p (clA B h0 f p D1 hm (a.ne (by decide) (by decide) (by decide)))
  refine tQu B h0 f p (.inr rfl) D q ((k _).sa (.c .r (.c (.l (FDs.ap ?_ f)) (.c .r .n))))
  unfold tkD wd wq
  rw [h1, h2, h3]
  exact .n (.c .s (.c .s (.c .s (.c .r .n))))
theorem lT2 {m1 m2 : List Nat} {t : Tk} (D : T.cps.toList.drop p = 39 :: (m1 ++ 39 :: (39 :: (m2 ++ 39 :: r)))) (hm : ∀ x ∈ m1, x ≠ 39) (hm2 : ∀ x ∈ m2, x ≠ 39) (a : Adj r) (h1 : t.kd = s_text) (h2 : t.tx = s_0) (h3 : t.vl = .str false (mkS (m1 ++ 39 :: m2)))
    (k : ∀ v', Wh c 99 721 1 2 (SW T (p + 1 + m1.length + 2 + m2.length + 1) (f ++ [tkD t p]) v') s) : Wh c 99 721 1 2 (SW T p f v) s := by
  have D1 : T.cps.toList.drop (p + 1) = m1 ++ 39 :: (39 :: (m2 ++ 39 :: r)) := drD D 1
  have q := qwT B h0 f hf p (clB B h0 f p D1 hm hm2 (a.ne (by decide) (by decide) (by decide)))
  refine tQu B h0 f p (.inr rfl) D q ((k _).sa (.c .r (.c (.l (FDs.ap ?_ f)) (.c .r .n))))
  unfold tkD wd wq
  rw [h1, h2, h3]
  exact .n (.c .s (.c .s (.c .s (.c .r .n))))
theorem fdq {kd tx : Str} {x : Dat} {t : Tk} (h1 : t.kd = kd) (h2 : t.tx = tx) (h3 : t.vl = x) : FD (wq kd tx x p) (tkD t p) := by
  subst h1 h2 h3
  exact .n (.c .s (.c .s (.c .r (.c .r .n))))
theorem lS {ch : Nat} {t : Tk} (hc : ch = 41 ∨ ch = 44 ∨ ch = 61 ∨ ch = 43) (D : T.cps.toList.drop p = ch :: r) (a : Adj r) (h1 : t.kd = s_sign) (h2 : t.tx = ⟨#[ch]⟩) (h3 : t.vl = .none)
    (k : ∀ v', Wh c 99 721 1 2 (SW T (p + 1) (f ++ [tkD t p]) v') s) : Wh c 99 721 1 2 (SW T p f v) s := by
  have e : sq (mkS (ch :: r.take 1)) x_2d2d = false ∧ sq (mkS (ch :: r.take 1)) x_2f2a = false ∧ flip false (mem1 (mkS (ch :: r.take 1)) TWO) = false := by
    rcases a with rfl | ⟨x, r', rfl, rfl | rfl | rfl⟩ <;> rcases hc with rfl | rfl | rfl | rfl <;> exact ⟨rfl, rfl, rfl⟩
  have q := mk1 B h0 f hf p (.inr hc) D e.1 e.2.1 e.2.2
  exact tSg B h0 f p (by rcases hc with h | h | h | h <;> simp [h]) D q ((k _).sa (.c .r (.c (.l (FDs.ap (fdq B h0 f hf p h1 h2 h3) f)) (.c .r .n))))
theorem lP {t : Tk} (D : T.cps.toList.drop p = 40 :: r) (h1 : t.kd = s_sign) (h2 : t.tx = ⟨#[40]⟩) (h3 : t.vl = .none)
    (k : ∀ v', Wh c 99 721 1 2 (SW T (p + 1) (f ++ [tkD t p]) v') s) : Wh c 99 721 1 2 (SW T p f v) s := by
  have q := mk1 B h0 f hf p (.inl rfl) D rfl rfl rfl
  exact tSg B h0 f p (.inl rfl) D q ((k _).sa (.c .r (.c (.l (FDs.ap (fdq B h0 f hf p h1 h2 h3) f)) (.c .r .n))))
theorem lN {ch : Nat} {us : List Nat} {n : Int} {t : Tk} (D : T.cps.toList.drop p = (ch :: us) ++ r) (a : Adj r) (hn : ∀ x ∈ ch :: us, chI x FIG = true) (hch : ch ≠ 48 ∨ us = []) (hc : ch = 48 ∨ ch = 55 ∨ ch = 57)
    (hu : (mkS (ch :: us) = x_30 ∧ n = 0) ∨ (mkS (ch :: us) = x_37 ∧ n = 7) ∨ (mkS (ch :: us) = x_39323233333732303336383534373735383037 ∧ n = 9223372036854775807)) (h1 : t.kd = s_number) (h2 : t.tx = s_0) (h3 : t.vl = .int false n)
    (k : ∀ v', Wh c 99 721 1 2 (SW T (p + (ch :: us).length) (f ++ [tkD t p]) v') s) : Wh c 99 721 1 2 (SW T p f v) s :=
  tNu B h0 f p hc D (numC B h0 f hf p D a hn hch hu) ((k _).sa (.c .r (.c (.l (FDs.ap (fdq B h0 f hf p h1 h2 h3) f)) (.c .r .n))))
end
section
variable {c : Cx} {mg mb : Str → Option Value} (B : Base c.w c.h₀ mg mb) {T : Str} (h0 : T.length ≤ 100000) (f : List Dat) (hf : f.length ≤ 100000) (p : Nat)
include B h0 hf
variable {r : List Nat} {s : SR} {v : SV}
theorem lBl1 {t : Tk} {mid : List Nat} (D : T.cps.toList.drop p = 88 :: 39 :: (mid ++ 39 :: r)) (a : Adj r) (hm : mid = [48, 48, 65, 70] ∧ t = .v .b1 ∨ mid = [] ∧ t = .v .b2)
    (k : ∀ v', Wh c 99 721 1 2 (SW T (p + 2 + mid.length + 1) (f ++ [tkD t p]) v') s) : Wh c 99 721 1 2 (SW T p f v) s := by
  have D1 : T.cps.toList.drop (p + 2) = mid ++ 39 :: r := drD D 2
  have s1 : Txt.slice T (some ((p + 1 : Nat) : Int)) (some ((p + 2 : Nat) : Int)) = x_27 := slD D (a := 1) (b := 2) (by decide) rfl
  rcases hm with ⟨rfl, rfl⟩ | ⟨rfl, rfl⟩
  · have q := clA B h0 f p D1 (by decide) (a.ne (by decide) (by decide) (by decide))
    exact tBx B h0 f p D (bl1 B h0 f hf p q s1) ((k _).sa (.c .r (.c (.l (FDs.ap (fdq B h0 f hf p (t := .v .b1) rfl rfl rfl) f)) (.c .r .n))))
  · have q := clA B h0 f p D1 (by decide) (a.ne (by decide) (by decide) (by decide))
    exact tBx B h0 f p D (bl2 B h0 f hf p q s1) ((k _).sa (.c .r (.c (.l (FDs.ap (fdq B h0 f hf p (t := .v .b2) rfl rfl rfl) f)) (.c .r .n))))
theorem lKw (k : Kw) (D : T.cps.toList.drop p = (Tk.kw k).cl ++ r) (a : Adj r) (kk : ∀ v', Wh c 99 721 1 2 (SW T (p + (Tk.kw k).cl.length) (f ++ [tkD (.kw k) p]) v') s) : Wh c 99 721 1 2 (SW T p f v) s ∧ Wh c 99 721 1 2 (SW0 T p f) s := by
  cases k
  case cf w => cases w <;> exact lB B h0 f hf p (by kernel_rfl) a D (by kernel_rfl) (by kernel_rfl) (by kernel_rfl) kk
  all_goals exact lB B h0 f hf p (by kernel_rfl) a D (by kernel_rfl) (by kernel_rfl) (by kernel_rfl) kk
theorem lAt (x : At) (D : T.cps.toList.drop p = (Tk.v x).cl ++ r) (a : Adj r) (kk : ∀ v', Wh c 99 721 1 2 (SW T (p + (Tk.v x).cl.length) (f ++ [tkD (.v x) p]) v') s) : Wh c 99 721 1 2 (SW T p f v) s := by
  cases x
  case nul => exact (lB B h0 f hf p (by kernel_rfl) a D (by kernel_rfl) (by kernel_rfl) (by kernel_rfl) kk).1
  case n0 => exact lN B h0 f hf p (n := 0) D a (by decide) (.inr rfl) (.inl rfl) (.inl ⟨rfl, rfl⟩) rfl rfl rfl kk
  case n7 => exact lN B h0 f hf p (n := 7) D a (by decide) (.inr rfl) (.inr (.inl rfl)) (.inr (.inl ⟨rfl, rfl⟩)) rfl rfl rfl kk
  case ng => exact lN B h0 f hf p (n := 9223372036854775807) D a (by decide) (.inl (by decide)) (.inr (.inr rfl)) (.inr (.inr ⟨rfl, rfl⟩)) rfl rfl rfl kk
  case t1 => exact lT2 B h0 f hf p (m1 := [105, 116]) (m2 := [115]) D (by decide) (by decide) a rfl rfl rfl kk
  case t2 => exact lT B h0 f hf p (mid := []) D (by decide) a rfl rfl rfl kk
  case t3 => exact lT B h0 f hf p (mid := [97, 34, 98]) D (by decide) a rfl rfl rfl kk
  case b1 => exact lBl1 B h0 f hf p (mid := [48, 48, 65, 70]) D a (.inl ⟨rfl, rfl⟩) kk
  case b2 => exact lBl1 B h0 f hf p (mid := []) D a (.inr ⟨rfl, rfl⟩) kk
  case nam n =>
    cases n
    case t => exact (lB B h0 f hf p (by kernel_rfl) a D (by kernel_rfl) (by kernel_rfl) (by kernel_rfl) kk).1
    case ab => exact (lB B h0 f hf p (by kernel_rfl) a D (by kernel_rfl) (by kernel_rfl) (by kernel_rfl) kk).1
    case sp => exact lQ B h0 f hf p (mid := [97, 32, 98]) D (by decide) a rfl rfl rfl kk
    case qr => exact lQ2 B h0 f hf p (m1 := [113]) (m2 := [114]) D (by decide) (by decide) a rfl rfl rfl kk
    case n9 => exact lQ B h0 f hf p (mid := [57, 120]) D (by decide) a rfl rfl rfl kk
    case sel => exact lQ B h0 f hf p (mid := [115, 101, 108, 101, 99, 116]) D (by decide) a rfl rfl rfl kk
    case key => exact lQ B h0 f hf p (mid := [75, 101, 121]) D (by decide) a rfl rfl rfl kk
    case rep => exact lQ B h0 f hf p (mid := [114, 101, 112, 108, 97, 99, 101]) D (by decide) a rfl rfl rfl kk
theorem lTk (t : Tk) (ht : t ≠ .ed) (D : T.cps.toList.drop p = t.cl ++ r) (a : t = .lp ∨ Adj r) (kk : ∀ v', Wh c 99 721 1 2 (SW T (p + t.cl.length) (f ++ [tkD t p]) v') s) : Wh c 99 721 1 2 (SW T p f v) s := by
  cases t with
  | ed => exact absurd rfl ht
  | lp => exact lP B h0 f hf p D rfl rfl rfl kk
  | rp => exact lS B h0 f hf p (.inl rfl) D (a.resolve_left (by intro h; cases h)) rfl rfl rfl kk
  | cm => exact lS B h0 f hf p (.inr (.inl rfl)) D (a.resolve_left (by intro h; cases h)) rfl rfl rfl kk
  | kw k => exact (lKw B h0 f hf p k D (a.resolve_left (by intro h; cases h)) kk).1
  | v x => exact lAt B h0 f hf p x D (a.resolve_left (by intro h; cases h)) kk
  | sg g =>
    have a2 : Adj r := a.resolve_left (by intro h; cases h)
    cases g
    · exact lS B h0 f hf p (.inr (.inr (.inr rfl))) D a2 rfl rfl rfl kk
    · exact tSg B h0 f p (.inr (.inr (.inr (.inr (.inr rfl))))) D (mk2 B h0 f hf p D) ((kk _).sa (.c .r (.c (.l (FDs.ap (fdq B h0 f hf p (t := .sg .cc) rfl rfl rfl) f)) (.c .r .n))))
    · exact lS B h0 f hf p (.inr (.inr (.inl rfl))) D a2 rfl rfl rfl kk
end
inductive Lx where
  | bl | wd (t : Tk)
noncomputable def Lx.cl : Lx → List Nat
  | .bl => [32] | .wd t => t.cl
noncomputable def flx : List Lx → List Nat
  | [] => []
  | x :: l => x.cl ++ flx l
noncomputable def tks : List Lx → List Tk
  | [] => []
  | .bl :: l => tks l
  | .wd t :: l => t :: tks l
noncomputable def wl : List Lx → Nat → List Dat
  | [], _ => []
  | .bl :: l, p => wl l (p + 1)
  | .wd t :: l, p => tkD t p :: wl l (p + t.cl.length)
noncomputable def Okl : List Lx → List Nat → Prop
  | [], _ => True
  | .bl :: l, e => Okl l e
  | .wd t :: l, e => t ≠ .ed ∧ (t = .lp ∨ Adj (flx l ++ e)) ∧ Okl l e
theorem wl_len (l : List Lx) (p : Nat) : (wl l p).length = (tks l).length := by
  induction l generalizing p with
  | nil => rfl
  | cons a l ih => cases a with
    | bl => exact ih _
    | wd t => exact congrArg (· + 1) (ih _)
theorem tks_le (l : List Lx) : (tks l).length ≤ l.length := by
  induction l with
  | nil => exact Nat.le_refl _
  | cons a l ih => cases a with
    | bl => exact Nat.le_succ_of_le ih
    | wd t => exact Nat.succ_le_succ ih
theorem ws_of {W : List Dat} (hW : W.length ≤ 100000) (l : List Lx) (p : Nat) (a z : List Dat) (ts : List Tk) (e : W = a ++ wl l p ++ z) (h : Ws W ((a.length + (tks l).length : Nat) : Int) ts) : Ws W (a.length : Int) (tks l ++ ts) := by
  induction l generalizing p a with
  | nil => exact h
  | cons x l ih => cases x with
    | bl => exact ih (p + 1) a e h
    | wd t =>
      have e' : W = (a ++ [tkD t p]) ++ wl l (p + t.cl.length) ++ z := by rw [e, List.append_assoc a [tkD t p]]; rfl
      have hl : (a ++ [tkD t p]).length = a.length + 1 := List.length_append
      have k := ih (p + t.cl.length) (a ++ [tkD t p]) e' (by rw [hl, Nat.add_assoc, Nat.add_comm 1]; exact h)
      rw [hl] at k
      refine ⟨p, ⟨?_, Int.ofNat_lt.mpr (Nat.lt_of_le_of_lt (Nat.le_trans ?_ hW) (by decide : 100000 < 2 ^ 60))⟩, k⟩
      · show nth W a.length = _
        rw [nth_eq, e, List.append_assoc, List.getElem?_append_right (Nat.le_refl _), Nat.sub_self]; rfl
      · rw [e, List.append_assoc, List.length_append]; exact Nat.le_add_right _ _
section
variable {c : Cx} {mg mb : Str → Option Value} (B : Base c.w c.h₀ mg mb) {T : Str} (h0 : T.length ≤ 100000)
include B h0
theorem loopK {s : SR} {e : List Nat} : ∀ (l : List Lx) (p : Nat) (f : List Dat) (v : SV), Okl l e → T.cps.toList.drop p = flx l ++ e → f.length + l.length ≤ 100000 → (∀ v', Wh c 99 721 1 2 (SW T (p + (flx l).length) (f ++ wl l p) v') s) → Wh c 99 721 1 2 (SW T p f v) s
  | [], p, f, v, _, _, _, k => by have := k v; rwa [show f ++ wl [] p = f from List.append_nil f] at this
  | .bl :: l, p, f, v, h, D, n, k => by
    have D : T.cps.toList.drop p = 32 :: (flx l ++ e) := D
    refine tBl B h0 f p D (loopK l (p + 1) f _ h (drD D 1) (by simp at n; omega) fun v' => ?_)
    have := k v'
    rwa [show p + (flx (.bl :: l)).length = p + 1 + (flx l).length by show p + ([32] ++ flx l).length = _; simp; omega] at this
  | .wd t :: l, p, f, v, ⟨h1, h2, h3⟩, D, n, k => by
    have D : T.cps.toList.drop p = t.cl ++ (flx l ++ e) := by rw [D]; exact List.append_assoc ..
    refine lTk B h0 f (by simp at n; omega) p t h1 D h2 fun v1 => loopK l (p + t.cl.length) (f ++ [tkD t p]) v1 h3 (by rw [drD D]; simp) (by simp at n ⊢; omega) fun v' => ?_
    have := k v'
    rw [show p + (flx (.wd t :: l)).length = p + t.cl.length + (flx l).length by show p + (t.cl ++ flx l).length = _; simp; omega] at this
    rw [List.append_assoc]
    exact this
theorem loop0 {s : SR} {e : List Nat} {k : Kw} {l : List Lx} (h : Okl (.wd (.kw k) :: l) e) (D : T.cps.toList = flx (.wd (.kw k) :: l) ++ e) (n : l.length < 100000) (kk : ∀ v', Wh c 99 721 1 2 (SW T (flx (.wd (.kw k) :: l)).length (wl (.wd (.kw k) :: l) 0) v') s) : Wh c 99 721 1 2 (SW0 T 0 []) s := by
  obtain ⟨h1, h2, h3⟩ := h
  have D : T.cps.toList.drop 0 = (Tk.kw k).cl ++ (flx l ++ e) := by rw [List.drop_zero, D]; exact List.append_assoc ..
  refine (lKw B h0 [] (by decide) 0 (v := nN) k D (h2.resolve_left (by intro h; cases h)) fun v1 => loopK B h0 l (0 + (Tk.kw k).cl.length) ([] ++ [tkD (.kw k) 0]) v1 h3 (by rw [drD D]; simp) (by simp; omega) fun v' => ?_).2
  have := kk v'
  rw [show (flx (.wd (.kw k) :: l)).length = 0 + (Tk.kw k).cl.length + (flx l).length by show ((Tk.kw k).cl ++ flx l).length = _; simp] at this
  exact this
theorem scan {k : Kw} {l : List Lx} (h : Okl (.wd (.kw k) :: l) []) (D : T.cps.toList = flx (.wd (.kw k) :: l)) (n : l.length < 99000) : ScO c T (wl (.wd (.kw k) :: l) 0 ++ [tkD .ed T.length]) := by
  have e : T.length = (flx (.wd (.kw k) :: l)).length := by rw [lenT, D]
  have hw : (wl (.wd (.kw k) :: l) 0).length ≤ 100000 := by rw [wl_len]; have := tks_le (.wd (.kw k) :: l); simp at this; omega
  have w : Wh c 99 721 1 2 (SW0 T 0 []) (.ok none (SW0 T T.length (wl (.wd (.kw k) :: l) 0))) := by
    refine loop0 B h0 h (by rw [D]; simp) (by omega) fun v' => ?_
    rw [← e]
    exact (tEnd B h0 (wl (.wd (.kw k) :: l) 0) T.length rfl).so (.c .r (.c .r (.c (.w fun x s h => by
      have : ∀ a : List (Str × SV), lk (a ++ [(s_sign, v')]) x = match lk a x with | some s => some s | none => lk [(s_sign, v')] x := fun a => by
        induction a with
        | nil => rfl
        | cons b a ih =>
          obtain ⟨y, u⟩ := b
          show (match sq y x with | true => some u | false => lk (a ++ _) x) = _
          rw [ih]
          show _ = (match (match sq y x with | true => some u | false => lk a x) with | some s => some s | none => lk [(s_sign, v')] x)
          cases sq y x <;> rfl
      have q := this [(s_self, .inst 787 0), (s_size, yi T.length)]
      rw [h] at q
      exact q) .n)))
  have w' := whk_st (pos := whP (stmAt 721 1)) (w.sa (σ' := ScS T (ni 0) [] ++ [.loc [(s_self, .inst 787 0), (s_size, yi T.length)]]) (.c (.f (.c .r (.c (.d .i) (.c .r (.c .r .n))))) (.c .r (.c .r .n))))
  have fd : FD (wq s_end s_0 .none T.length) (tkD .ed T.length) := .n (.c .s (.c .s (.c .r (.c .r .n))))
  refine ⟨T.length, CallOk.so (σ1 := ScS T (yi T.length) (wl (.wd (.kw k) :: l) 0 ++ [wq s_end s_0 .none T.length])) ?_ (.c .r (.c (.l (FDs.ap fd _)) .n))⟩
  exact cv B [.o h0, .st w', .o hw]
end
section
variable {c : Cx} {mg mb : Str → Option Value} (B : Base c.w c.h₀ mg mb) {T : Str} (h0 : T.length ≤ 100000) {k : Kw} {l : List Lx}
include B h0
theorem readL (h : Okl (.wd (.kw k) :: l) []) (D : T.cps.toList = flx (.wd (.kw k) :: l)) (n : l.length < 99000) {o : Option Dr} (g : GR (tks (.wd (.kw k) :: l) ++ [.ed]) o) : match o with
    | none => ∃ pl, RdN c T pl
    | some x => RdO c T x := by
  have ws : Ws (wl (.wd (.kw k) :: l) 0 ++ [tkD .ed T.length]) 0 (tks (.wd (.kw k) :: l) ++ [.ed]) := by
    have hw : (wl (.wd (.kw k) :: l) 0 ++ [tkD .ed T.length]).length ≤ 100000 := by rw [List.length_append, wl_len]; have := tks_le (.wd (.kw k) :: l); simp at this ⊢; omega
    refine ws_of hw (.wd (.kw k) :: l) 0 [] [tkD .ed T.length] [.ed] rfl ?_
    refine ⟨T.length, ⟨?_, ?_⟩, trivial⟩
    · show nth (wl (.wd (.kw k) :: l) 0 ++ [tkD .ed T.length]) (0 + (tks (.wd (.kw k) :: l)).length) = _
      rw [nth_eq, List.getElem?_append_right (by rw [wl_len]; omega), wl_len]
      simp; rfl
    · rw [List.length_append, wl_len] at hw
      simp at hw ⊢; omega
  have q := rdC B T g (scan B h0 h D n) ws
  cases o <;> exact q
theorem readU (h : Okl (.wd (.kw k) :: l) [34, 97]) (D : T.cps.toList = flx (.wd (.kw k) :: l) ++ [34, 97]) (n : l.length < 99000) : ∃ pl, RdN c T pl := by
  have D2 : T.cps.toList.drop (flx (.wd (.kw k) :: l)).length = [34, 97] := by rw [D]; simp
  have hw : (wl (.wd (.kw k) :: l) 0).length ≤ 100000 := by rw [wl_len]; have := tks_le (.wd (.kw k) :: l); simp at this; omega
  have q := qwR B h0 (wl (.wd (.kw k) :: l) 0) (flx (.wd (.kw k) :: l)).length (clN B h0 _ _ (drD D2 1) (by decide))
  obtain ⟨b, m, pl, q⟩ := q
  have w : Wh c 99 721 1 2 (SW0 T 0 []) (.exc (rx b m pl)) := loop0 B h0 h D (by omega) fun v' => by
    have h1 := getD' (j := 0) D2 rfl
    exact wX B (k := 100) [.b (ltT h1), .o (i60 h0 (Nat.le_of_lt (atLe h1))), .xs false (sat h1), .call [0, 1] q] (by kernel_rfl)
  have w' := whk_st (pos := whP (stmAt 721 1)) (w.sa (σ' := ScS T (ni 0) [] ++ [.loc [(s_self, .inst 787 0), (s_size, yi T.length)]]) (.c (.f (.c .r (.c (.d .i) (.c .r (.c .r .n))))) (.c .r (.c .r .n))))
  exact ⟨pl, rdX B T (b := b) (m := m) (cx B [.o h0, .st w'])⟩
end
noncomputable abbrev nL (n : Nm) : Lx := .wd (.v (.nam n))
noncomputable abbrev kL (k : Kw) : Lx := .wd (.kw k)
noncomputable def cfL : Cf → List Lx
  | .ab => []
  | w => [.bl, kL .or, .bl, kL (.cf w)]
noncomputable def vaL : Va → List Lx
  | .one a => [.wd (.v a)]
  | .bin s a b => [.wd (.v a), .bl, .wd (.sg s), .bl, .wd (.v b)]
noncomputable def oL : Option Va → List Lx
  | none => []
  | some v => .bl :: kL .whr :: .bl :: vaL v
noncomputable def asL (n : Nm) (v : Va) : List Lx := nL n :: .bl :: .wd (.sg .eq) :: .bl :: vaL v
noncomputable def seL : Se → List Lx
  | .one n v => asL n v
  | .two n v m u => asL n v ++ .wd .cm :: .bl :: asL m u
noncomputable def coL : Co → List Lx
  | .no => []
  | .one n => [.bl, .wd .lp, nL n, .wd .rp]
  | .two n m => [.bl, .wd .lp, nL n, .wd .cm, .bl, nL m, .wd .rp]
noncomputable def dvL : List Lx := [.bl, kL .dflt, .bl, kL .vals]
noncomputable def Dr.hd : Dr → Kw
  | .ins .. => .ins | .upd .. => .upd | .del .. => .del
noncomputable def Dr.tl : Dr → List Lx
  | .ins t w o => cfL w ++ .bl :: kL .into :: .bl :: nL t :: (coL o ++ dvL)
  | .upd t w s o => cfL w ++ .bl :: nL t :: .bl :: kL .set :: .bl :: (seL s ++ oL o)
  | .del t o => .bl :: kL .frm :: .bl :: nL t :: oL o
noncomputable def Dr.lx (d : Dr) : List Lx := kL d.hd :: d.tl
theorem flx_app : ∀ a b : List Lx, flx (a ++ b) = flx a ++ flx b
  | [], _ => rfl
  | x :: a, b => by show x.cl ++ flx (a ++ b) = _; rw [flx_app a b]; show _ = (x.cl ++ flx a) ++ flx b; rw [List.append_assoc]
theorem L_app (a b : Str) : (a ++ b).cps.toList = a.cps.toList ++ b.cps.toList := by show (a.cps ++ b.cps).toList = _; simp
theorem nL_w (n : Nm) : flx [nL n] = n.w.cps.toList := List.append_nil _
theorem vaL_w (v : Va) : flx (vaL v) = v.w.cps.toList := by
  cases v with
  | one a => exact List.append_nil _
  | bin s a b =>
    show a.w.cps.toList ++ ([32] ++ (s.t.cps.toList ++ ([32] ++ (b.w.cps.toList ++ [])))) = _
    simp only [Va.w, L_app, List.append_assoc, List.append_nil]
    rfl
theorem cfL_w (w : Cf) : flx (cfL w) = w.w.cps.toList := by cases w <;> rfl
theorem oL_w (o : Option Va) : flx (oL o) = (oW o).cps.toList := by
  cases o with
  | none => rfl
  | some v =>
    show [32] ++ ((Kw.s .whr).cps.toList ++ ([32] ++ flx (vaL v))) = _
    rw [vaL_w]; simp only [oW, L_app]; rfl
theorem asL_w (n : Nm) (v : Va) : flx (asL n v) = (n.w ++ x_203d20 ++ v.w).cps.toList := by
  show n.w.cps.toList ++ ([32] ++ ([61] ++ ([32] ++ flx (vaL v)))) = _
  rw [vaL_w]; simp only [L_app, List.append_assoc]; rfl
theorem seL_w (s : Se) : flx (seL s) = (Txt.join x_2c20 s.l).cps.toList := by
  cases s with
  | one n v => exact asL_w n v
  | two n v m u =>
    show flx (asL n v ++ .wd .cm :: .bl :: asL m u) = _
    rw [flx_app, asL_w]
    show _ ++ ([44] ++ ([32] ++ flx (asL m u))) = _
    rw [asL_w]; simp only [Se.l, join2, L_app, List.append_assoc]; rfl
theorem lx_w (d : Dr) : d.w.cps.toList = flx d.lx := by
  cases d with
  | ins t w o =>
    have e : flx (Dr.lx (.ins t w o)) = (s_INSERT : Str).cps.toList ++ (w.w.cps.toList ++ ([32] ++ ((Kw.s .into).cps.toList ++ ([32] ++ (t.w.cps.toList ++ (flx (coL o) ++ flx dvL)))))) := by
      show _ ++ flx (cfL w ++ _) = _
      rw [flx_app, cfL_w]
      show _ ++ (_ ++ ([32] ++ (_ ++ ([32] ++ (t.w.cps.toList ++ flx (coL o ++ dvL)))))) = _
      rw [flx_app]; rfl
    rw [e]
    cases o with
    | no => simp only [Dr.w, iT, L_app, List.append_assoc]; rfl
    | one n =>
      show _ = _ ++ (_ ++ (_ ++ (_ ++ (_ ++ (_ ++ (([32] ++ ([40] ++ (n.w.cps.toList ++ ([41] ++ [])))) ++ _))))))
      simp only [Dr.w, iT, Co.l, join1, L_app, List.append_assoc]; rfl
    | two n m =>
      show _ = _ ++ (_ ++ (_ ++ (_ ++ (_ ++ (_ ++ (([32] ++ ([40] ++ (n.w.cps.toList ++ ([44] ++ ([32] ++ (m.w.cps.toList ++ ([41] ++ []))))))) ++ _))))))
      simp only [Dr.w, iT, Co.l, join2, L_app, List.append_assoc]; rfl
  | upd t w s o =>
    show _ = _ ++ flx (cfL w ++ _)
    rw [flx_app, cfL_w]
    show _ = _ ++ (_ ++ ([32] ++ (t.w.cps.toList ++ ([32] ++ ((Kw.s .set).cps.toList ++ ([32] ++ flx (seL s ++ oL o)))))))
    rw [flx_app, seL_w, oL_w]
    simp only [Dr.w, L_app, List.append_assoc]; rfl
  | del t o =>
    show _ = _ ++ ([32] ++ (_ ++ ([32] ++ (t.w.cps.toList ++ flx (oL o)))))
    rw [oL_w]
    simp only [Dr.w, L_app, List.append_assoc]; rfl
theorem adjB {r : List Nat} : Adj (32 :: r) := .inr ⟨32, _, rfl, .inl rfl⟩
theorem adjC {r : List Nat} : Adj (44 :: r) := .inr ⟨44, _, rfl, .inr (.inl rfl)⟩
theorem adjP {r : List Nat} : Adj (41 :: r) := .inr ⟨41, _, rfl, .inr (.inr rfl)⟩
theorem adj0 : Adj [] := .inl rfl
theorem ok_app : ∀ {a b : List Lx} {e : List Nat}, Okl a (flx b ++ e) → Okl b e → Okl (a ++ b) e
  | [], _, _, _, h => h
  | .bl :: a, b, e, x, h => ok_app (a := a) x h
  | .wd t :: a, b, e, ⟨h1, h2, h3⟩, h => ⟨h1, h2.imp id fun q => (by show Adj (flx (a ++ b) ++ e); rw [flx_app, List.append_assoc]; exact q), ok_app (a := a) h3 h⟩
theorem okV (v : Va) {e : List Nat} (h : Adj e) : Okl (vaL v) e := by
  cases v with
  | one a => exact ⟨nofun, .inr h, trivial⟩
  | bin s a b => exact ⟨nofun, .inr adjB, nofun, .inr adjB, nofun, .inr h, trivial⟩
theorem okC (w : Cf) {e : List Nat} (h : Adj e) : Okl (cfL w) e := by
  cases w <;> first | trivial | exact ⟨nofun, .inr adjB, nofun, .inr h, trivial⟩
theorem okO (o : Option Va) {e : List Nat} (h : Adj e) : Okl (oL o) e := by
  cases o with
  | none => trivial
  | some v => exact ⟨nofun, .inr adjB, okV v h⟩
theorem okA (n : Nm) (v : Va) {e : List Nat} (h : Adj e) : Okl (asL n v) e := ⟨nofun, .inr adjB, nofun, .inr adjB, okV v h⟩
theorem okS (s : Se) {e : List Nat} (h : Adj e) : Okl (seL s) e := by
  cases s with
  | one n v => exact okA n v h
  | two n v m u => exact ok_app (okA n v adjC) ⟨nofun, .inr adjB, okA m u h⟩
theorem okN (o : Co) {e : List Nat} (h : Adj e) : Okl (coL o) e := by
  cases o with
  | no => trivial
  | one n => exact ⟨nofun, .inl rfl, nofun, .inr adjP, nofun, .inr h, trivial⟩
  | two n m => exact ⟨nofun, .inl rfl, nofun, .inr adjC, nofun, .inr adjB, nofun, .inr adjP, nofun, .inr h, trivial⟩
theorem adjO (o : Option Va) : Adj (flx (oL o) ++ []) := by cases o <;> first | exact adj0 | exact adjB
theorem adjN (o : Co) : Adj (flx (coL o ++ dvL) ++ []) := by cases o <;> exact adjB
theorem okD : Okl dvL [] := ⟨nofun, .inr adjB, nofun, .inr adj0, trivial⟩
theorem okIns (t : Nm) (o : Co) : Okl (kL .into :: .bl :: nL t :: (coL o ++ dvL)) [] :=
  ⟨nofun, .inr adjB, nofun, .inr (adjN o), ok_app (okN o adjB) okD⟩
theorem okTl (d : Dr) : Okl d.lx [] := by
  cases d with
  | ins t w o =>
    refine ⟨nofun, .inr ?_, ok_app (okC w adjB) (okIns t o)⟩
    cases w <;> exact adjB
  | upd t w s o =>
    refine ⟨nofun, .inr ?_, ok_app (okC w adjB) ⟨nofun, .inr adjB, nofun, .inr adjB, ok_app (okS s (adjO o)) (okO o adj0)⟩⟩
    cases w <;> exact adjB
  | del t o => exact ⟨nofun, .inr adjB, nofun, .inr adjB, nofun, .inr (adjO o), okO o adj0⟩
theorem tks_app : ∀ a b : List Lx, tks (a ++ b) = tks a ++ tks b
  | [], _ => rfl
  | .bl :: a, b => tks_app a b
  | .wd t :: a, b => congrArg (t :: ·) (tks_app a b)
theorem gxE (v : Va) {t : Tk} {r : List Tk} (h : Stop t) : GE (tks (vaL v) ++ t :: r) (some (v, t :: r)) := by
  cases v with
  | one a => exact .one h
  | bin s a b => exact .bin h
theorem gxA (n : Nm) (v : Va) {t : Tk} {r : List Tk} (h : Stop t) : GA (tks (asL n v) ++ t :: r) (some ((n, v), t :: r)) := .ok (gxE v h)
theorem gxC (w : Cf) {t : Tk} {r : List Tk} (h : Fst t) : GC (tks (cfL w) ++ t :: r) (some (w, t :: r)) := by
  cases w <;> first | exact .no h | exact .ok
theorem gxN (o : Co) (h : o ≠ .no) {r : List Tk} : ∃ a, tks (coL o) ++ r = .lp :: a ∧ GN (.lp :: a) (some (o, r)) := by
  cases o with
  | no => exact absurd rfl h
  | one n => exact ⟨_, rfl, .k1⟩
  | two n m => exact ⟨_, rfl, .k2⟩
theorem gxU (t : Nm) (w : Cf) (s : Se) (o : Option Va) : GU (tks (cfL w) ++ .v (.nam t) :: .kw .set :: (tks (seL s) ++ (tks (oL o) ++ [.ed]))) (some (.upd t w s o)) := by
  cases s with
  | one n v => cases o with
    | none => exact .c6 (x := (n, v)) (gxC w .n) (gxA n v .ed)
    | some z => exact .c7 (x := (n, v)) (gxC w .n) (gxA n v .whr) (gxE z .ed)
  | two n v m u =>
    have e : ∀ r, tks (seL (.two n v m u)) ++ r = tks (asL n v) ++ .cm :: (tks (asL m u) ++ r) := fun r => by
      show tks (asL n v ++ _) ++ r = _
      rw [tks_app, List.append_assoc]; rfl
    rw [e]
    cases o with
    | none => exact .c9 (x := (n, v)) (y := (m, u)) (gxC w .n) (gxA n v .cm) (gxA m u .ed)
    | some z => exact .c10 (x := (n, v)) (y := (m, u)) (gxC w .n) (gxA n v .cm) (gxA m u .whr) (gxE z .ed)
theorem gxI (t : Nm) (w : Cf) (o : Co) : GI (.kw .ins :: (tks (cfL w) ++ .kw .into :: .v (.nam t) :: (tks (coL o) ++ [.kw .dflt, .kw .vals, .ed]))) (some (.ins t w o)) := by
  cases o with
  | no => exact .c5 (gxC w .into)
  | one n => exact .c9 (gxC w .into) .k1
  | two n m => exact .c9 (gxC w .into) .k2
theorem gxI2 (t : Nm) (o : Co) : GI (.kw .repl :: .kw .into :: .v (.nam t) :: (tks (coL o) ++ [.kw .dflt, .kw .vals, .ed])) (some (.ins t .re o)) := by
  cases o with
  | no => exact .d5
  | one n => exact .d9 .k1
  | two n m => exact .d9 .k2
theorem gxR (d : Dr) : GR (tks d.lx ++ [.ed]) (some d) := by
  cases d with
  | ins t w o =>
    have e : tks (Dr.lx (.ins t w o)) ++ [.ed] = .kw .ins :: (tks (cfL w) ++ .kw .into :: .v (.nam t) :: (tks (coL o) ++ [.kw .dflt, .kw .vals, .ed])) := by
      show Tk.kw .ins :: (tks (cfL w ++ _) ++ [.ed]) = _
      rw [tks_app, List.append_assoc]
      have : tks (coL o ++ dvL) ++ [.ed] = tks (coL o) ++ [.kw .dflt, .kw .vals, .ed] := by rw [tks_app, List.append_assoc]; rfl
      rw [← this]; rfl
    rw [e]; exact .i (gxI t w o)
  | upd t w s o =>
    have e : tks (Dr.lx (.upd t w s o)) ++ [.ed] = .kw .upd :: (tks (cfL w) ++ .v (.nam t) :: .kw .set :: (tks (seL s) ++ (tks (oL o) ++ [.ed]))) := by
      show Tk.kw .upd :: (tks (cfL w ++ _) ++ [.ed]) = _
      rw [tks_app, List.append_assoc, ← List.append_assoc (tks (seL s)), ← tks_app]; rfl
    rw [e]; exact .u (gxU t w s o)
  | del t o =>
    cases o with
    | none => exact .d .c2
    | some z => exact .d (.c4 (gxE z .ed))
noncomputable def aC (L : List Lx) (P : List Lx → Prop) : Prop := ∀ l1 l2, L = l1 ++ .bl :: l2 → P l1
namespace aC
variable {P : List Lx → Prop} {a b : List Lx} {t : Tk}
theorem nil : aC [] P := fun l _ h => (List.append_ne_nil_of_right_ne_nil l (List.cons_ne_nil _ _) h.symm).elim
theorem wd (k : aC b fun m => P (.wd t :: m)) : aC (.wd t :: b) P := fun l1 l2 h => by
  cases l1 with
  | nil => exact Lx.noConfusion (List.cons.inj h).1
  | cons y l1 => exact (List.cons.inj h).1 ▸ k l1 l2 (List.cons.inj h).2
theorem bl (z : P []) (k : aC b fun m => P (.bl :: m)) : aC (.bl :: b) P := fun l1 l2 h => by
  cases l1 with
  | nil => exact z
  | cons y l1 => exact (List.cons.inj h).1 ▸ k l1 l2 (List.cons.inj h).2
theorem app (k1 : aC a P) (k2 : aC b fun m => P (a ++ m)) : aC (a ++ b) P := by
  induction a generalizing P with
  | nil => exact k2
  | cons x a ih => cases x with
    | wd t => exact wd (ih (fun l l2 h => k1 (.wd t :: l) l2 (congrArg _ h)) k2)
    | bl => exact bl (k1 [] a rfl) (ih (fun l l2 h => k1 (.bl :: l) l2 (congrArg _ h)) k2)
theorem appT {Q : List Tk → Prop} {r : List Tk} (k1 : aC a fun l => Q (tks l ++ r)) (k2 : aC b fun m => Q (tks a ++ (tks m ++ r))) : aC (a ++ b) fun l => Q (tks l ++ r) :=
  app k1 fun l l2 h => by show Q (tks (a ++ l) ++ r); rw [tks_app, List.append_assoc]; exact k2 l l2 h
end aC
noncomputable def LV (x v : Va) : Prop := ∃ s a b, v = .bin s a b ∧ x = .one a
inductive CV1 (v : Va) (ts : List Tk) : Prop
  | no (g : GE ts none) | ok (x : Va) (l : LV x v) (g : GE ts (some (x, [.ed])))
theorem cutV (v : Va) : aC (vaL v) fun l => CV1 v (tks l ++ [.ed]) := by
  cases v with
  | one a => exact .wd .nil
  | bin s a b => exact .wd (.bl (.ok (.one a) ⟨s, a, b, rfl, rfl⟩ (.one .ed)) (.wd (.bl (.no .op) (.wd .nil))))
inductive CA1 (n : Nm) (v : Va) (ts : List Tk) : Prop
  | no (g : GA ts none) | ok (x : Va) (l : LV x v) (g : GA ts (some ((n, x), [.ed])))
theorem cutA (n : Nm) (v : Va) : aC (asL n v) fun l => CA1 n v (tks l ++ [.ed]) :=
  .wd (.bl (.no .n) (.wd (.bl (.no (.x .e)) fun l1 l2 h => by
    cases cutV v l1 l2 h with
    | no g => exact .no (.x g)
    | ok x hx g => exact .ok x hx (.ok g))))
inductive SL : Se → Se → Prop
  | a {n x v} : LV x v → SL (.one n x) (.one n v)
  | b {n x v m u} : x = v ∨ LV x v → SL (.one n x) (.two n v m u)
  | c {n v m x u} : LV x u → SL (.two n v m x) (.two n v m u)
inductive OL : Option Va → Option Va → Prop
  | a {z} : OL none (some z)
  | b {x z} : LV x z → OL (some x) (some z)
inductive Ls : Dr → Dr → Prop
  | s {t w s' s o} : SL s' s → Ls (.upd t w s' none) (.upd t w s o)
  | o {t w s o' o} : OL o' o → Ls (.upd t w s o') (.upd t w s o)
  | d {t o' o} : OL o' o → Ls (.del t o') (.del t o)
inductive CutD (G : List Tk → Option Dr → Prop) (d : Dr) (ts : List Tk) : Prop
  | no (g : G ts none) | ok (d' : Dr) (l : Ls d' d) (g : G ts (some d'))
section
variable {ts r b : List Tk} {w : Cf} {t : Nm} {s : Se} {o : Option Va}
noncomputable def GS (ts : List Tk) (w : Cf) (t : Nm) (r : List Tk) : Prop := GC ts (some (w, .v (.nam t) :: .kw .set :: r))
theorem twoT {n m : Nm} {v u : Va} : tks (seL (.two n v m u)) ++ r = tks (asL n v) ++ .cm :: (tks (asL m u) ++ r) := by
  show tks (asL n v ++ _) ++ r = _
  rw [tks_app, List.append_assoc]; rfl
theorem gu_ed (g : GS ts w t (tks (seL s) ++ .ed :: r)) : GU ts (some (.upd t w s none)) := by
  cases s with
  | one n v => exact .c6 g (gxA n v .ed)
  | two n v m u => rw [twoT] at g; exact .c9 g (gxA n v .cm) (gxA m u .ed)
theorem gu_no (g : GS ts w t (tks (seL s) ++ .kw .whr :: b)) (ge : GE b none) : GU ts none := by
  cases s with
  | one n v => exact .c5 g (gxA n v .whr) ge
  | two n v m u => rw [twoT] at g; exact .c8 g (gxA n v .cm) (gxA m u .whr) ge
theorem gu_wh {z : Va} (g : GS ts w t (tks (seL s) ++ .kw .whr :: b)) (ge : GE b (some (z, .ed :: r))) : GU ts (some (.upd t w s (some z))) := by
  cases s with
  | one n v => exact .c7 g (gxA n v .whr) ge
  | two n v m u => rw [twoT] at g; exact .c10 g (gxA n v .cm) (gxA m u .whr) ge
theorem cutS2 {n m : Nm} {v u : Va} : aC (.wd .cm :: .bl :: asL m u) fun l => GS ts w t (tks (asL n v) ++ (tks l ++ [.ed])) → CutD GU (.upd t w (.two n v m u) o) ts :=
  .wd (.bl (fun g => .no (.c4 g (gxA n v .cm) .e)) fun l1 l2 h g => by
    cases cutA m u l1 l2 h with
    | no ga => exact .no (.c4 g (gxA n v .cm) ga)
    | ok x hx ga => exact .ok _ (.s (.c hx)) (.c9 g (gxA n v .cm) ga))
theorem cutS (s : Se) : aC (seL s) fun l => GS ts w t (tks l ++ [.ed]) → CutD GU (.upd t w s o) ts := by
  cases s with
  | one n v =>
    intro l1 l2 h g
    cases cutA n v l1 l2 h with
    | no ga => exact .no (.c3 g ga)
    | ok x hx ga => exact .ok _ (.s (.a hx)) (.c6 g ga)
  | two n v m u =>
    refine .app (fun l1 l2 h g => ?_) fun l1 l2 h g => cutS2 l1 l2 h (by rw [tks_app, List.append_assoc] at g; exact g)
    cases cutA n v l1 l2 h with
    | no ga => exact .no (.c3 g ga)
    | ok x hx ga => exact .ok _ (.s (.b (.inr hx))) (.c6 g ga)
theorem cutWh (o : Option Va) : aC (oL o) fun l => GS ts w t (tks (seL s) ++ (tks l ++ [.ed])) → CutD GU (.upd t w s o) ts := by
  cases o with
  | none => exact .nil
  | some z =>
    refine .bl (fun g => .ok _ (.o .a) (gu_ed g)) (.wd (.bl (fun g => .no (gu_no g .e)) fun l1 l2 h g => ?_))
    cases cutV z l1 l2 h with
    | no ge => exact .no (gu_no g ge)
    | ok x hx ge => exact .ok _ (.o (.b hx)) (gu_wh g ge)
theorem cutC {P : List Lx → Prop} (w : Cf) (a : P []) (b : P [.bl, .wd (.kw .or)]) : aC (cfL w) P := by
  cases w with
  | ab => exact .nil
  | _ => exact .bl a (.wd (.bl b (.wd .nil)))
theorem cutU : aC (Dr.tl (.upd t w s o)) fun l => CutD GU (.upd t w s o) (tks l ++ [.ed]) :=
  .appT (cutC w (.no (.c1 (.no .ed))) (.no (.c0 .e))) (.bl (.no (.c1 (gxC w .ed))) (.wd (.bl (.no (.c2 (gxC w .n))) (.wd (.bl (.no (.c3 (gxC w .n) .e)) (.app (fun l1 l2 h => cutS s l1 l2 h (gxC w .n)) fun l1 l2 h => cutWh o l1 l2 h (by
    rw [show tks (seL s) ++ (tks l1 ++ [.ed]) = tks (seL s ++ l1) ++ [.ed] by rw [tks_app, List.append_assoc]]
    exact gxC w .n)))))))
theorem cutDo (o : Option Va) : aC (oL o) fun l => CutD GD (.del t o) (.kw .frm :: .v (.nam t) :: (tks l ++ [.ed])) := by
  cases o with
  | none => exact .nil
  | some z =>
    refine .bl (.ok _ (.d .a) .c2) (.wd (.bl (.no (.c3 .e)) fun l1 l2 h => ?_))
    cases cutV z l1 l2 h with
    | no ge => exact .no (.c3 ge)
    | ok x hx ge => exact .ok _ (.d (.b hx)) (.c4 ge)
theorem cutD : aC (Dr.tl (.del t o)) fun l => CutD GD (.del t o) (tks l ++ [.ed]) :=
  .bl (.no .c0) (.wd (.bl (.no .c1) (.wd (cutDo o))))
theorem cutDv {P : List Lx → Prop} (a : P []) (b : P [.bl, .wd (.kw .dflt)]) : aC dvL P := .bl a (.wd (.bl b (.wd .nil)))
noncomputable def GIn (q : List Tk) : Prop := GI (.kw .ins :: q) none
theorem cutIo (o : Co) : aC (coL o ++ dvL) fun l => GIn (tks (cfL w) ++ .kw .into :: .v (.nam t) :: (tks l ++ [.ed])) := by
  cases o with
  | no => exact cutDv (.c3 (gxC w .into)) (.c4 (gxC w .into))
  | one n => exact .bl (.c3 (gxC w .into)) (.wd (.wd (.wd (cutDv (.c7 (gxC w .into) .k1) (.c8 (gxC w .into) .k1)))))
  | two n m => exact .bl (.c3 (gxC w .into)) (.wd (.wd (.wd (.bl (.c6 (gxC w .into) .n2) (.wd (.wd (cutDv (.c7 (gxC w .into) .k2) (.c8 (gxC w .into) .k2))))))))
theorem cutI {o : Co} : aC (Dr.tl (.ins t w o)) fun l => GIn (tks l ++ [.ed]) :=
  .appT (cutC w (.c1 (.no .ed)) (.c0 .e)) (.bl (.c1 (gxC w .ed)) (.wd (.bl (.c2 (gxC w .into)) (.wd (cutIo o)))))
end
theorem cutR (d : Dr) : aC d.tl fun l => CutD GR d (tks (kL d.hd :: l) ++ [.ed]) := fun l1 l2 h => by
  cases d with
  | ins t w o => exact .no (.i (cutI l1 l2 h))
  | upd t w s o =>
    cases cutU l1 l2 h with
    | no g => exact .no (.u g)
    | ok q l g => exact .ok q l (.u g)
  | del t o =>
    cases cutD l1 l2 h with
    | no g => exact .no (.d g)
    | ok q l g => exact .ok q l (.d g)
theorem no32 {l : List Nat} (h : l.contains 32 = false) {q : Nat} (e : l[q]? = some 32) : False := by
  have := List.mem_of_getElem? e
  rw [List.contains_iff_mem.mpr this] at h; cases h
theorem tk32 (t : Tk) {q : Nat} (h : t.cl[q]? = some 32) : t = .v (.nam .sp) ∧ q = 2 := by
  cases t with
  | v a =>
    cases a
    case nam n =>
      cases n
      case sp =>
        refine ⟨rfl, ?_⟩
        have h : [34, 97, 32, 98, 34][q]? = some 32 := h
        match q, h with
        | 0, h => cases h
        | 1, h => cases h
        | 2, h => rfl
        | 3, h => cases h
        | 4, h => cases h
        | n + 5, h => cases h
      all_goals exact (no32 (by rfl) h).elim
    all_goals exact (no32 (by rfl) h).elim
  | sg s => cases s <;> exact (no32 (by rfl) h).elim
  | kw k =>
    cases k
    case cf w => cases w <;> exact (no32 (by rfl) h).elim
    all_goals exact (no32 (by rfl) h).elim
  | _ => exact (no32 (by rfl) h).elim
theorem cutAt : ∀ (ls : List Lx) (q : Nat), (flx ls)[q]? = some 32 → (∃ l1 l2, ls = l1 ++ .bl :: l2 ∧ (flx ls).take q = flx l1) ∨ ∃ l1 l2, ls = l1 ++ .wd (.v (.nam .sp)) :: l2 ∧ (flx ls).take q = flx l1 ++ [34, 97]
  | [], q, h => by cases h
  | x :: ls, q, h => by
    have e : flx (x :: ls) = x.cl ++ flx ls := rfl
    rw [e] at h ⊢
    rcases Nat.lt_or_ge q x.cl.length with hq | hq
    · rw [List.getElem?_append_left hq] at h
      cases x with
      | bl =>
        have : q = 0 := Nat.lt_one_iff.mp hq
        subst this
        exact .inl ⟨[], ls, rfl, rfl⟩
      | wd t =>
        obtain ⟨rfl, rfl⟩ := tk32 t h
        exact .inr ⟨[], ls, rfl, rfl⟩
    · rw [List.getElem?_append_right hq] at h
      have tk : (x.cl ++ flx ls).take q = x.cl ++ (flx ls).take (q - x.cl.length) := by rw [List.take_append, List.take_of_length_le hq]
      rw [tk]
      rcases cutAt ls _ h with ⟨l1, l2, e1, e2⟩ | ⟨l1, l2, e1, e2⟩
      · exact .inl ⟨x :: l1, l2, by rw [e1]; rfl, by rw [e2]; rfl⟩
      · exact .inr ⟨x :: l1, l2, by rw [e1]; rfl, by rw [e2]; exact (List.append_assoc ..).symm⟩
theorem adjH {x y : List Nat} (h : Adj (x ++ y)) : Adj (x ++ []) := by
  cases x with
  | nil => exact adj0
  | cons a x =>
    rcases h with h | ⟨b, r, h, k⟩
    · cases h
    · cases h; exact .inr ⟨_, _, rfl, k⟩
theorem adjU {x y : List Nat} (h : Adj (x ++ 34 :: y)) : Adj (x ++ [34, 97]) := by
  cases x with
  | nil =>
    rcases h with h | ⟨b, r, h, k⟩
    · cases h
    · cases h; rcases k with k | k | k <;> cases k
  | cons a x =>
    rcases h with h | ⟨b, r, h, k⟩
    · cases h
    · cases h; exact .inr ⟨_, _, rfl, k⟩
theorem okP : ∀ (a : List Lx) {b : List Lx} {e : List Nat}, Okl (a ++ b) e → Okl a []
  | [], _, _, _ => trivial
  | .bl :: a, b, e, h => okP a h
  | .wd t :: a, b, e, ⟨h1, h2, h3⟩ => ⟨h1, h2.imp id fun q => by
      have q : Adj (flx (a ++ b) ++ e) := q
      rw [flx_app, List.append_assoc] at q; exact adjH q, okP a h3⟩
theorem okQ : ∀ (a : List Lx) {b : List Lx} {e : List Nat}, Okl (a ++ .wd (.v (.nam .sp)) :: b) e → Okl a [34, 97]
  | [], _, _, _ => trivial
  | .bl :: a, b, e, h => okQ a h
  | .wd t :: a, b, e, ⟨h1, h2, h3⟩ => ⟨h1, h2.imp id fun q => by
      have q : Adj (flx (a ++ .wd (.v (.nam .sp)) :: b) ++ e) := q
      rw [flx_app, List.append_assoc] at q; exact adjU q, okQ a h3⟩
noncomputable def Lb (k : Nat) (l : List Lx) : Prop := l.length ≤ k
theorem Lb.a {j k : Nat} {l r : List Lx} (x : Lb j l) (y : Lb k r) : Lb (j + k) (l ++ r) := by unfold Lb; rw [List.length_append]; exact Nat.add_le_add x y
theorem Lb.c {k : Nat} {a : Lx} {l : List Lx} (x : Lb k l) : Lb (k + 1) (a :: l) := Nat.succ_le_succ x
theorem vaL.lb (v : Va) : Lb 5 (vaL v) := by cases v <;> exact Nat.le_of_ble_eq_true rfl
theorem cfL.lb (w : Cf) : Lb 4 (cfL w) := by cases w <;> exact Nat.le_of_ble_eq_true rfl
theorem coL.lb (o : Co) : Lb 7 (coL o) := by cases o <;> exact Nat.le_of_ble_eq_true rfl
theorem oL.lb (o : Option Va) : Lb 8 (oL o) := by
  cases o with
  | none => exact Nat.zero_le _
  | some v => exact v |> vaL.lb |>.c.c.c
theorem asL.lb (n : Nm) (v : Va) : Lb 9 (asL n v) := (vaL.lb v).c.c.c.c
theorem seL.lb (s : Se) : Lb 20 (seL s) := by
  cases s with
  | one n x => exact Nat.le_trans (asL.lb n x) (by decide)
  | two n x m y => exact (asL.lb n x).a (asL.lb m y).c.c
theorem dvL.lb : Lb 4 dvL := Nat.le_refl 4
theorem lx_len (d : Dr) : d.tl.length < 99000 := by
  cases d with
  | ins t w q => exact Nat.lt_of_le_of_lt ((cfL.lb w).a ((coL.lb q).a dvL.lb).c.c.c.c) (by decide)
  | upd t w q p => exact Nat.lt_of_le_of_lt ((cfL.lb w).a ((seL.lb q).a (oL.lb p)).c.c.c.c.c) (by decide)
  | del t p => exact Nat.lt_of_le_of_lt (oL.lb p).c.c.c.c (by decide)
theorem seW.bd (s : Se) : Bd 7 (Txt.join x_2c20 s.l) := by
  cases s with
  | one n x => exact Nat.le_trans (bJ1 x_2c20 ((n.bd.a (bL x_203d20)).a x.bd)) (by decide)
  | two n x m y => exact bJ2 ((n.bd.a (bL x_203d20)).a x.bd) (bL x_2c20) ((m.bd.a (bL x_203d20)).a y.bd)
theorem coW.bd (o : Co) : Bd 3 (Txt.join x_2c20 o.l) := by
  cases o with
  | no => exact Nat.zero_le _
  | one n => exact Nat.le_trans (bJ1 x_2c20 n.bd) (by decide)
  | two n m => exact bJ2 n.bd (bL x_2c20) m.bd
theorem Dr.bd (d : Dr) : Bd 20 d.w := by
  cases d with
  | ins t w q =>
    have k : Bd 20 (iT t w ++ x_2028 ++ Txt.join x_2c20 q.l ++ x_29 ++ x_2044454641554c542056414c554553) := Nat.le_trans (((((iT.bd t w).a (bL x_2028)).a (coW.bd q)).a (bL x_29)).a (bL x_2044454641554c542056414c554553)) (by decide)
    cases q with
    | no => exact Nat.le_trans ((iT.bd t w).a (bL x_2044454641554c542056414c554553)) (by decide)
    | one n => exact k
    | two n m => exact k
  | upd t w q p => exact Nat.le_trans (((((((bL s_UPDATE).a w.bd).a (bL x_20)).a t.bd).a (bL x_2053455420)).a (seW.bd q)).a (oW.bd p)) (by decide)
  | del t p => exact Nat.le_trans (((bL x_44454c4554452046524f4d20).a t.bd).a (oW.bd p)) (by decide)
theorem Dr.wl (d : Dr) : d.w.length ≤ 1000 := d.bd
section
variable {c : Cx} {mg mb : Str → Option Value} (B : Base c.w c.h₀ mg mb)
include B
theorem rdFull (d : Dr) : RdO c d.w d := readL B (Nat.le_trans d.wl (by decide)) (okTl d) (lx_w d) (lx_len d) (gxR d)
theorem rdCut (d : Dr) {q : Nat} (h : d.w.cps.toList[q]? = some 32) : (∃ pl, RdN c (mkS (d.w.cps.toList.take q)) pl) ∨ ∃ d', Ls d' d ∧ RdO c (mkS (d.w.cps.toList.take q)) d' := by
  have hl : (mkS (d.w.cps.toList.take q)).length ≤ 100000 := by
    have := d.wl; rw [lenT] at this ⊢; show (List.take q _).length ≤ _; rw [List.length_take]; exact Nat.le_trans (Nat.min_le_right _ _) (Nat.le_trans this (by decide))
  have hn := lx_len d
  have ho := okTl d
  have ho : Okl (kL d.hd :: d.tl) [] := ho
  rw [lx_w] at h hl ⊢
  rcases cutAt d.lx q h with ⟨l1, l2, e1, e2⟩ | ⟨l1, l2, e1, e2⟩
  · rw [e2] at hl ⊢
    refine aC.wd (P := fun l1 => (mkS (flx l1)).length ≤ 100000 → (∃ pl, RdN c (mkS (flx l1)) pl) ∨ ∃ d', Ls d' d ∧ RdO c (mkS (flx l1)) d') (fun m l2 e hl => ?_) l1 l2 e1 hl
    rw [e] at ho
    rw [e, List.length_append] at hn
    have hn := Nat.lt_of_le_of_lt (Nat.le_add_right _ _) hn
    rcases cutR d m l2 e with g | ⟨d', ls, g⟩
    · exact .inl (readL B hl (okP (kL d.hd :: m) ho) rfl hn g)
    · exact .inr ⟨d', ls, readL B hl (okP (kL d.hd :: m) ho) rfl hn g⟩
  · rw [e2] at hl ⊢
    cases l1 with
    | nil => exact Lx.noConfusion (List.cons.inj e1).1 fun e => Tk.noConfusion e
    | cons x m =>
      obtain ⟨ex, et⟩ := List.cons.inj e1
      have et : d.tl = m ++ .wd (.v (.nam .sp)) :: l2 := et
      rw [et] at ho
      rw [et, List.length_append] at hn
      rw [← ex] at hl ⊢
      exact .inl (readU B hl (okQ (kL d.hd :: m) ho) rfl (Nat.lt_of_le_of_lt (Nat.le_add_right _ _) hn))
end
theorem a2c {f : Dat → Dat → Bool} {a b : Dat} {l r : List Dat} : all2 f (a :: l) (b :: r) = (f a b && all2 f l r) := rfl
theorem a2n {f : Dat → Dat → Bool} : all2 f [] [] = true := rfl
theorem a2m {f : Dat → Dat → Bool} {b : Dat} {r : List Dat} : all2 f [] (b :: r) = true := rfl
theorem ebs {a b : Dat} {l r : List Dat} : eqBs (a :: l) (b :: r) = (eqB a b && eqBs l r) := rfl
theorem ebn : eqBs [] [] = true := rfl
theorem ebm {b : Dat} {r : List Dat} : eqBs [] (b :: r) = false := rfl
theorem ebt {a b : List Dat} : eqB (.tup a) (.tup b) = eqBs a b := rfl
theorem ebS {y z : Bool} {a : Str} : eqB (.str y a) (.str z a) = true := sq_refl a
theorem ebN : eqB .none .none = true := rfl
theorem ebB {b : Bool} : eqB (.bool b) (.bool b) = true := by cases b <;> rfl
theorem okT {n : Nat} {a b : List Dat} : eqOk (n + 1) (.tup a) (.tup b) = all2 (eqOk n) a b := rfl
theorem okS' {n : Nat} {y z : Bool} {a b : Str} : eqOk (n + 1) (.str y a) (.str z b) = true := rfl
theorem okB {n : Nat} {a b : Bool} : eqOk (n + 1) (.bool a) (.bool b) = true := rfl
theorem okN' {n : Nat} : eqOk (n + 1) .none .none = true := rfl
theorem okNT {n : Nat} {a : List Dat} : eqOk (n + 1) .none (.tup a) = true := rfl
theorem aok (a : At) (k : Nat) : eqOk (k + 2) (.tup a.r) (.tup a.r) = true := by cases a <;> rfl
theorem aeq (a : At) : eqB (.tup a.r) (.tup a.r) = true := by cases a <;> first | rfl | (rename_i n; cases n <;> rfl)
theorem vok (v : Va) (k : Nat) : eqOk (k + 3) (.tup v.r) (.tup v.r) = true := by
  cases v with
  | one a => exact aok a (k + 1)
  | bin s a b => simp only [Va.r, okT, a2c, a2n, okS']; rw [← okT, ← okT, aok, aok]; rfl
theorem veq (v : Va) : eqB (.tup v.r) (.tup v.r) = true := by
  cases v with
  | one a => exact aeq a
  | bin s a b => simp only [Va.r, ebt, ebs, ebn, ebS]; rw [← ebt, ← ebt, aeq, aeq]; rfl
theorem vle {x v : Va} (h : LV x v) (k : Nat) : eqOk (k + 3) (.tup x.r) (.tup v.r) = true := by
  obtain ⟨s, a, b, rfl, rfl⟩ := h
  cases a <;> rfl
theorem vne {x v : Va} (h : LV x v) : eqB (.tup x.r) (.tup v.r) = false := by
  obtain ⟨s, a, b, rfl, rfl⟩ := h
  cases a <;> rfl
theorem ook {o : Option Va} (k : Nat) : eqOk (k + 3) (oR o) (oR o) = true := by
  cases o with
  | none => rfl
  | some v => exact vok v k
theorem oeq {o : Option Va} : eqB (oR o) (oR o) = true := by
  cases o with
  | none => exact ebN
  | some v => exact veq v
theorem hO' {o : Option Va} (k : Nat) : eqOk (k + 1) (oR none) (oR o) = true := by cases o <;> rfl
theorem ole {x o : Option Va} (h : OL x o) (k : Nat) : eqOk (k + 3) (oR x) (oR o) = true := by
  cases h with
  | a => rfl
  | b h => exact vle h k
theorem one {x o : Option Va} (h : OL x o) : eqB (oR x) (oR o) = false := by
  cases h with
  | a => rfl
  | b h => exact vne h
theorem sok (s : Se) (k : Nat) : eqOk (k + 5) (.tup s.r) (.tup s.r) = true := by
  cases s <;> simp only [Se.r, pr, okT, a2c, a2n, okS', Bool.true_and, Bool.and_true] <;> simp only [← okT, vok, Bool.and_true]
theorem seq (s : Se) : eqB (.tup s.r) (.tup s.r) = true := by
  cases s <;> simp only [Se.r, pr, ebt, ebs, ebn, ebS, Bool.true_and, Bool.and_true] <;> simp only [← ebt, veq, Bool.and_true]
theorem sle {x s : Se} (h : SL x s) (k : Nat) : eqOk (k + 5) (.tup x.r) (.tup s.r) = true := by
  cases h with
  | a h => simp only [Se.r, pr, okT, a2c, a2n, okS', Bool.true_and, Bool.and_true]; simp only [← okT, vle h]
  | b h =>
    simp only [Se.r, pr, okT, a2c, a2n, a2m, okS', Bool.true_and, Bool.and_true]
    rcases h with rfl | h
    · simp only [← okT, vok]
    · simp only [← okT, vle h]
  | c h => simp only [Se.r, pr, okT, a2c, a2n, okS', Bool.true_and, Bool.and_true]; simp only [← okT, vle h, vok, Bool.and_true]
theorem sne {x s : Se} (h : SL x s) : eqB (.tup x.r) (.tup s.r) = false := by
  cases h with
  | a h => simp only [Se.r, pr, ebt, ebs, ebn, ebS, Bool.true_and, Bool.and_true]; simp only [← ebt, vne h]
  | b h => simp only [Se.r, ebt, ebs, ebm, Bool.and_false]
  | c h => simp only [Se.r, pr, ebt, ebs, ebn, ebS, Bool.true_and, Bool.and_true]; simp only [← ebt, vne h, Bool.and_false]
theorem coB (o : Co) (k : Nat) : eqOk (k + 2) o.r o.r = true := by cases o <;> rfl
theorem coE (o : Co) : eqB o.r o.r = true := by
  cases o <;> simp only [Co.r, ebN, ebt, ebs, ebn, ebS, Bool.true_and, Bool.and_true]
theorem drok (d : Dr) : eqOk 7 (.tup d.r) (.tup d.r) = true := by
  cases d with
  | ins t w o => simp only [Dr.r, okT, a2c, a2n, okS', okN', coB, Bool.true_and, Bool.and_true]
  | upd t w s o => simp only [Dr.r, okT, a2c, a2n, okS', Bool.true_and, Bool.and_true]; simp only [← okT, sok, ook, Bool.true_and, Bool.and_true]
  | del t o => simp only [Dr.r, okT, a2c, a2n, okS', ook, Bool.true_and, Bool.and_true]
theorem deq (d : Dr) : eqB (.tup d.r) (.tup d.r) = true := by
  cases d with
  | ins t w o => simp only [Dr.r, ebt, ebs, ebn, ebS, ebN, coE, Bool.true_and, Bool.and_true]
  | upd t w s o => simp only [Dr.r, ebt, ebs, ebn, ebS, oeq, Bool.true_and, Bool.and_true]; simp only [← ebt, seq]
  | del t o => simp only [Dr.r, ebt, ebs, ebn, ebS, oeq, Bool.true_and, Bool.and_true]
theorem dle {x d : Dr} (h : Ls x d) : eqOk 7 (.tup x.r) (.tup d.r) = true := by
  cases h with
  | s h => simp only [Dr.r, okT, a2c, a2n, okS', hO', Bool.true_and, Bool.and_true]; simp only [← okT, sle h, hO', Bool.true_and, Bool.and_true]
  | o h => simp only [Dr.r, okT, a2c, a2n, okS', ole h, Bool.true_and, Bool.and_true]; simp only [← okT, sok, Bool.true_and, Bool.and_true]
  | d h => simp only [Dr.r, okT, a2c, a2n, okS', ole h, Bool.true_and, Bool.and_true]
theorem dne {x d : Dr} (h : Ls x d) : eqB (.tup x.r) (.tup d.r) = false := by
  cases h with
  | s h => simp only [Dr.r, ebt, ebs, ebn, ebS, Bool.true_and, Bool.and_true]; simp only [← ebt, sne h, Bool.false_and]
  | o h => simp only [Dr.r, ebt, ebs, ebn, ebS, one h, Bool.true_and, Bool.and_true, Bool.and_false, Bool.false_and]
  | d h => simp only [Dr.r, ebt, ebs, ebn, ebS, one h, Bool.true_and, Bool.and_true, Bool.and_false, Bool.false_and]
noncomputable def rdT (x : Dr) : List Dat := [.str false s_read, .tup x.r, .bool true]
noncomputable def rfT (pl : Int) : List Dat := [.str false s_refused, .int true pl, .bool false]
theorem q1 (d : Dr) : eqOk 8 (.tup (rdT d)) (.tup (rdT d)) = true := by simp only [rdT, okT, a2c, a2n, okS', okB, Bool.true_and, Bool.and_true]; rw [← okT, drok]
theorem q2 (d : Dr) : eqBs (rdT d) (rdT d) = true := by simp only [rdT, ebs, ebn, ebS, ebB, deq, Bool.true_and, Bool.and_true]
theorem q3 (d : Dr) (pl : Int) : eqOk 8 (.tup (rfT pl)) (.tup (rdT d)) = true := rfl
theorem q4 (d : Dr) (pl : Int) : eqBs (rfT pl) (rdT d) = false := rfl
theorem q5 {x d : Dr} (h : Ls x d) : eqOk 8 (.tup (rdT x)) (.tup (rdT d)) = true := by simp only [rdT, okT, a2c, a2n, okS', okB, Bool.true_and, Bool.and_true]; rw [← okT, dle h]
theorem q6 {x d : Dr} (h : Ls x d) : eqBs (rdT x) (rdT d) = false := by simp only [rdT, ebs, ebn, ebS, ebB, dne h, Bool.true_and, Bool.and_true, Bool.and_false, Bool.false_and]
noncomputable def s_ends : Str := ⟨#[101, 110, 100, 115]⟩
noncomputable def cpX : Stmt → Str | .Assign [.Name x _] _ _ => x | _ => s_0
noncomputable def cpPx : Stmt → Pos | .Assign [.Name _ p] _ _ => p | _ => ⟨0, 0, 0, 0⟩
noncomputable def cpL : Stmt → Option (Expr × Expr × Expr × List Expr × Scope × Pos) | .Assign _ (.ListComp e [⟨t, i, f, 0⟩] s q) _ => some (e, t, i, f, s, q) | _ => none
noncomputable def cpD : Expr × Expr × Expr × List Expr × Scope × Pos := match cpL (stmAt 1377 6) with | some x => x | none => (.Name s_0 ⟨0, 0, 0, 0⟩, .Name s_0 ⟨0, 0, 0, 0⟩, .Name s_0 ⟨0, 0, 0, 0⟩, [], (fScope (stAt 96)), ⟨0, 0, 0, 0⟩)
noncomputable def cpE : Expr := cpD.1
noncomputable def cpT : Expr := cpD.2.1
noncomputable def cpI : Expr := cpD.2.2.1
noncomputable def cpF : List Expr := cpD.2.2.2.1
noncomputable def cpS : Scope := cpD.2.2.2.2.1
noncomputable def cpQ : Pos := cpD.2.2.2.2.2
noncomputable def cpP : Stmt → Pos | .Assign _ _ p => p | _ => ⟨0, 0, 0, 0⟩
theorem st6_is : stmAt 1377 6 = .Assign [.Name (cpX (stmAt 1377 6)) (cpPx (stmAt 1377 6))] (.ListComp cpE [⟨cpT, cpI, cpF, 0⟩] cpS cpQ) (cpP (stmAt 1377 6)) := by kernel_rfl
noncomputable def seW : SE := ⟨129, 1377, (fiAt 1377).nm, 0, [(s_text, 1)], true⟩
noncomputable def cpCl : List (Str × Nat) := match clos seW cpS.names [] with | some x => x | none => []
noncomputable def seC : SE := { seW with nm := relab seW cpS.names, fr := 8, cl := cpCl, tr := false }
theorem uW_t {γ : Type} {b : Bool} {k : Option γ} (h : b = true) : uW b k = k := by rw [h]; rfl
theorem uO_s {β γ : Type} {o : Option β} {x : β} {k : β → Option γ} (h : o = some x) : uO o k = k x := by rw [h]; rfl
theorem bnd_s {α β : Type} {x : Res α} {k : α → S → Res β} {P P2 : List Prop} {a : α} {s : S} {o : Oc β} (h : x = some (P, .ok a s)) (h2 : k a s = some (P2, o)) : bnd x k = some (P ++ P2, o) := by rw [h]; unfold bnd; dsimp only; rw [h2]
theorem bnk_s {α β : Type} {x : Res α} {k : α → S → Res β} {P P2 : List Prop} {a : α} {s : S} {o : Oc β} (h : x = some (P, .ok a s)) (h2 : k a s = some (P2, o)) : bnk x k = some (P ++ P2, o) := by rw [h]; unfold bnk; dsimp only; rw [h2]
section
variable {R : Rec} {se : SE} {t elt : Expr} {ifs : List Expr} {x y : Dat} {r ys : List Dat} {s s1 s2 s3 : S} {P1 P : List Prop}
theorem cmTrue (hT : target se t (.d x) s = some ([], .ok () s1)) (hI : evIfs R se ifs s1 = some (P1, .ok true s2)) (hE : R.e se elt s2 = some ([], .ok (.d y) s2)) (hF : R.cm se t elt ifs r s2 = some (P, .ok ys s3)) :
    evCm R se t elt ifs (x :: r) s = some (P1 ++ P, .ok (y :: ys) s3) :=
  (bnd_s hT (bnd_s hI (bnd_s hE (bnd_s (k := fun ys s => ret (y :: ys) s) hF rfl)))).trans (by simp)
theorem cmFalse (hT : target se t (.d x) s = some ([], .ok () s1)) (hI : evIfs R se ifs s1 = some (P1, .ok false s2)) (hF : R.cm se t elt ifs r s2 = some (P, .ok ys s3)) :
    evCm R se t elt ifs (x :: r) s = some (P1 ++ P, .ok ys s3) :=
  (show _ = some ([] ++ (P1 ++ P), _) from bnd_s hT (bnd_s hI hF))
end
theorem run_cm {T : Tb} {n : Nat} : (run T (n + 1)).cm = evCm (run T n) := rfl
theorem upTo_s {k n : Nat} : upTo k (n + 1) = .int true (k : Int) :: upTo (k + 1) n := rfl
noncomputable def spP (L : List Nat) : Nat → Nat → List Dat
  | _, 0 => []
  | k, n + 1 => match L[k]? with | some ch => bif sq ⟨#[ch]⟩ x_20 then .int true (k : Int) :: spP L (k + 1) n else spP L (k + 1) n | none => []
theorem spP_n {L : List Nat} {k n : Nat} (h : L[k]? = none) : spP L k (n + 1) = [] := by
  show (match L[k]? with | some _ => _ | none => _) = _; rw [h]
theorem spP_s {L : List Nat} {k n ch : Nat} {b : Bool} (hch : L[k]? = some ch) (hb : sq ⟨#[ch]⟩ x_20 = b) : spP L k (n + 1) = cond b (.int true (k : Int) :: spP L (k + 1) n) (spP L (k + 1) n) := by
  show (match L[k]? with | some ch => bif sq ⟨#[ch]⟩ x_20 then Dat.int true (k : Int) :: spP L (k + 1) n else spP L (k + 1) n | none => []) = _
  rw [hch, ← hb]
section
variable (c : Cx) {T : Str} (h0 : T.length ≤ 1000) (A2 B2 : Int) (L0 : List (Str × SV))
noncomputable def σW (T : Str) (A2 B2 : Int) (L0 : List (Str × SV)) : St := [.loc L0, .cell (some (sy T)), .dead, src A2 B2, .dead, .dead, .dead, .dead]
theorem cmStep {m k ch : Nat} {b : Bool} {La : List (Str × SV)} (hLa : La = [] ∨ ∃ v, La = [(s_at, v)]) (hs : List Hint) :
    target seC cpT (.d (.int true (k : Int))) ⟨σW T A2 B2 L0 ++ [.loc La], .x (.str true ⟨#[ch]⟩) :: .b b :: hs⟩ = some ([], .ok () ⟨σW T A2 B2 L0 ++ [.loc [(s_at, yi k)]], .x (.str true ⟨#[ch]⟩) :: .b b :: hs⟩) ∧
    evIfs (run (TT c) (m + 40)) seC cpF ⟨σW T A2 B2 L0 ++ [.loc [(s_at, yi k)]], .x (.str true ⟨#[ch]⟩) :: .b b :: hs⟩ = some ([((k : Int) < 2 ^ 60), strAt T (k : Int) = some ⟨#[ch]⟩, sq ⟨#[ch]⟩ x_20 = b], .ok b ⟨σW T A2 B2 L0 ++ [.loc [(s_at, yi k)]], hs⟩) ∧
    (run (TT c) (m + 40)).e seC cpE ⟨σW T A2 B2 L0 ++ [.loc [(s_at, yi k)]], hs⟩ = some ([], .ok (yi k) ⟨σW T A2 B2 L0 ++ [.loc [(s_at, yi k)]], hs⟩) := by
  refine ⟨?_, by kernel_rfl, by kernel_rfl⟩
  rcases hLa with rfl | ⟨v, rfl⟩ <;> kernel_rfl
include h0
theorem cmAll (m : Nat) : ∀ (n k : Nat) (La : List (Str × SV)), (La = [] ∨ ∃ v, La = [(s_at, v)]) → k + n = T.length → ∃ hs P L', (run (TT c) (m + 40 + n + 1)).cm seC cpT cpE cpF (upTo k n) ⟨σW T A2 B2 L0 ++ [.loc La], hs⟩ = some (P, .ok (spP T.cps.toList k n) ⟨σW T A2 B2 L0 ++ [.loc L'], []⟩) ∧ okL P
  | 0, k, La, _, _ => ⟨[], [], La, rfl, trivial⟩
  | n + 1, k, La, hLa, hk => by
    obtain ⟨hs, P, L', ih, hp⟩ := cmAll m n (k + 1) [(s_at, yi k)] (.inr ⟨_, rfl⟩) (by omega)
    have hlt : k < T.cps.toList.length := by rw [← lenT]; omega
    have hch := List.getElem?_eq_getElem hlt
    generalize T.cps.toList[k] = ch at hch
    generalize hb : sq ⟨#[ch]⟩ x_20 = b
    obtain ⟨e1, e2, e3⟩ := cmStep c (T := T) A2 B2 L0 (m := m + n + 1) (k := k) (ch := ch) (b := b) hLa hs
    rw [show m + n + 1 + 40 = m + 40 + n + 1 by omega] at e2 e3
    refine ⟨.x (.str true ⟨#[ch]⟩) :: .b b :: hs, [((k : Int) < 2 ^ 60), strAt T (k : Int) = some ⟨#[ch]⟩, sq ⟨#[ch]⟩ x_20 = b] ++ P, L', ?_, ⟨by have := h0; omega, sat hch, hb, hp⟩⟩
    rw [show m + 40 + (n + 1) + 1 = m + 40 + n + 1 + 1 by omega, run_cm, upTo_s]
    rw [spP_s hch hb]
    cases b with
    | true => exact cmTrue e1 e2 e3 ih
    | false => exact cmFalse e1 e2 ih
end
theorem FVf.pt {x : Str} {v v' : SV} (h : FV v v') (l : List (Str × SV)) : FVf (P465.pt l x v) (P465.pt l x v') := by
  induction l with
  | nil => exact .c h .n
  | cons a r ih =>
    show FVf (bif sq a.1 x then (a.1, v) :: r else a :: P465.pt r x v) (bif sq a.1 x then (a.1, v') :: r else a :: P465.pt r x v')
    cases sq a.1 x with
    | true => exact .c h (FVf.rf r)
    | false => exact .c .r ih
theorem StOk.so {c : Cx} {n : Nat} {se : SE} {st : Stmt} {σ σ1 σ2 : St} (h : StOk c n se st σ (.ok none σ1)) (q : FNs σ1 σ2) : StOk c n se st σ (.ok none σ2) :=
  fun p env W sh A V I Q E z => h p env W sh A V I Q E fun sh' W' v S' I' R' r => z sh' W' v S' (I'.fl q) R' r
section
variable {c : Cx} {mg mb : Str → Option Value} (B : Base c.w c.h₀ mg mb) {T : Str} (h0 : T.length ≤ 1000) (A2 B2 : Int) (L0 : List (Str × SV))
include B h0
theorem endsSt : StOk c 129 seW (stmAt 1377 6) (σW T A2 B2 L0) (.ok none ([.loc (pt L0 s_ends (.d (.lst true (spP T.cps.toList 0 T.length)))), .cell (some (sy T)), .dead, src A2 B2, .dead, .dead, .dead, .dead] ++ [.dead])) := by
  refine StOk.so (σ1 := [.loc (pt L0 s_ends (.d (.lst false (spP T.cps.toList 0 T.length)))), .cell (some (sy T)), .dead, src A2 B2, .dead, .dead, .dead, .dead] ++ [.dead]) ?_ (.c (.c (FVf.pt (.d (.l (FDs.rf _))) L0)) (.c .r (.c .r (.c .r (.c .r (.c .r (.c .r (.c .r (.c .r .n)))))))))
  obtain ⟨hs, P, L', e, hp⟩ := cmAll c h0 A2 B2 L0 0 T.length 0 [] (.inl rfl) (Nat.zero_add _)
  have S := snd_run (tok B (con := conA) (stl := stlL)) (0 + 40 + T.length + 1)
  rw [st6_is]
  intro p env W sh A V I
  have hu : usd seW (cpX (stmAt 1377 6)) (cpPx (stmAt 1377 6)) cpQ cpS = true := by kernel_rfl
  have e1 : (run (TT c) (0 + 40 + T.length + 1)).e seW cpI ⟨σW T A2 B2 L0, hs⟩ = some ([T.length ≤ 100000], .ok (.d (.rng (T.length : Int))) ⟨σW T A2 B2 L0, hs⟩) := by
    rw [show 0 + 40 + T.length + 1 = T.length + 41 by omega]; kernel_rfl
  have e2 : evIt (run (TT c) (0 + 40 + T.length + 1)) seW cpI ⟨σW T A2 B2 L0, hs⟩ = some ([T.length ≤ 100000], .ok (upTo 0 T.length) ⟨σW T A2 B2 L0, hs⟩) := by
    refine bnd_s (k := itF) (P2 := []) e1 ?_
    rw [show itF (.d (.rng (T.length : Int))) ⟨σW T A2 B2 L0, hs⟩ = uW (decide ((0 : Int) ≤ (T.length : Int))) (uW (decide ((T.length : Int) < 10000)) (ret (upTo 0 (T.length : Int).toNat) ⟨σW T A2 B2 L0, hs⟩)) from rfl, uW_t (decide_eq_true (by omega : (0 : Int) ≤ (T.length : Int))), uW_t (decide_eq_true (by omega : (T.length : Int) < 10000))]
    rfl
  have e3 : evLc (run (TT c) (0 + 40 + T.length + 1)) seW cpT cpI cpE cpF cpS ⟨σW T A2 B2 L0, hs⟩ = some ((T.length ≤ 100000) :: P, .ok (8, spP T.cps.toList 0 T.length) ⟨σW T A2 B2 L0 ++ [.loc L'], []⟩) := by
    have e' : (run (TT c) (0 + 40 + T.length + 1)).cm { seW with nm := relab seW cpS.names, fr := len (σW T A2 B2 L0), cl := cpCl, tr := false } cpT cpE cpF (upTo 0 T.length) (new ⟨σW T A2 B2 L0, hs⟩ (.loc [])) = some (P, .ok (spP T.cps.toList 0 T.length) ⟨σW T A2 B2 L0 ++ [.loc L'], []⟩) := e
    unfold evLc
    rw [uW_t (show scOk cpS = true by kernel_rfl), uW_t (show noSet cpI = true by kernel_rfl), uO_s (show clos seW cpS.names [] = some cpCl by kernel_rfl)]
    refine (bnd_s e2 (P2 := P ++ []) ?_).trans (by rw [List.append_nil]; rfl)
    rw [uW_t (by rw [len_eq, upTo_len]; exact Nat.ble_eq_true_of_le (by omega))]
    exact bnk_s e' rfl
  exact snd_used S hu (((T.length ≤ 100000) :: P) ++ []) (.ok .next ⟨[.loc (pt L0 s_ends (.d (.lst false (spP T.cps.toList 0 T.length)))), .cell (some (sy T)), .dead, src A2 B2, .dead, .dead, .dead, .dead] ++ [.dead], []⟩) (bnd_s e3 (by kernel_rfl)) (by rw [List.append_nil]; exact ⟨by omega, hp⟩) p env W sh A V I
end
noncomputable def x_494e53455254204f5220226e6f6e652220494e544f20742044454641554c542056414c554553 : Str := ⟨#[73, 78, 83, 69, 82, 84, 32, 79, 82, 32, 34, 110, 111, 110, 101, 34, 32, 73, 78, 84, 79, 32, 116, 32, 68, 69, 70, 65, 85, 76, 84, 32, 86, 65, 76, 85, 69, 83]⟩
noncomputable def x_494e53455254204f52203520494e544f20742044454641554c542056414c554553 : Str := ⟨#[73, 78, 83, 69, 82, 84, 32, 79, 82, 32, 53, 32, 73, 78, 84, 79, 32, 116, 32, 68, 69, 70, 65, 85, 76, 84, 32, 86, 65, 76, 85, 69, 83]⟩
noncomputable def x_494e53455254204f52204e4f5448494e4720494e544f20742044454641554c542056414c554553 : Str := ⟨#[73, 78, 83, 69, 82, 84, 32, 79, 82, 32, 78, 79, 84, 72, 73, 78, 71, 32, 73, 78, 84, 79, 32, 116, 32, 68, 69, 70, 65, 85, 76, 84, 32, 86, 65, 76, 85, 69, 83]⟩
noncomputable def x_555044415445204f522062205345542063203d2031 : Str := ⟨#[85, 80, 68, 65, 84, 69, 32, 79, 82, 32, 98, 32, 83, 69, 84, 32, 99, 32, 61, 32, 49]⟩
noncomputable abbrev T2 (c : Cx) : Tb := tabC c (fun _ => false) (fun _ => false)
noncomputable def callR2 (c : Cx) (k d : Nat) (a : Addr) (vs : List SV) (σ : St) (hs : List Hint) : Res SV := uO (tF.get a) fun i => callF (run (T2 c) k) a i d vs ⟨σ, hs⟩
section
variable {c : Cx} {mg mb : Str → Option Value} (B : Base c.w c.h₀ mg mb)
include B
theorem callOk2 {k d : Nat} {a : Addr} {vs : List SV} {v : SV} {l : List (Sup c)} (h : ocR (callR2 c k d a vs [] (hsO l)) (fun P v _ => some (P, v)) (fun _ _ => none) = some (psO l, v)) (hv : svB 0 v = true) : CallOk c d a vs [] (.ok v []) := by
  refine ocR.r h (fun P v' s hr h => uO.r hr fun i hr hi => ?_) fun _ _ _ h => nn h
  cases h
  have O : TOk c (T2 c) mg mb := tok B
  refine CallOk.forget (σ' := []) (τ := s.σ) ?_ rfl hv (Nat.le_refl _)
  intro p W sh as A I r Rr z
  exact snd_callF (snd_run O k) O.K O.lim (fn_all hi) hr (psO_ok l) A I r Rr z
set_option maxHeartbeats 0 in
theorem odd1 : CallOk c 110 1372 [sd x_494e53455254204f52204e4f5448494e4720494e544f20742044454641554c542056414c554553] [] (.ok (tup3 s_refused (.int false 10) false) []) := callOk2 B (k := 400) (l := [hO 0, hO 1, hO 2, hO 3, hO 4, hO 5, hO 6, hO 7]) (by kernel_rfl) rfl
theorem odd2 : CallOk c 110 1372 [sd x_494e53455254204f52203520494e544f20742044454641554c542056414c554553] [] (.ok (tup3 s_refused (.int false 10) false) []) := callOk2 B (k := 400) (l := [hO 0, hO 1, hO 2, hO 3, hO 4, hO 5, hO 6, hO 7]) (by kernel_rfl) rfl
theorem odd3 : CallOk c 110 1372 [sd x_555044415445204f522062205345542063203d2031] [] (.ok (tup3 s_refused (.int false 10) false) []) := callOk2 B (k := 400) (l := [hO 0, hO 1, hO 2, hO 3, hO 4, hO 5, hO 6, hO 7]) (by kernel_rfl) rfl
theorem odd4 : CallOk c 110 1372 [sd x_494e53455254204f5220226e6f6e652220494e544f20742044454641554c542056414c554553] [] (.ok (tup3 s_refused (.int false 10) false) []) := callOk2 B (k := 400) (l := [hO 0, hO 1, hO 0, hO 2, hO 3, hO 4, hO 5, hO 6, hO 7]) (by kernel_rfl) rfl
theorem takeY (top : Int) (h : 0 < top) (h2 : top < 2 ^ 60) : Dw c 8 1311 [.lst 0, yi top] (fun v => ∃ k : Int, 0 ≤ k ∧ k < top ∧ v = yi k) := fun a b hb =>
  let ⟨_, a', b', hb', ⟨k, k0, k1, e⟩, q⟩ := takeD B top h h2 a b hb
  ⟨yi k, a', b', hb', ⟨k, k0, k1, rfl⟩, CallOk.fl (e ▸ q) (.d .i)⟩
theorem pool (l : List Int) (h0 : l.length ≤ 63) : ∃ a b, Vs b ∧ CallOk c 20 1304 [.d (.lst true (l.map (.int true))), ni 0] [] (.ok (.lst 1) [.dead, src a b]) := by
  cases l with
  | nil =>
    refine ⟨0, 820607, by unfold Vs; omega, CallOk.so (σ1 := [.dead, .lst [.int false 0, .int false 820607]]) ?_ (.c .r (.c (.l (.c .i (.c .i .n))) .n))⟩
    exact cV B (k := 100) (n := 2) [hO 0, .b (rfl : decide ((0 : Int) < 0) = false), .o (.of_left (by decide) : IntMulOk 7919 0), .o (.of_left (by decide) : IntMulOk 0 0), .o (.of_left (by decide) : IntMulOk 31 0), .o (.of_left (by decide) : IntMulOk 17 48271), .o (.of_left (by decide) : IntMulOk 0 0)] (by kernel_rfl) (by decide)
  | cons x l =>
    have hl : (List.map (Dat.int true) (x :: l)).length ≤ 100000 := by rw [List.length_map]; omega
    have hg : gi (List.map (Dat.int true) (x :: l)) 0 = some (.int true x) := rfl
    have hd : decide ((0 : Int) < ((len (List.map (Dat.int true) (x :: l)) : Nat) : Int)) = true := dT (by rw [len_eq, List.length_map, List.length_cons]; omega)
    have m1 : IntMulOk 7919 0 := .of_left (by decide)
    have m2 : IntMulOk 0 0 := .of_left (by decide)
    have m3 : IntMulOk 31 0 := .of_left (by decide)
    have m4 : IntMulOk (max x (-1 - x) % 2147483629 + 0 + 0 + 17) 48271 := .of_right (by decide)
    have v := imod_lt (a := (max x (-1 - x) % 2147483629 + 0 + 0 + 17) * 48271) (m := 2147483647) (by decide)
    cases hb : decide (max x (-1 - x) ≥ 1000000000000000000) with
    | true =>
      have m5 : IntMulOk (max x (-1 - x)) 1 := .of_right (by decide)
      exact ⟨_, _, v, cV B (k := 100) (n := 2) (σ' := [.dead, src (max x (-1 - x) * 1) ((max x (-1 - x) % 2147483629 + 0 + 0 + 17) * 48271 % 2147483647)]) [.o hl, .b hd, .x hg, .o m1, .o m2, .o m3, .o m4, .b hb, .o m5] (by kernel_rfl) (by decide)⟩
    | false =>
      have m5 : IntMulOk (max x (-1 - x)) 0 := .of_right (by decide)
      exact ⟨_, _, v, cV B (k := 100) (n := 2) (σ' := [.dead, src (max x (-1 - x) * 0) ((max x (-1 - x) % 2147483629 + 0 + 0 + 17) * 48271 % 2147483647)]) [.o hl, .b hd, .x hg, .o m1, .o m2, .o m3, .o m4, .b hb, .o m5] (by kernel_rfl) (by decide)⟩
end
noncomputable def x_494e53455254204f52205245504c414345 : Str := ⟨#[73, 78, 83, 69, 82, 84, 32, 79, 82, 32, 82, 69, 80, 76, 65, 67, 69]⟩
theorem sq32 {ch : Nat} (h : sq ⟨#[ch]⟩ x_20 = true) : ch = 32 := by
  have := congrArg (fun s : Str => s.cps.toList) (sq_eq h)
  simpa [x_20] using this
theorem spP_mem {L : List Nat} {n k : Nat} {x : Dat} (h : x ∈ spP L k n) : ∃ q : Nat, x = .int true (q : Int) ∧ L[q]? = some 32 := by
  induction n generalizing k with
  | zero => cases h
  | succ n ih =>
    cases e : L[k]? with
    | none => rw [spP_n e] at h; cases h
    | some ch =>
      rw [spP_s e rfl] at h
      cases hb : sq ⟨#[ch]⟩ x_20 with
      | true =>
        rw [hb] at h
        exact (List.mem_cons.mp h).elim (fun h => ⟨k, h, by rw [e, sq32 hb]⟩) ih
      | false => rw [hb] at h; exact ih h
theorem spP_len {L : List Nat} (n k : Nat) : (spP L k n).length ≤ n := by
  induction n generalizing k with
  | zero => exact Nat.le_refl _
  | succ n ih =>
    cases e : L[k]? with
    | none => rw [spP_n e]; exact Nat.zero_le _
    | some ch =>
      rw [spP_s e rfl]
      cases sq ⟨#[ch]⟩ x_20 with
      | true => exact Nat.succ_le_succ (ih (k + 1))
      | false => exact Nat.le_succ_of_le (ih (k + 1))
theorem spP_pos {L : List Nat} {q : Nat} (h : L[q]? = some 32) (n k : Nat) (h1 : k ≤ q) (h2 : q < k + n) (h3 : k + n ≤ L.length) : 0 < (spP L k n).length := by
  induction n generalizing k with
  | zero => exact absurd h2 (Nat.not_lt.mpr h1)
  | succ n ih =>
    obtain ⟨ch, e⟩ : ∃ ch, L[k]? = some ch := ⟨_, List.getElem?_eq_getElem (Nat.lt_of_lt_of_le (Nat.lt_add_of_pos_right (Nat.succ_pos n)) h3)⟩
    rw [spP_s e rfl]
    cases hb : sq ⟨#[ch]⟩ x_20 with
    | true => exact Nat.succ_pos _
    | false =>
      rcases Nat.eq_or_lt_of_le h1 with r | r
      · rw [r, h] at e; rw [← Option.some.inj e] at hb; exact Bool.noConfusion hb
      · exact ih (k + 1) r (by rw [Nat.add_right_comm]; exact h2) (by rw [Nat.add_right_comm]; exact h3)
theorem slTo {T : Str} (b : Nat) : Txt.slice T none (some (b : Int)) = mkS (T.cps.toList.take b) := by
  have e : Txt.slice T none (some (b : Int)) = Txt.slice T (some ((0 : Nat) : Int)) (some (b : Int)) := by unfold Txt.slice; rw [StrLaws.sliceIdx_none_lo]; rfl
  rw [e, tslc T (Nat.zero_le b)]; rfl
theorem slFrom {T : Str} {a : Nat} (h : a ≤ T.length) : Txt.slice T (some (a : Int)) none = mkS (T.cps.toList.drop a) := by
  have e : Txt.slice T (some (a : Int)) none = Txt.slice T (some (a : Int)) (some (T.length : Int)) := by unfold Txt.slice; rw [StrLaws.sliceIdx_none_hi]
  rw [e, tslc T h, List.take_of_length_le (by rw [List.length_drop, ← lenT]; omega)]
theorem blank (d : Dr) : d.w.cps.toList[d.hd.s.cps.toList.length]? = some 32 := by
  rw [lx_w]
  have : ∃ m, d.tl = .bl :: m := by
    cases d with
    | ins t w o => cases w <;> exact ⟨_, rfl⟩
    | upd t w s o => cases w <;> exact ⟨_, rfl⟩
    | del t o => exact ⟨_, rfl⟩
  obtain ⟨m, e⟩ := this
  show (d.hd.s.cps.toList ++ flx d.tl)[_]? = _
  rw [List.getElem?_append_right (Nat.le_refl _), Nat.sub_self, e]; rfl
theorem no17 (d : Dr) : (∃ t o, d = .ins t .re o) ∨ sq (mkS (d.w.cps.toList.take 17)) x_494e53455254204f52205245504c414345 = false := by
  rw [lx_w]
  cases d with
  | ins t w o =>
    cases w
    case re => exact .inl ⟨t, o, rfl⟩
    all_goals exact .inr rfl
  | upd t w s o => exact .inr rfl
  | del t o => exact .inr rfl
theorem is17 (t : Nm) (o : Co) : sq (mkS ((Dr.w (.ins t .re o)).cps.toList.take 17)) x_494e53455254204f52205245504c414345 = true := by rw [lx_w]; rfl
theorem dr10 (t : Nm) (o : Co) : (Dr.w (.ins t .re o)).cps.toList.drop 10 = flx (kL .repl :: .bl :: kL .into :: .bl :: nL t :: (coL o ++ dvL)) := by rw [lx_w]; rfl
section
variable {c : Cx} {mg mb : Str → Option Value} (B : Base c.w c.h₀ mg mb)
include B
theorem rdRepl (t : Nm) (o : Co) : RdO c (mkS ((Dr.w (.ins t .re o)).cps.toList.drop 10)) (.ins t .re o) := by
  have hl : (mkS ((Dr.w (.ins t .re o)).cps.toList.drop 10)).length ≤ 100000 := by
    have := Dr.wl (.ins t .re o); rw [lenT] at this ⊢; show (List.drop 10 _).length ≤ _; rw [List.length_drop]; omega
  have hn := lx_len (.ins t .re o)
  refine readL B hl (l := .bl :: kL .into :: .bl :: nL t :: (coL o ++ dvL)) ⟨nofun, .inr adjB, okIns t o⟩ (dr10 t o) (by simp only [Dr.tl, cfL, List.length_append, List.length_cons] at hn ⊢; omega) (o := some (.ins t .re o)) ?_
  have e : tks (kL .repl :: .bl :: kL .into :: .bl :: nL t :: (coL o ++ dvL)) ++ [.ed] = .kw .repl :: .kw .into :: .v (.nam t) :: (tks (coL o) ++ [.kw .dflt, .kw .vals, .ed]) := by
    have : tks (coL o ++ dvL) ++ [.ed] = tks (coL o) ++ [.kw .dflt, .kw .vals, .ed] := by rw [tks_app, List.append_assoc]; rfl
    rw [← this]; rfl
  rw [e]; exact .i (gxI2 t o)
theorem cutT (d : Dr) {q : Nat} (h : d.w.cps.toList[q]? = some 32) : ∃ lc, eqOk 8 (.tup lc) (.tup (rdT d)) = true ∧ eqBs lc (rdT d) = false ∧ CallOk c 110 1372 [sy (mkS (d.w.cps.toList.take q))] [] (.ok (.d (.tup lc)) []) := by
  rcases rdCut B d h with ⟨pl, r⟩ | ⟨x, ls, r⟩
  · exact ⟨rfT pl, q3 d pl, q4 d pl, r⟩
  · exact ⟨rdT x, q5 ls, q6 ls, r⟩
noncomputable def oddL : List Dat := [.str false x_494e53455254204f52204e4f5448494e4720494e544f20742044454641554c542056414c554553, .str false x_494e53455254204f52203520494e544f20742044454641554c542056414c554553, .str false x_555044415445204f522062205345542063203d2031, .str false x_494e53455254204f5220226e6f6e652220494e544f20742044454641554c542056414c554553]
theorem oddC {k : Int} (h0 : 0 ≤ k) (h1 : k < 4) : ∃ u, gi oddL k = some (.str false u) ∧ CallOk c 110 1372 [sd u] [] (.ok (tup3 s_refused (.int false 10) false) []) := by
  obtain rfl | rfl | rfl | rfl : k = 0 ∨ k = 1 ∨ k = 2 ∨ k = 3 := by omega
  · exact ⟨_, rfl, odd1 B⟩
  · exact ⟨_, rfl, odd2 B⟩
  · exact ⟨_, rfl, odd3 B⟩
  · exact ⟨_, rfl, odd4 B⟩
end
noncomputable def s_node : Str := ⟨#[110, 111, 100, 101]⟩
noncomputable def s_script : Str := ⟨#[115, 99, 114, 105, 112, 116]⟩
noncomputable def s_way : Str := ⟨#[119, 97, 121]⟩
noncomputable def s_writer : Str := ⟨#[119, 114, 105, 116, 101, 114]⟩
noncomputable def lawL (l : List Dat) (k : Int) (d : Dr) : List (Str × SV) := [(s_script, .d (.lst true l)), (s_source, .lst 3), (s_way, yi k), (s_node, .d (.inst d.c d.f)), (s_writer, .d cw)]
noncomputable def lawE (l : List Dat) (k : Int) (d : Dr) (T : Str) (a b : Int) : St := [.loc (pt (lawL l k d) s_ends (.d (.lst true (spP T.cps.toList 0 T.length)))), .cell (some (sy T)), .dead, src a b, .dead, .dead, .dead, .dead] ++ [.dead]
inductive RestO (c : Cx) (l : List Dat) (T : Str) (d : Dr) (k a2 b2 : Int) : Prop
  | mk (a3 b3 a4 b4 k2 k3 : Int) (q : Nat) (lc : List Dat) (u : Str) (h8 : StOk c 129 seW (stmAt 1377 6) (σW T a2 b2 (lawL l k d)) (.ok none (lawE l k d T a2 b2)))
    (hel : (spP T.cps.toList 0 T.length).length ≤ 100000) (h9 : CallOk c 8 1311 [.lst 0, yi ((len (spP T.cps.toList 0 T.length) : Nat) : Int)] [src a2 b2] (.ok (yi k2) [src a3 b3])) (k60 : k2 < 2 ^ 60) (hgi : gi (spP T.cps.toList 0 T.length) k2 = some (.int true (q : Int)))
    (h10 : CallOk c 110 1372 [sy (mkS (T.cps.toList.take q))] [] (.ok (.d (.tup lc)) [])) (q1 : eqOk 8 (.tup lc) (.tup (rdT d)) = true) (q2 : eqBs lc (rdT d) = false)
    (h11 : CallOk c 8 1311 [.lst 0, ni 4] [src a3 b3] (.ok (yi k3) [src a4 b4])) (k360 : k3 < 2 ^ 60) (hod : gi oddL k3 = some (.str false u)) (h12 : CallOk c 110 1372 [sd u] [] (.ok (tup3 s_refused (.int false 10) false) []))
inductive HdO (c : Cx) (l : List Dat) (T : Str) (d : Dr) (f : Addr) (k a2 b2 : Int) : Prop
  | mk (a b a1 b1 : Int) (hT : T.length ≤ 1000) (h1 : CallOk c 20 1304 [.d (.lst true l), ni 0] [] (.ok (.lst 1) [.dead, src a b])) (h2 : CallOk c 8 1311 [.lst 0, ni 5] [src a b] (.ok (yi k) [src a1 b1]))
    (h3 : CallOk c 100 f [.lst 0] [src a1 b1] (.ok (.d (.tup [d.d, .str true T])) [src a2 b2])) (h4 : CallOk c 60 853 [.d cw, .d d.d] [] (.ok (sy T) [])) (h6 : RdO c T d) (h7 : CallOk c 40 d.rf [.d d.d] [] (.ok (.d (.tup d.r)) []))
noncomputable abbrev LawT (c : Cx) (l : List Dat) : Prop := CallOk c 130 1377 [.d (.lst true l)] [] (.ok (bo true) [])
theorem q2n (d : Dr) : (!eqBs (rdT d) (rdT d)) = false := by rw [q2]; rfl
theorem sqn (T : Str) : (!sq T T) = false := by rw [sq_refl]; rfl
theorem slh {T : Str} (h : T.length ≤ 1000) (a b : Option Int) : (Txt.slice T a b).length ≤ 100000 := Nat.le_trans (Txt.slice_le T _ _) (Nat.le_trans h (by decide))
section
variable {c : Cx} {mg mb : Str → Option Value} (B : Base c.w c.h₀ mg mb)
include B
set_option maxHeartbeats 1000000
theorem insLaw {l : List Dat} {T : Str} {k a2 b2 : Int} {t : Nm} {w : Cf} {o : Co} (H : HdO c l T (.ins t w o) 1351 k a2 b2) (R : RestO c l T (.ins t w o) k a2 b2) (k1 : decide (k < 2) = true) (n17 : sq (mkS (T.cps.toList.take 17)) x_494e53455254204f52205245504c414345 = false) : LawT c l := by
  obtain ⟨a, b, a1, b1, hT, h1, h2, h3, h4, h6, h7⟩ := H
  obtain ⟨a3, b3, a4, b4, i2, i3, q, lc, u, h8, hel, h9, k60, hgi, h10, x1, x2, h11, k360, hod, h12⟩ := R
  exact cV B (k := 200) (n := 0) [.call [] h1, .call [3] h2, .b k1, .call [3] h3, .call [] h4, .b (sqn T), .call [] h6, .call [] h7, .eq (q1 (.ins t w o)) (q2n (.ins t w o)), .s true (slTo 17) (slh hT ..), .b n17, .st h8, .o hel, .call [3] h9, .o k60, .x hgi, .s true (slTo q) (slh hT ..), .call [] h10, .call [] h7, .eq x1 x2, hO 4, hO 4, .call [3] h11, .o k360, .x hod, .call [] h12] (by kernel_rfl) (Nat.le_refl _)
theorem insLawR {l : List Dat} {T : Str} {k a2 b2 : Int} {t : Nm} {w : Cf} {o : Co} (H : HdO c l T (.ins t w o) 1351 k a2 b2) (R : RestO c l T (.ins t w o) k a2 b2) (k1 : decide (k < 2) = true) (n17 : sq (mkS (T.cps.toList.take 17)) x_494e53455254204f52205245504c414345 = true) (h13 : RdO c (mkS (T.cps.toList.drop 10)) (.ins t w o)) (l10 : 10 ≤ T.length) : LawT c l := by
  obtain ⟨a, b, a1, b1, hT, h1, h2, h3, h4, h6, h7⟩ := H
  obtain ⟨a3, b3, a4, b4, i2, i3, q, lc, u, h8, hel, h9, k60, hgi, h10, x1, x2, h11, k360, hod, h12⟩ := R
  exact cV B (k := 200) (n := 0) [.call [] h1, .call [3] h2, .b k1, .call [3] h3, .call [] h4, .b (sqn T), .call [] h6, .call [] h7, .eq (q1 (.ins t w o)) (q2n (.ins t w o)), .s true (slTo 17) (slh hT ..), .b n17, .s true (slFrom l10) (slh hT ..), .call [] h13, .call [] h7, .eq (q1 (.ins t w o)) (q2n (.ins t w o)), .st h8, .o hel, .call [3] h9, .o k60, .x hgi, .s true (slTo q) (slh hT ..), .call [] h10, .call [] h7, .eq x1 x2, hO 4, hO 4, .call [3] h11, .o k360, .x hod, .call [] h12] (by kernel_rfl) (Nat.le_refl _)
theorem updLaw {l : List Dat} {T : Str} {k a2 b2 : Int} {t : Nm} {w : Cf} {s : Se} {o : Option Va} (H : HdO c l T (.upd t w s o) 1358 k a2 b2) (R : RestO c l T (.upd t w s o) k a2 b2) (k1 : decide (k < 2) = false) (k2 : decide (k < 4) = true) (n17 : sq (mkS (T.cps.toList.take 17)) x_494e53455254204f52205245504c414345 = false) : LawT c l := by
  obtain ⟨a, b, a1, b1, hT, h1, h2, h3, h4, h6, h7⟩ := H
  obtain ⟨a3, b3, a4, b4, i2, i3, q, lc, u, h8, hel, h9, k60, hgi, h10, x1, x2, h11, k360, hod, h12⟩ := R
  exact cV B (k := 200) (n := 0) [.call [] h1, .call [3] h2, .b k1, .b k2, .call [3] h3, .call [] h4, .b (sqn T), .call [] h6, .call [] h7, .eq (q1 (.upd t w s o)) (q2n (.upd t w s o)), .s true (slTo 17) (slh hT ..), .b n17, .st h8, .o hel, .call [3] h9, .o k60, .x hgi, .s true (slTo q) (slh hT ..), .call [] h10, .call [] h7, .eq x1 x2, hO 4, hO 4, .call [3] h11, .o k360, .x hod, .call [] h12] (by kernel_rfl) (Nat.le_refl _)
theorem delLaw {l : List Dat} {T : Str} {k a2 b2 : Int} {t : Nm} {o : Option Va} (H : HdO c l T (.del t o) 1365 k a2 b2) (R : RestO c l T (.del t o) k a2 b2) (k1 : decide (k < 2) = false) (k2 : decide (k < 4) = false) (n17 : sq (mkS (T.cps.toList.take 17)) x_494e53455254204f52205245504c414345 = false) : LawT c l := by
  obtain ⟨a, b, a1, b1, hT, h1, h2, h3, h4, h6, h7⟩ := H
  obtain ⟨a3, b3, a4, b4, i2, i3, q, lc, u, h8, hel, h9, k60, hgi, h10, x1, x2, h11, k360, hod, h12⟩ := R
  exact cV B (k := 200) (n := 0) [.call [] h1, .call [3] h2, .b k1, .b k2, .call [3] h3, .call [] h4, .b (sqn T), .call [] h6, .call [] h7, .eq (q1 (.del t o)) (q2n (.del t o)), .s true (slTo 17) (slh hT ..), .b n17, .st h8, .o hel, .call [3] h9, .o k60, .x hgi, .s true (slTo q) (slh hT ..), .call [] h10, .call [] h7, .eq x1 x2, hO 4, hO 4, .call [3] h11, .o k360, .x hod, .call [] h12] (by kernel_rfl) (Nat.le_refl _)
end
section
variable {c : Cx} {mg mb : Str → Option Value} (B : Base c.w c.h₀ mg mb)
include B
theorem rest (d : Dr) (l : List Dat) (k a2 b2 : Int) (hb : Vs b2) : RestO c l d.w d k a2 b2 := by
  have hw := d.wl
  have hbl := blank d
  have hlt := atLe hbl
  have hle := spP_len (L := d.w.cps.toList) d.w.length 0
  have hpos := spP_pos hbl d.w.length 0 (Nat.zero_le _) (by omega) (by rw [← lenT]; omega)
  obtain ⟨_, a3, b3, hb3, ⟨k2, k20, k2l, rfl⟩, h9⟩ := takeY B ((len (spP d.w.cps.toList 0 d.w.length) : Nat) : Int) (by rw [len_eq]; omega) (by rw [len_eq]; omega) a2 b2 hb
  rw [len_eq] at k2l
  obtain ⟨i, rfl⟩ := Int.eq_ofNat_of_zero_le k20
  have hi : i < (spP d.w.cps.toList 0 d.w.length).length := by omega
  obtain ⟨q, e, hq⟩ := spP_mem (List.getElem_mem hi)
  have hg : gi (spP d.w.cps.toList 0 d.w.length) (i : Int) = some (.int true (q : Int)) := by
    show nth _ i = _
    rw [nth_eq, List.getElem?_eq_getElem hi, e]
  obtain ⟨lc, x1, x2, h10⟩ := cutT B d hq
  obtain ⟨_, a4, b4, hb4, ⟨k3, k30, k3l, rfl⟩, h11⟩ := takeY B 4 (by decide) (by decide) a3 b3 hb3
  obtain ⟨u, hu, h12⟩ := oddC B k30 k3l
  exact ⟨a3, b3, a4, b4, _, k3, q, lc, u, endsSt B hw a2 b2 _, by omega, h9, by omega, hg, h10, x1, x2, h11.ar (.c .r (.c (.d .i) .n)), by omega, hu, h12⟩
theorem hdO (d : Dr) {l : List Dat} {f : Addr} {k a b a1 b1 a2 b2 : Int} (h1 : CallOk c 20 1304 [.d (.lst true l), ni 0] [] (.ok (.lst 1) [.dead, src a b])) (h2 : CallOk c 8 1311 [.lst 0, ni 5] [src a b] (.ok (yi k) [src a1 b1]))
    (h3 : CallOk c 100 f [.lst 0] [src a1 b1] (.ok (.d (.tup [d.d, .str true d.w])) [src a2 b2])) : HdO c l d.w d f k a2 b2 := ⟨a, b, a1, b1, d.wl, h1, h2, h3, chW B d, rdFull B d, drR B d⟩
omit B in
theorem len10 (t : Nm) (o : Co) : 10 ≤ (Dr.w (.ins t .re o)).length := by
  rw [lenT, congrArg List.length (lx_w (.ins t .re o))]
  exact Nat.le_add_left 10 _
theorem law_true (s : List Int) (hs : s.length ≤ 63) : LawT c (s.map (.int true)) := by
  obtain ⟨a, b, hb, h1⟩ := pool B s hs
  obtain ⟨_, a1, b1, hb1, ⟨k, k0, k5, rfl⟩, h2⟩ := takeY B 5 (by decide) (by decide) a b hb
  have h2 := h2.ar (vs' := [.lst 0, ni 5]) (.c .r (.c (.d .i) .n))
  rcases Decidable.em (k < 2) with kk | kk
  · obtain ⟨_, a2, b2, hb2, ⟨t, w, o, rfl⟩, h3⟩ := insD B a1 b1 hb1
    rcases no17 (.ins t w o) with ⟨t', o', e⟩ | e
    · cases e
      exact insLawR B (hdO B _ h1 h2 h3) (rest B _ _ _ _ _ hb2) (dT kk) (is17 t o) (rdRepl B t o) (len10 t o)
    · exact insLaw B (hdO B _ h1 h2 h3) (rest B _ _ _ _ _ hb2) (dT kk) e
  · rcases Decidable.em (k < 4) with kk2 | kk2
    · obtain ⟨_, a2, b2, hb2, ⟨t, w, e, o, rfl⟩, h3⟩ := updD B a1 b1 hb1
      exact updLaw B (hdO B _ h1 h2 h3) (rest B _ _ _ _ _ hb2) (dF kk) (dT kk2) ((no17 (.upd t w e o)).resolve_left fun ⟨_, _, e⟩ => nomatch e)
    · obtain ⟨_, a2, b2, hb2, ⟨t, o, rfl⟩, h3⟩ := delD B a1 b1 hb1
      exact delLaw B (hdO B _ h1 h2 h3) (rest B _ _ _ _ _ hb2) (dF kk) (dF kk2) ((no17 (.del t o)).resolve_left fun ⟨_, _, e⟩ => nomatch e)
end
theorem items_int {xs : List WData} (h : WShape.hasItems [] xs .int = true) : ∃ ns : List Int, xs = ns.map .int := by
  induction xs with
  | nil => exact ⟨[], rfl⟩
  | cons x xs ih =>
    obtain ⟨h1, h2⟩ := Bool.and_eq_true_iff.mp h
    obtain ⟨ns, rfl⟩ := ih h2
    obtain ⟨i, rfl⟩ := hasW_int h1
    exact ⟨i :: ns, rfl⟩
theorem pre_shape {args : List WData} (h : rw0.row.toRowW.claim.pre args = true) : ∃ ns : List Int, args = [.list (ns.map .int)] ∧ ns.length ≤ 63 := by
  have h : (WShape.hasAll [] args [.list .int] && WTm.holds [] (.and (.not (.lt (.lit (.int 63)) (.len (.arg 0)))) (.lit (.bool true))) { args := args }) = true := h
  obtain ⟨h1, h2⟩ := Bool.and_eq_true_iff.mp h
  cases args with
  | nil => cases h1
  | cons x xs =>
    obtain ⟨h4, h3⟩ := Bool.and_eq_true_iff.mp h1
    cases xs with
    | cons y ys => cases h3
    | nil =>
      obtain ⟨xs, rfl, h5⟩ := hasW_list h4
      obtain ⟨ns, rfl⟩ := items_int h5
      refine ⟨ns, rfl, Nat.le_of_not_lt fun q => ?_⟩
      have q : (63 : Int) < ((List.map WData.int ns).length : Nat) := by rw [List.length_map]; exact Int.ofNat_lt.mpr q
      simp [WTm.holds, WTm.value, PySem.W.less?, Num.less?] at h2 q
      rw [decide_eq_true q] at h2
      cases h2
theorem vdInts {Z : ZH} {P : Params} {h : Heap} (ns : List Int) {vs : List Value} (w : WellAll P h vs (ns.map .int)) : VDs Z (ns.map (.int true)) vs := by
  induction ns generalizing vs with
  | nil => cases w; exact .nil
  | cons i ns ih => cases w with
    | cons a b => cases a; exact .cons .int (ih b)
theorem lawAt465 (P : Params) : fE (gE (KL P)) "law" = some (.ref 1377) := by kernel_rfl
theorem call_law : WalkO qv lo (fun _ _ => True) Top465 rw0.row.toRowW ⟨"law", fArgs (stAt 96), fBody (stAt 96), fScope (stAt 96), ⟨971, 0, 986, 51⟩⟩ [] fun f vs => PySem.call f vs := by
  intro w s₀ s₁ mg mb G top a o pm cd doc dV kV ho hd hc hdf hm hg args vals as hpre hlay hrd hwl has
  obtain ⟨ns, rfl, hns⟩ := pre_shape hpre
  have B : Base (Cx.mk w s₁.heap).w (Cx.mk w s₁.heap).h₀ mg mb := ⟨fun b ob e => top.get e, G.T.g, G.T.b, G.T.builtins, G.T.nolimit⟩
  have ea : a = 1377 := by
    have h1 := mg_at B ("law" : Str)
    have h2 : fE (gE (KL w.params)) "law" = some (.ref 1377) := lawAt465 _
    have h3 : mg "law" = some (.ref a) := hm
    have h4 := h3.symm.trans (h1.trans h2)
    injection h4 with h4; injection h4
  subst ea
  cases hwl with
  | cons hv hr =>
    cases hr
    cases hv with
    | @list L vs xs hL hvs =>
      have vr : VRs (Wd.mk [] s₁.heap.get?) [.d (.lst true (ns.map (.int true)))] [.ref L] := .cons (.d (.lst hL (by simpa using vdInts ns hvs))) .nil
      have A : AOk callerA [] [] 130 := ⟨rfl, by decide, by decide, rfl, rfl, fun e m => by cases m⟩
      have I : Inv s₁.heap [] [] (Wd.mk [] s₁.heap.get?) s₁.heap := ⟨fun _ _ e => e, fun _ _ e => e, rfl, .nil, fun _ m => (by cases m), fun i e q => (by cases q), fun _ m => (by cases m), fun _ m => (by cases m), Nat.le_refl _⟩
      refine wpAny_call (law_true B ns hns ⟨callerA, [], []⟩ _ s₁ [.ref L] A I vr _ fun sh' W' x S' I' R' r => ?_)
      cases r with
      | d r =>
        cases r
        refine ⟨.inl ⟨_, .bool true, [], rfl, fun _ => rfl, .bool _, by kernel_rfl, fun _ => ⟨.nil, fun _ m => by cases m⟩⟩, .of_keep fun b ob e => S'.keep b ob e (fun m => by cases m) (fun m => by cases m), R'.2, .of_eq (R'.1.trans hg)⟩
theorem holds465 : rw0.Holds := head call_law
end P465
set_option maxHeartbeats 4000000 in
theorem PySem.Challenge.cw_pb0465_01_holds : PySem.Challenge.rw_pb0465_01.Holds :=
  P465.holds465
