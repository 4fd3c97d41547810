import PyProof.Rows.All
import Wide.All
import OpenK.AllK
import Wide.FinOn
import PySem.Challenge.RW_nn0215_01
open PySem PySem.W PySem.Calls PyProof.Rows
set_option Elab.async false
set_option autoImplicit false
set_option maxRecDepth 100000
set_option maxHeartbeats 4000000
set_option linter.all false
set_option compiler.extract_closed false
namespace Mine
/-- a value without its token -/
inductive V where
  | none | bool (b : Bool) | int (i : Int) | str (x : Str) | bytes (b : Array UInt8) | typ (n : String) | blt (n : String) | ref (a : Addr)
inductive VR : V → Value → Prop where
  | none : VR .none .none
  | bool (b : Bool) : VR (.bool b) (.bool b)
  | int (i : Int) (t : Tok) : VR (.int i) (.int i t)
  | str (x : Str) (t : Tok) : VR (.str x) (.str x t)
  | bytes (b : Array UInt8) (t : Tok) : VR (.bytes b) (.bytes b t)
  | typ (n : String) : VR (.typ n) (.type n)
  | blt (n : String) : VR (.blt n) (.builtin n)
  | ref (a : Addr) : VR (.ref a) (.ref a)
inductive VO : Option V → Option Value → Prop where
  | none : VO none none
  | some {v : V} {x : Value} : VR v x → VO (some v) (some x)
/-- an object: what it holds -/
inductive O where
  | list (xs : List V) | tuple (xs : List V) | sdict (es : List (Str × V)) (ep : Nat) | idict (es : List (Int × V)) (ep : Nat) | inst (C d : Addr) | cell (v : Option V) | rng (a b c : Int) | enm (it : Addr) (i : Nat) | bit (b : Array UInt8) (i : Nat) | exc (C : Addr) (d : Option Addr) (fr : Bool)
/-- the very dict, its epoch told -/
noncomputable def IsDictE {prog : Program} {w : World} {K : Type} [DecidableEq K] (knd : KeyKind prog w K) (o : Obj) (kvs : List (K × Value)) (ep : Nat) : Prop :=
  ∃ es, o.ExactDict ∧ o.data = .dict es ep ∧ KeysOf knd es ∧ Pairs knd es.toList kvs ∧ (kvs.map (·.1)).Nodup
noncomputable def KV {K : Type} (a : K × V) (b : K × Value) : Prop := a.1 = b.1 ∧ VR a.2 b.2
theorem kv_ind {K : Type} {P : List (K × V) → List (K × Value) → Prop} {es : List (K × V)} {kvs : List (K × Value)} (h : Paired KV es kvs) (h0 : P [] []) (h1 : ∀ k v y r s, VR v y → Paired KV r s → P r s → P ((k, v) :: r) ((k, y) :: s)) : P es kvs := by
  induction h with
  | nil => exact h0
  | @cons a b l m hb hr ih =>
    obtain ⟨k, v⟩ := a
    obtain ⟨k', y⟩ := b
    obtain ⟨e, hv⟩ := hb
    dsimp only at e hv
    subst e
    exact h1 _ _ _ _ _ hv hr ih
inductive OR (prog : Program) (w : World) : O → Obj → Prop where
  | list {xs : List V} {vs : List Value} {n : Nat} (h : Paired VR xs vs) : OR prog w (.list xs) { cls := .type "list", data := .seq vs.toArray n }
  | tuple {xs : List V} {vs : List Value} {n : Nat} (h : Paired VR xs vs) : OR prog w (.tuple xs) { cls := .type "tuple", data := .seq vs.toArray n }
  | sdict {es : List (Str × V)} {ep : Nat} {kvs : List (Str × Value)} {ob : Obj} (h : IsDictE (strKind prog w) ob kvs ep) (hp : Paired KV es kvs) : OR prog w (.sdict es ep) ob
  | idict {es : List (Int × V)} {ep : Nat} {kvs : List (Int × Value)} {ob : Obj} (h : IsDictE (intKind prog w) ob kvs ep) (hp : Paired KV es kvs) : OR prog w (.idict es ep) ob
  | inst {C d : Addr} : OR prog w (.inst C d) { cls := .ref C, dict := some d }
  | cell {v : Option V} {x : Option Value} {ob : Obj} (h : ob.data = .cell x) (hv : VO v x) : OR prog w (.cell v) ob
  | rng {a b c : Int} {t u v : Tok} : OR prog w (.rng a b c) { cls := .type "range", dict := none, data := .fields #[.int a t, .int b u, .int c v], slots := #[] }
  | enm {it : Addr} {i : Nat} {old : Value} : OR prog w (.enm it i) { cls := .type "enumerate", dict := none, data := .fields #[.none, .bool false, .ref it, rawInt i, .none, old], slots := #[] }
  | bit {b : Array UInt8} {i : Nat} {t : Tok} {ob : Obj} (hc : ob.cls = .type "bytes_iterator") (hd : ob.data = .fields #[.bytes b t, .int i 0]) : OR prog w (.bit b i) ob
  | exc {C : Addr} {d : Option Addr} {fr : Bool} {ob : Obj} {vs : Array Value} (hc : ob.cls = .ref C) (hd : ob.dict = d) (hv : ob.data = .fields vs)
      (hf : fr = true → ∃ a0, ob = { cls := .ref C, dict := d, data := .fields #[a0, .none, .none, .none, .bool false, .none] }) : OR prog w (.exc C d fr) ob
theorem VR.none_ {x : Value} (h : VR .none x) : x = .none := by cases h; rfl
theorem VR.bool_ {b : Bool} {x : Value} (h : VR (.bool b) x) : x = .bool b := by cases h; rfl
theorem VR.int_ {i : Int} {x : Value} (h : VR (.int i) x) : ∃ t, x = .int i t := by cases h; exact ⟨_, rfl⟩
theorem VR.str_ {y : Str} {x : Value} (h : VR (.str y) x) : ∃ t, x = .str y t := by cases h; exact ⟨_, rfl⟩
theorem VR.bytes_ {b : Array UInt8} {x : Value} (h : VR (.bytes b) x) : ∃ t, x = .bytes b t := by cases h; exact ⟨_, rfl⟩
theorem VR.typ_ {n : String} {x : Value} (h : VR (.typ n) x) : x = .type n := by cases h; rfl
theorem VR.blt_ {n : String} {x : Value} (h : VR (.blt n) x) : x = .builtin n := by cases h; rfl
theorem VR.ref_ {a : Addr} {x : Value} (h : VR (.ref a) x) : x = .ref a := by cases h; rfl
theorem OR.exc_ {prog : Program} {w : World} {C : Addr} {d : Option Addr} {fr : Bool} {ob : Obj} (h : OR prog w (.exc C d fr) ob) : ob.cls = .ref C ∧ ob.dict = d ∧ ∃ vs, ob.data = .fields vs ∧ (fr = true → ∃ a0, ob = { cls := .ref C, dict := d, data := .fields #[a0, .none, .none, .none, .bool false, .none] }) := by
  cases h with
  | exc hc hd hv hf => exact ⟨hc, hd, _, hv, hf⟩
theorem OR.enm_ {prog : Program} {w : World} {it : Addr} {i : Nat} {ob : Obj} (h : OR prog w (.enm it i) ob) : ∃ old, ob = { cls := .type "enumerate", dict := none, data := .fields #[.none, .bool false, .ref it, rawInt i, .none, old], slots := #[] } := by
  cases h with
  | enm => exact ⟨_, rfl⟩
theorem OR.bit_ {prog : Program} {w : World} {b : Array UInt8} {i : Nat} {ob : Obj} (h : OR prog w (.bit b i) ob) : ∃ t, ob.cls = .type "bytes_iterator" ∧ ob.data = .fields #[.bytes b t, .int i 0] := by
  cases h with
  | bit hc hd => exact ⟨_, hc, hd⟩
theorem OR.cell_ {prog : Program} {w : World} {v : Option V} {ob : Obj} (h : OR prog w (.cell v) ob) : ∃ x, ob.data = .cell x ∧ VO v x := by
  cases h with
  | cell hd hv => exact ⟨_, hd, hv⟩
theorem pr1 {a : V} {vs : List Value} (h : Paired VR [a] vs) : ∃ x, vs = [x] ∧ VR a x := by
  cases h with
  | cons h1 h2 => cases h2; exact ⟨_, rfl, h1⟩
theorem pr2 {a b : V} {vs : List Value} (h : Paired VR [a, b] vs) : ∃ x y, vs = [x, y] ∧ VR a x ∧ VR b y := by
  cases h with
  | cons h1 h2 => obtain ⟨y, rfl, h3⟩ := pr1 h2; exact ⟨_, y, rfl, h1, h3⟩
theorem pr3 {a b c : V} {vs : List Value} (h : Paired VR [a, b, c] vs) : ∃ x y z, vs = [x, y, z] ∧ VR a x ∧ VR b y ∧ VR c z := by
  cases h with
  | cons h1 h2 => obtain ⟨y, z, rfl, h3, h4⟩ := pr2 h2; exact ⟨_, y, z, rfl, h1, h3, h4⟩
abbrev St := Addr → Option O
abbrev Lv := Str → Option V
noncomputable def St.set (σ : St) (a : Addr) (o : O) : St := fun b => if b = a then some o else σ b
noncomputable def Lv.set (l : Lv) (x : Str) (v : V) : Lv := fun y => if y = x then some v else l y
theorem St.set_same (σ : St) (a : Addr) (o : O) : (σ.set a o) a = some o := by simp [St.set]
theorem St.set_ne (σ : St) {a b : Addr} (o : O) (h : b ≠ a) : (σ.set a o) b = σ b := by simp [St.set, h]
theorem St.set_new {σ : St} {a b : Addr} {o x : O} (ha : σ a = none) (hb : σ b = some x) : (σ.set a o) b = some x := by
  rw [St.set_ne σ o (fun e => by rw [e, ha] at hb; cases hb)]; exact hb
/-- the ground: the program, the world, the heap at the call, what the top holds -/
structure Gd where
  prog : Program
  w : World
  hT : Heap
  K : Frag
  p : Program
  loose : List Str
  mean : ExcName → Option Value
  mg : Str → Option Value
  mb : Str → Option Value
  X : K.In hT
  T : Top p loose mean mg mb hT
  rom : Addr → Option O
  R : ∀ a o, rom a = some o → ∃ ob, hT.get? a = some ob ∧ OR prog w o ob
structure Room (A : Around) (n : Nat) : Prop where
  hd : A.handled = none
  dp : A.depth + n < recursionLimit
  un : A.units + 20 * n < cLine
structure Sit (G : Gd) (σ : St) (h : Heap) : Prop where
  top : ∀ b o, G.hT.get? b = some o → h.get? b = some o
  off : ∀ b o, G.hT.get? b = some o → σ b = none
  st : ∀ a o, σ a = some o → ∃ ob, h.get? a = some ob ∧ OR G.prog G.w o ob
  sm : σ sysModules = none
noncomputable def Keep (σ σ' : St) (h h' : Heap) : Prop := ∀ b o, h.get? b = some o → σ b = none → h'.get? b = some o ∧ σ' b = none
theorem Keep.refl (σ : St) (h : Heap) : Keep σ σ h h := fun _ _ e n => ⟨e, n⟩
theorem Keep.trans {σ₁ σ₂ σ₃ : St} {h₁ h₂ h₃ : Heap} (x : Keep σ₁ σ₂ h₁ h₂) (y : Keep σ₂ σ₃ h₂ h₃) : Keep σ₁ σ₃ h₁ h₃ :=
  fun b o e n => let z := x b o e n; y b o z.1 z.2
noncomputable def Gd.look (G : Gd) (σ : St) (a : Addr) : Option O := match σ a with
  | some o => some o
  | none => G.rom a
theorem Gd.look_of {G : Gd} {σ : St} {a : Addr} {o : O} (h : σ a = some o) : G.look σ a = some o := by simp [Gd.look, h]
theorem Sit.look {G : Gd} {σ : St} {h : Heap} (S : Sit G σ h) {a : Addr} {o : O} (e : G.look σ a = some o) : ∃ ob, h.get? a = some ob ∧ OR G.prog G.w o ob := by
  unfold Gd.look at e
  cases q : σ a with
  | some o' => rw [q] at e; cases e; exact S.st a _ q
  | none =>
    rw [q] at e
    obtain ⟨ob, h1, h2⟩ := G.R a o e
    exact ⟨ob, S.top a ob h1, h2⟩
theorem Sit.offAt {G : Gd} {σ : St} {h : Heap} (S : Sit G σ h) {a : Addr} {o : O} (e : σ a = some o) : G.hT.get? a = none := by
  cases q : G.hT.get? a with
  | none => rfl
  | some ob => rw [S.off a ob q] at e; cases e
theorem Sit.lt {G : Gd} {σ : St} {h : Heap} (S : Sit G σ h) {a : Addr} {o : O} (e : σ a = some o) : a < h.objs.size := by
  obtain ⟨ob, h1, _⟩ := S.st a o e; exact Heap.lt_size h1
theorem Sit.fresh {G : Gd} {σ : St} {h : Heap} (S : Sit G σ h) : σ h.objs.size = none := by
  cases q : σ h.objs.size with
  | none => rfl
  | some o => exact absurd (S.lt q) (Nat.lt_irrefl _)
/-- a heap that only grew -/
theorem Sit.grow {G : Gd} {σ : St} {h h' : Heap} (S : Sit G σ h) (k : ∀ b o, h.get? b = some o → h'.get? b = some o) : Sit G σ h' :=
  ⟨fun b o e => k b o (S.top b o e), S.off, fun a o e => let ⟨ob, h1, h2⟩ := S.st a o e; ⟨ob, k a ob h1, h2⟩, S.sm⟩
theorem Sit.big {G : Gd} {σ : St} {h : Heap} (S : Sit G σ h) : sysModules < h.objs.size := Nat.lt_of_lt_of_le (show sysModules < mainGlobals by decide) (Nat.le_of_lt (G.T.g.keeps S.top).lt)
theorem Sit.nsm {G : Gd} {σ : St} {h : Heap} (S : Sit G σ h) {a : Addr} {o : O} (e : σ a = some o) : (a == sysModules) = false := by
  rw [beq_eq_false_iff_ne]; intro q; subst q; rw [S.sm] at e; cases e
theorem Keep.grow {σ : St} {h h' : Heap} (k : ∀ b o, h.get? b = some o → h'.get? b = some o) : Keep σ σ h h' := fun b o e n => ⟨k b o e, n⟩
theorem Sit.alloc {G : Gd} {σ : St} {h : Heap} (S : Sit G σ h) {o : O} {ob : Obj} (r : OR G.prog G.w o ob) (hf : ob.isFreed = false) : Sit G (σ.set h.objs.size o) (h.push ob) := by
  refine ⟨fun b o' e => Heap.get?_push_of_some _ (S.top b o' e), fun b o' e => ?_, fun a o' e => ?_, by rw [St.set_ne _ _ (Nat.ne_of_lt S.big)]; exact S.sm⟩
  · have := Heap.lt_size (S.top b o' e)
    rw [St.set_ne _ _ (Nat.ne_of_lt this)]; exact S.off b o' e
  · by_cases ha : a = h.objs.size
    · subst ha; rw [St.set_same] at e; cases e; exact ⟨ob, Heap.get?_push_size _ hf, r⟩
    · rw [St.set_ne _ _ ha] at e
      obtain ⟨ob', h1, h2⟩ := S.st a o' e
      exact ⟨ob', Heap.get?_push_of_some _ h1, h2⟩
theorem Keep.alloc {σ : St} {h : Heap} {o : O} {ob : Obj} : Keep σ (σ.set h.objs.size o) h (h.push ob) :=
  fun b o' e n => ⟨Heap.get?_push_of_some _ e, by rw [St.set_ne _ _ (Nat.ne_of_lt (Heap.lt_size e))]; exact n⟩
/-- an object of the store turned -/
theorem Sit.put {G : Gd} {σ : St} {h h' : Heap} (S : Sit G σ h) {a : Addr} {o o' : O} {ob : Obj} (ha : σ a = some o) (e : h'.get? a = some ob) (r : OR G.prog G.w o' ob)
    (hs : ∀ b x, b ≠ a → h.get? b = some x → h'.get? b = some x) : Sit G (σ.set a o') h' := by
  have hne : ∀ b x, G.hT.get? b = some x → b ≠ a := fun b x q z => by subst z; rw [S.off b x q] at ha; cases ha
  refine ⟨fun b x q => hs b x (hne b x q) (S.top b x q), fun b x q => ?_, fun b x q => ?_, by rw [St.set_ne _ _ (fun z => by subst z; rw [S.sm] at ha; cases ha)]; exact S.sm⟩
  · rw [St.set_ne _ _ (hne b x q)]; exact S.off b x q
  · by_cases hb : b = a
    · subst hb; rw [St.set_same] at q; cases q; exact ⟨ob, e, r⟩
    · rw [St.set_ne _ _ hb] at q
      obtain ⟨ob', h1, h2⟩ := S.st b x q
      exact ⟨ob', hs b _ hb h1, h2⟩
theorem Keep.put {σ : St} {h h' : Heap} {a : Addr} {o o' : O} (ha : σ a = some o) (hs : ∀ b x, b ≠ a → h.get? b = some x → h'.get? b = some x) : Keep σ (σ.set a o') h h' :=
  fun b x e n => by
    have : b ≠ a := fun z => by subst z; rw [n] at ha; cases ha
    exact ⟨hs b x this e, by rw [St.set_ne _ _ this]; exact n⟩
/-! a tree that is run -/
noncomputable def Stable (Pre : St → Heap → Prop) : Prop := ∀ σ σ' h h', Pre σ h → Keep σ σ' h h' → Pre σ' h'
noncomputable def Any : St → Heap → Prop := fun _ _ => True
structure Run {α β : Type} (G : Gd) (n : Nat) (Pre : St → Heap → Prop) (R : β → α → Prop) (σ : St) (t : Sem α) (Q : β → St → Prop) : Prop where
  run : ∀ (A : Around) (s : Shared) (Φ : α → Shared → Prop) (E : Value → Shared → Prop), Room A n → Sit G σ s.heap → Pre σ s.heap →
    (∀ b x h' tk σ', R b x → Sit G σ' h' → Keep σ σ' s.heap h' → Q b σ' → Φ x { s with heap := h', toks := tk }) → wpAny (model G.prog G.w) A t Φ E s
instance {α β : Type} {G : Gd} {n : Nat} {Pre : St → Heap → Prop} {R : β → α → Prop} {σ : St} {t : Sem α} {Q : β → St → Prop} : CoeFun (Run G n Pre R σ t Q) fun _ => ∀ (A : Around) (s : Shared) (Φ : α → Shared → Prop) (E : Value → Shared → Prop), Room A n → Sit G σ s.heap → Pre σ s.heap →
    (∀ b x h' tk σ', R b x → Sit G σ' h' → Keep σ σ' s.heap h' → Q b σ' → Φ x { s with heap := h', toks := tk }) → wpAny (model G.prog G.w) A t Φ E s := ⟨Run.run⟩
section
variable {α β γ δ : Type} {G : Gd} {n : Nat} {Pre : St → Heap → Prop} {R : β → α → Prop} {R' : δ → γ → Prop} {σ : St}
theorem Run.bind {m : Sem α} {f : α → Sem γ} {Q : δ → St → Prop} (hs : Stable Pre) (h : Run G n Pre R σ m (fun b σ₁ => ∀ x, R b x → Run G n Pre R' σ₁ (f x) Q)) : Run G n Pre R' σ (m >>= f) Q := by
  refine .mk fun A s Φ E hA hS hP k => ?_
  refine wpAny_bind (h A s _ E hA hS hP ?_)
  intro b x h' tk σ' hR hS' hK hQ
  exact hQ x hR A _ Φ E hA hS' (hs _ _ _ _ hP hK) fun c y h'' tk' σ'' hR' hS'' hK' hQ' => k c y h'' tk' σ'' hR' hS'' (hK.trans hK') hQ'
theorem Run.mono {m : Sem α} {Q Q' : β → St → Prop} (h : Run G n Pre R σ m Q) (hq : ∀ b σ', Q b σ' → Q' b σ') : Run G n Pre R σ m Q' :=
  .mk fun A s Φ E hA hS hP k => h A s Φ E hA hS hP fun b x h' tk σ' hR hS' hK hQ => k b x h' tk σ' hR hS' hK (hq _ _ hQ)
theorem Run.pure {x : α} {b : β} {Q : β → St → Prop} (hr : R b x) (h : Q b σ) : Run G n Pre R σ (pure x) Q :=
  .mk fun _ s _ _ _ hS _ k => wpAny_pure (k b x s.heap s.toks σ hr hS (Keep.refl _ _) h)
theorem Run.any {m : Sem α} {Q : β → St → Prop} (h : Run G n Any R σ m Q) : Run G n Pre R σ m Q := .mk fun A s Φ E hA hS _ k => h A s Φ E hA hS trivial k
theorem Room.le {A : Around} {n m : Nat} (h : Room A n) (l : m ≤ n) : Room A m := ⟨h.hd, by have := h.dp; omega, by have := h.un; omega⟩
theorem Run.standAt {m : Sem α} {pos : Pos} {Q : β → St → Prop} (h : Run G n Pre R σ m Q) : Run G n Pre R σ (standAt pos >>= fun _ => m) Q :=
  .mk fun A s Φ E hA hS hP k => wpAny_bind (wpAny_standAt (h A s Φ E hA hS hP k))
theorem Run.holding {m : Sem α} {vs : List Value} {Q : β → St → Prop} (h : Run G n Pre R σ m Q) : Run G n Pre R σ (holding vs m) Q :=
  .mk fun A s Φ E hA hS hP k => wpAny_holding (h A s Φ E hA hS hP k)
theorem Run.operate {m : Sem Value} {vs : List Value} {R : β → Value → Prop} {Q : β → St → Prop} (h : Run G n Pre R σ m Q) : Run G n Pre R σ (operate vs m) Q :=
  .mk fun A s Φ E hA hS hP k => wpAny_operateT (h A s Φ E hA hS hP k)
theorem Run.of_eq {m m' : Sem α} {Q : β → St → Prop} (e : m = m') (h : Run G n Pre R σ m' Q) : Run G n Pre R σ m Q := e ▸ h
end
/-! names: a function's block -/
structure EnvAt (G : Gd) (env : Env) (lv : Lv) (σ : St) (h : Heap) : Prop where
  ns : ∃ m, h.Ns env.locals m ∧ ∀ x v, lv x = some v → ∃ y, m x = some y ∧ VR v y
  off : σ env.locals = none
  hT : G.hT.get? env.locals = none
theorem stable_env (G : Gd) (env : Env) (lv : Lv) : Stable (EnvAt G env lv) := by
  intro σ σ' h h' ⟨⟨m, ⟨o, es, ep, ho, r⟩, hv⟩, hoff, hT⟩ hk
  have := hk _ _ ho hoff
  exact ⟨⟨m, ⟨o, es, ep, this.1, r⟩, hv⟩, this.2, hT⟩
structure FnEnv (env : Env) : Prop where
  fn : env.scope.kind = .function
  gl : env.globals = mainGlobals
  bl : env.builtins = builtinsNs
abbrev Ev (G : Gd) (n : Nat) (env : Env) (lv : Lv) (σ : St) (e : Expr) (Q : V → St → Prop) : Prop := Run G n (EnvAt G env lv) VR σ (eval e env) Q
abbrev Tr (G : Gd) (n : Nat) (σ : St) (t : Sem Value) (Q : V → St → Prop) : Prop := Run G n Any VR σ t Q
/-- the value of a global name -/
noncomputable def Gd.glob (G : Gd) (x : Str) (v : V) : Prop := ∃ y, VR v y ∧ (G.mg x = some y ∨ (G.mg x = none ∧ x ≠ "__name__" ∧ bootBuiltins x = some y))
section
variable {G : Gd} {n : Nat} {env : Env} {lv : Lv} {σ : St} {Q : V → St → Prop}
theorem ev_local {x : Str} {pos : Pos} {v : V} (hf : FnEnv env) (hk : env.kindOf x = some .local) (hv : lv x = some v) (h : Q v σ) (hd : (x == ("__debug__" : Str)) = false := by decide) : Ev G n env lv σ (.Name x pos) Q := by
  refine .mk fun A s Φ E _ hS hP k => ?_
  obtain ⟨⟨m, hn, hm⟩, _, _⟩ := hP
  obtain ⟨y, hy, hr⟩ := hm x v hv
  exact wpAny_Name (wpAny_loadName_local hf.fn hk hn hy (k v y s.heap s.toks σ hr hS (Keep.refl _ _) h)) hd
theorem ev_cell {x : Str} {pos : Pos} {c : Addr} {v : V} (hf : FnEnv env) (hk : env.kindOf x = some .cell) (hc : env.cells.lookup x = some c) (hv : σ c = some (.cell (some v))) (h : Q v σ)
    (hd : (x == ("__debug__" : Str)) = false := by decide) : Ev G n env lv σ (.Name x pos) Q := by
  refine .mk fun A s Φ E _ hS _ k => ?_
  obtain ⟨ob, ho, r⟩ := hS.st c _ hv
  obtain ⟨_, hd', hvo⟩ := r.cell_
  cases hvo with
  | some hr => exact wpAny_Name (wpAny_loadName_cell hf.fn hk hc ⟨ob, ho, hd'⟩ (k v _ s.heap s.toks σ hr hS (Keep.refl _ _) h)) hd
theorem ev_free {x : Str} {pos : Pos} {c : Addr} {v : V} (hf : FnEnv env) (hk : env.kindOf x = some .free) (hc : env.cells.lookup x = some c) (hv : σ c = some (.cell (some v))) (h : Q v σ)
    (hd : (x == ("__debug__" : Str)) = false := by decide) (hn : (x == ("__classdict__" : Str)) = false := by decide) : Ev G n env lv σ (.Name x pos) Q := by
  refine .mk fun A s Φ E _ hS _ k => ?_
  obtain ⟨ob, ho, r⟩ := hS.st c _ hv
  obtain ⟨_, hd', hvo⟩ := r.cell_
  cases hvo with
  | some hr => exact wpAny_Name (wpAny_loadName_free hf.fn hk hc ⟨ob, ho, hd'⟩ (k v _ s.heap s.toks σ hr hS (Keep.refl _ _) h) hn) hd
theorem ev_glob {x : Str} {pos : Pos} {v : V} (hf : FnEnv env) (hk : env.kindOf x = some .globalImplicit) (hv : G.glob x v) (h : Q v σ)
    (hd : (x == ("__debug__" : Str)) = false := by decide) : Ev G n env lv σ (.Name x pos) Q := by
  refine .mk fun A s Φ E _ hS _ k => ?_
  obtain ⟨y, hr, hy⟩ := hv
  have q := k v y s.heap s.toks σ hr hS (Keep.refl _ _) h
  have hg := G.T.g.keeps hS.top
  have hb := G.T.b.keeps hS.top
  refine Name_function_global hf.fn hk ?_ hd
  rcases hy with hy | ⟨hy, hne, hy'⟩
  · exact loadGlobal_global (by rw [hf.gl]; exact hg) hy q
  · exact loadGlobal_builtin (by rw [hf.gl]; exact hg) hy (by rw [hf.bl]; exact hb) ((G.T.builtins x hne).trans hy') q
theorem ev_int {i : Int} {kd : Nat} {pos : Pos} (h : Q (.int i) σ) : Ev G n env lv σ (.Constant (.int i) kd pos) Q :=
  .mk fun _ s _ _ _ hS _ k => wpAny_Constant_int (k (.int i) _ s.heap _ σ (.int _ _) hS (Keep.refl _ _) h)
theorem ev_str {x : Str} {kd : Nat} {pos : Pos} (h : Q (.str x) σ) : Ev G n env lv σ (.Constant (.str x) kd pos) Q :=
  .mk fun _ s _ _ _ hS _ k => Constant_str (k (.str x) _ s.heap _ σ (.str _ _) hS (Keep.refl _ _) h)
theorem ev_none {kd : Nat} {pos : Pos} (h : Q .none σ) : Ev G n env lv σ (.Constant .none kd pos) Q :=
  .mk fun _ s _ _ _ hS _ k => wpAny_pure (k .none _ s.heap s.toks σ .none hS (Keep.refl _ _) h)
theorem ev_bool {b : Bool} {kd : Nat} {pos : Pos} (h : Q (.bool b) σ) : Ev G n env lv σ (.Constant (.bool b) kd pos) Q :=
  .mk fun _ s _ _ _ hS _ k => wpAny_pure (k (.bool b) _ s.heap s.toks σ (.bool b) hS (Keep.refl _ _) h)
noncomputable def Bin (G : Gd) (n : Nat) (σ : St) (op : Operator) (a b : V) (Q : V → St → Prop) : Prop := ∀ x y, VR a x → VR b y → Tr G n σ (binaryOp op x y) Q
noncomputable def Cmp (G : Gd) (n : Nat) (σ : St) (op : CmpOp) (a b : V) (Q : V → St → Prop) : Prop := ∀ x y, VR a x → VR b y → Tr G n σ (compareOp op x y) Q
abbrev BinL (G : Gd) (n : Nat) (op : Operator) (a : V) (Q : V → St → Prop) : V → St → Prop := fun b σ => Bin G n σ op a b Q
abbrev BinK (G : Gd) (n : Nat) (env : Env) (lv : Lv) (r : Expr) (op : Operator) (Q : V → St → Prop) : V → St → Prop := fun a σ => Ev G n env lv σ r (BinL G n op a Q)
abbrev CmpL (G : Gd) (n : Nat) (op : CmpOp) (a : V) (Q : V → St → Prop) : V → St → Prop := fun b σ => Cmp G n σ op a b Q
abbrev CmpK (G : Gd) (n : Nat) (env : Env) (lv : Lv) (r : Expr) (op : CmpOp) (Q : V → St → Prop) : V → St → Prop := fun a σ => Ev G n env lv σ r (CmpL G n op a Q)
theorem ev_bin {l r : Expr} {op : Operator} {pos : Pos} (h : Ev G n env lv σ l (BinK G n env lv r op Q)) : Ev G n env lv σ (.BinOp l op r pos) Q := by
  refine Run.of_eq (eval_BinOp env l op r pos) ?_
  refine Run.bind (stable_env _ _ _) (h.mono fun a σ₁ h₁ x hx => ?_)
  refine Run.bind (stable_env _ _ _) (Run.holding (h₁.mono fun b σ₂ h₂ y hy => ?_))
  exact Run.standAt (Run.operate (Run.any (h₂ x y hx hy)))
theorem ev_cmp {l r : Expr} {op : CmpOp} {pos : Pos} (h : Ev G n env lv σ l (CmpK G n env lv r op Q)) (hm : behindInMarks op r = false := by with_unfolding_all rfl) :
    Ev G n env lv σ (.Compare l [op] [r] pos) Q := by
  refine Run.of_eq (eval_Compare1 env l op r pos) ?_
  rw [markedBehindIn_of_false hm]
  refine Run.bind (stable_env _ _ _) (h.mono fun a σ₁ h₁ x hx => ?_)
  refine Run.bind (stable_env _ _ _) (Run.holding (h₁.mono fun b σ₂ h₂ y hy => ?_))
  exact Run.standAt (Run.operate (Run.any (h₂ x y hx hy)))
end
/-! tests -/
noncomputable def Truth (G : Gd) (n : Nat) (σ : St) (v : V) (Q : Bool → St → Prop) : Prop := ∀ x, VR v x → Run G n Any Eq σ (truthy x) Q
abbrev Ts (G : Gd) (n : Nat) (env : Env) (lv : Lv) (σ : St) (e : Expr) (Q : Bool → St → Prop) : Prop := Run G n (EnvAt G env lv) Eq σ (isTrue e env (eval e env)) Q
section
variable {G : Gd} {n : Nat} {env : Env} {lv : Lv} {σ : St} {Q : Bool → St → Prop}
theorem truth_bool {b : Bool} (h : Q b σ) : Truth G n σ (.bool b) Q := by
  intro x hx; cases hx
  exact .mk fun _ s _ _ _ hS _ k => wpAny_truthy_bool (k b b s.heap s.toks σ rfl hS (Keep.refl _ _) h)
abbrev TruthK (G : Gd) (n : Nat) (Q : Bool → St → Prop) : V → St → Prop := fun c σ => Truth G n σ c Q
abbrev NotK (Q : Bool → St → Prop) : Bool → St → Prop := fun b σ => Q (!b) σ
abbrev IfE (G : Gd) (n : Nat) (env : Env) (lv : Lv) (body orelse : Expr) (Q : V → St → Prop) : Bool → St → Prop := fun b σ => if b then Ev G n env lv σ body Q else Ev G n env lv σ orelse Q
theorem ts_cmp {l r : Expr} {op : CmpOp} {pos : Pos} (h : Ev G n env lv σ l (CmpK G n env lv r op (TruthK G n Q))) (hm : behindInMarks op r = false := by with_unfolding_all rfl) :
    Ts G n env lv σ (.Compare l [op] [r] pos) Q := by
  refine Run.of_eq (isTrue_Compare1 env l op r pos _) ?_
  rw [markedBehindIn_of_false hm]
  refine Run.bind (stable_env _ _ _) (h.mono fun a σ₁ h₁ x hx => ?_)
  refine Run.bind (stable_env _ _ _) (Run.holding (h₁.mono fun b σ₂ h₂ y hy => ?_))
  refine Run.standAt (Run.bind (stable_env _ _ _) (Run.operate (Run.any ((h₂ x y hx hy).mono fun c σ₃ h₃ z hz => ?_))))
  exact Run.holding (Run.any (h₃ z hz))
theorem ts_not {x : Expr} {pos : Pos} (h : Ts G n env lv σ x (NotK Q)) : Ts G n env lv σ (.UnaryOp .Not x pos) Q := by
  show Run G n (EnvAt G env lv) Eq σ (isTrue x env (eval x env) >>= fun b => pure (!b)) Q
  exact Run.bind (stable_env _ _ _) (h.mono fun b σ₁ h₁ y hy => by subst hy; exact Run.pure rfl h₁)
theorem ts_plain {e : Expr} (he : isTrue e env (eval e env) = (do let v ← eval e env; standAt e.pos; holding [v] (truthy v)))
    (h : Ev G n env lv σ e (TruthK G n Q)) : Ts G n env lv σ e Q := by
  refine Run.of_eq he ?_
  exact Run.bind (stable_env _ _ _) (h.mono fun v σ₁ h₁ x hx => Run.standAt (Run.holding (Run.any (h₁ x hx))))
theorem ev_if {test body orelse : Expr} {pos : Pos} {Q : V → St → Prop} (h : Ts G n env lv σ test (IfE G n env lv body orelse Q)) : Ev G n env lv σ (.IfExp test body orelse pos) Q := by
  show Run G n (EnvAt G env lv) VR σ (isTrue test env (eval test env) >>= fun b => if b = true then eval body env else eval orelse env) Q
  refine Run.bind (stable_env _ _ _) (h.mono fun b σ₁ h₁ y hy => ?_)
  subst hy
  cases b
  · simpa [IfE] using h₁
  · simpa [IfE] using h₁
end
section
variable {G : Gd} {n : Nat} {env : Env} {lv : Lv} {σ : St}
/-! and, or, chains -/
abbrev Al (G : Gd) (n : Nat) (env : Env) (lv : Lv) (σ : St) (op : BoolOp) (es : List Expr) (Q : Bool → St → Prop) : Prop := Run G n (EnvAt G env lv) Eq σ (allTrue op es env) Q
theorem ts_boolop {op : BoolOp} {es : List Expr} {pos : Pos} {Q : Bool → St → Prop} (h : Al G n env lv σ op es Q) : Ts G n env lv σ (.BoolOp op es pos) Q := h
theorem al_and_nil {Q : Bool → St → Prop} (h : Q true σ) : Al G n env lv σ .And [] Q := Run.pure rfl h
theorem al_or_nil {Q : Bool → St → Prop} (h : Q false σ) : Al G n env lv σ .Or [] Q := Run.pure rfl h
abbrev AndK (G : Gd) (n : Nat) (env : Env) (lv : Lv) (es : List Expr) (Q : Bool → St → Prop) : Bool → St → Prop := fun b σ => if b then Al G n env lv σ .And es Q else Q false σ
abbrev OrK (G : Gd) (n : Nat) (env : Env) (lv : Lv) (es : List Expr) (Q : Bool → St → Prop) : Bool → St → Prop := fun b σ => if b then Q true σ else Al G n env lv σ .Or es Q
theorem al_and {e : Expr} {es : List Expr} {Q : Bool → St → Prop} (h : Ts G n env lv σ e (AndK G n env lv es Q)) : Al G n env lv σ .And (e :: es) Q := by
  show Run G n (EnvAt G env lv) Eq σ (isTrue e env (eval e env) >>= fun b => match BoolOp.And, b with | .And, false => pure false | .Or, true => pure true | _, _ => allTrue .And es env) Q
  refine Run.bind (stable_env _ _ _) (h.mono fun b σ₁ h₁ y hy => ?_)
  subst hy
  cases b
  · exact Run.pure rfl h₁
  · exact h₁
theorem al_or {e : Expr} {es : List Expr} {Q : Bool → St → Prop} (h : Ts G n env lv σ e (OrK G n env lv es Q)) : Al G n env lv σ .Or (e :: es) Q := by
  show Run G n (EnvAt G env lv) Eq σ (isTrue e env (eval e env) >>= fun b => match BoolOp.Or, b with | .And, false => pure false | .Or, true => pure true | _, _ => allTrue .Or es env) Q
  refine Run.bind (stable_env _ _ _) (h.mono fun b σ₁ h₁ y hy => ?_)
  subst hy
  cases b
  · exact h₁
  · exact Run.pure rfl h₁
theorem Run.release {α β : Type} {Pre : St → Heap → Prop} {R : β → α → Prop} {m : Sem α} {vs ks : List Value} {Q : β → St → Prop} (h : Run G n Pre R σ m Q) : Run G n Pre R σ (release vs ks >>= fun _ => m) Q :=
  .mk fun A s Φ E hA hS hP k => wpAny_bind (fun Γ p hΓ => by rw [Sem.wp_release]; exact h A s Φ E hA hS hP k)
theorem ts_cmp2 {l r₁ r₂ : Expr} {o₁ o₂ : CmpOp} {pos : Pos} {Q : Bool → St → Prop} (h : Ev G n env lv σ l fun a σ₁ => Ev G n env lv σ₁ r₁ fun b σ₂ => Cmp G n σ₂ o₁ a b fun c σ₃ => Truth G n σ₃ c fun t σ₄ =>
      if t then Ev G n env lv σ₄ r₂ fun d σ₅ => Cmp G n σ₅ o₂ b d fun c' σ₆ => Truth G n σ₆ c' Q else Q false σ₄)
    (hm : markedEach [o₁, o₂] [r₁, r₂] (evalEach [r₁, r₂] env) = [eval r₁ env, eval r₂ env] := by with_unfolding_all rfl) : Ts G n env lv σ (.Compare l [o₁, o₂] [r₁, r₂] pos) Q := by
  have e : isTrue (.Compare l [o₁, o₂] [r₁, r₂] pos) env (eval (.Compare l [o₁, o₂] [r₁, r₂] pos) env) = (do testChain pos (← eval l env) [o₁, o₂] (markedEach [o₁, o₂] [r₁, r₂] (evalEach [r₁, r₂] env))) := rfl
  refine Run.of_eq e ?_
  rw [hm]
  refine Run.bind (stable_env _ _ _) (h.mono fun a σ₁ h₁ x hx => ?_)
  show Run G n (EnvAt G env lv) Eq σ₁ (do
    let rv ← holding [x] (eval r₁ env)
    standAt pos
    let c ← holding [x, rv] (compareOp o₁ x rv)
    PySem.release [x, rv] [c]
    if ← holding [c, rv] (truthy c) then testChain pos rv [o₂] [eval r₂ env] else pure false) Q
  refine Run.bind (stable_env _ _ _) (Run.holding (h₁.mono fun b σ₂ h₂ y hy => ?_))
  refine Run.standAt (Run.bind (stable_env _ _ _) (Run.holding (Run.any ((h₂ x y hx hy).mono fun c σ₃ h₃ z hz => ?_))))
  refine Run.release (Run.bind (stable_env _ _ _) (Run.holding (Run.any ((h₃ z hz).mono fun t σ₄ h₄ u hu => ?_))))
  subst hu
  cases t
  · exact Run.pure rfl h₄
  · show Run G n (EnvAt G env lv) Eq σ₄ (do
      let rv ← holding [y] (eval r₂ env)
      standAt pos
      let c ← PySem.operate [y, rv] (compareOp o₂ y rv)
      holding [c] (truthy c)) Q
    refine Run.bind (stable_env _ _ _) (Run.holding (Run.mono h₄ fun d σ₅ h₅ v hv => ?_))
    refine Run.standAt (Run.bind (stable_env _ _ _) (Run.operate (Run.any ((h₅ y v hy hv).mono fun c' σ₆ h₆ w hw => ?_))))
    exact Run.holding (Run.any (h₆ w hw))
/-! arguments -/
abbrev Evs (G : Gd) (n : Nat) (env : Env) (lv : Lv) (σ : St) (es : List Expr) (Q : List V → St → Prop) : Prop := Run G n (EnvAt G env lv) (Paired VR) σ (spliced (es.map fun e => (false, eval e env))) Q
theorem evs_nil {Q : List V → St → Prop} (h : Q [] σ) : Evs G n env lv σ [] Q := Run.pure .nil h
abbrev ConsK (v : V) (Q : List V → St → Prop) : List V → St → Prop := fun vs σ => Q (v :: vs) σ
abbrev EvsK (G : Gd) (n : Nat) (env : Env) (lv : Lv) (es : List Expr) (Q : List V → St → Prop) : V → St → Prop := fun v σ => Evs G n env lv σ es (ConsK v Q)
theorem evs_cons {e : Expr} {es : List Expr} {Q : List V → St → Prop} (h : Ev G n env lv σ e (EvsK G n env lv es Q)) : Evs G n env lv σ (e :: es) Q := by
  refine .mk fun A s Φ E hA hS hP k => ?_
  refine spliced_cons (h A s _ E hA hS hP fun v x h' tk σ' hr hS' hK hq => ?_)
  refine hq A _ _ E hA hS' (stable_env _ _ _ _ _ _ _ hP hK) fun vs xs h'' tk' σ'' hr' hS'' hK' hq' => ?_
  exact k (v :: vs) (x :: xs) h'' tk' σ'' (.cons hr hr') hS'' (hK.trans hK') hq'
structure NewK (f : List V → O) (Q : V → St → Prop) (vs : List V) (σ : St) : Prop where
  le : vs.length ≤ sizeLine
  new : ∀ a, σ a = none → Q (.ref a) (σ.set a (f vs))
/-- a display: a new list, a new tuple -/
theorem ev_list {es : List Expr} {pos : Pos} {Q : V → St → Prop} (h : Evs G n env lv σ es (NewK O.list Q))
    (ht : backTo pos (starEach es env) = es.map (fun e => (false, eval e env)) := by with_unfolding_all rfl) : Ev G n env lv σ (.List es pos) Q := by
  show Run G n (EnvAt G env lv) VR σ (do standAt pos; newList (← spliced (backTo pos (starEach es env)))) Q
  rw [ht]
  refine Run.standAt (Run.bind (stable_env _ _ _) (h.mono fun vs σ₁ h₁ xs hx => ?_))
  refine .mk fun A s Φ E _ hS _ k => ?_
  have hl := hx.length
  have hle := h₁.le
  exact wpAny_newObj_type (k _ _ _ s.toks _ (.ref _) (hS.alloc (.list hx) rfl) Keep.alloc (h₁.2 _ hS.fresh)) (by show xs.toArray.size ≤ sizeLine; rw [List.size_toArray]; omega)
theorem ev_tuple {es : List Expr} {kd : Nat} {pos : Pos} {Q : V → St → Prop} (h : Evs G n env lv σ es (NewK O.tuple Q))
    (ht : backTo pos (starEach es env) = es.map (fun e => (false, eval e env)) := by with_unfolding_all rfl) : Ev G n env lv σ (.Tuple es kd pos) Q := by
  show Run G n (EnvAt G env lv) VR σ (do standAt pos; newTuple (← spliced (backTo pos (starEach es env)))) Q
  rw [ht]
  refine Run.standAt (Run.bind (stable_env _ _ _) (h.mono fun vs σ₁ h₁ xs hx => ?_))
  refine .mk fun A s Φ E _ hS _ k => ?_
  have hl := hx.length
  have hle := h₁.le
  exact wpAny_newObj_type (k _ _ _ s.toks _ (.ref _) (hS.alloc (.tuple hx) rfl) Keep.alloc (h₁.2 _ hS.fresh)) (by show xs.toArray.size ≤ sizeLine; rw [List.size_toArray]; omega)
/-! calls -/
theorem paired_append {α β : Type} {F : α → β → Prop} {a : List α} {b : List β} {c : List α} {d : List β} (h : Paired F a b) (h' : Paired F c d) : Paired F (a ++ c) (b ++ d) := by
  induction h with
  | nil => exact h'
  | cons h _ ih => exact .cons h ih
noncomputable def CallV (G : Gd) (n : Nat) (σ : St) (f : V) (args : List V) (Q : V → St → Prop) : Prop := ∀ fv vs, VR f fv → Paired VR args vs → Tr G n σ (call fv vs []) Q
/-- who keeps the arguments: any answer will do -/
noncomputable def Kp (G : Gd) (f : V) : Prop := ∀ fv, VR f fv → ∃ kp, Looks (model G.prog G.w) G.hT (keeperOf fv) kp
theorem kp_typ {G : Gd} (x : String) : Kp G (.typ x) := by intro fv h; obtain rfl := VR.typ_ h; exact ⟨_, Looks.of_pure rfl⟩
theorem kp_blt {G : Gd} (x : String) : Kp G (.blt x) := by intro fv h; obtain rfl := VR.blt_ h; exact ⟨_, Looks.of_pure rfl⟩
theorem kp_fn {G : Gd} {a : Addr} {o : Obj} {fd : FuncData} (ho : G.hT.get? a = some o) (hd : o.data = .func fd) : Kp G (.ref a) := by
  intro fv h; obtain rfl := VR.ref_ h
  refine ⟨.frame, ?_⟩
  have e : keeperOf (.ref a) = (load a >>= fun o => match o.data with
    | .func _ => (pure .frame : Sem Keeper)
    | .cls _ => (do return if (← specialOf (.ref a) "__call__") == some (.builtin "type.__call__") then .machine else .caller)
    | .fields vs => (do
      if o.cls != .type "method" then
        return if o.cls == .type "builtin_function_or_method" || o.cls == .type "method-wrapper" then .machine else .caller
      let .ref g := vs.getD 0 .none | return .machine
      return match (← load g).data with | .func _ => .boundFrame | _ => .caller)
    | _ => pure .caller) := rfl
  rw [e]
  refine (Looks.ld (part := none) ho).andThen ?_
  rw [hd]
  exact Looks.now
theorem kp_cls {G : Gd} {C : Addr} {o : Obj} {cd : ClassData} (ho : G.hT.get? C = some o) (hd : o.data = .cls cd) (hc : specialIn G.K (.ref C) "__call__" = some (some (.builtin "type.__call__"))) : Kp G (.ref C) := by
  intro fv h; obtain rfl := VR.ref_ h
  refine ⟨.machine, ?_⟩
  have e : keeperOf (.ref C) = (load C >>= fun o => match o.data with
    | .func _ => (pure .frame : Sem Keeper)
    | .cls _ => (do return if (← specialOf (.ref C) "__call__") == some (.builtin "type.__call__") then .machine else .caller)
    | .fields vs => (do
      if o.cls != .type "method" then
        return if o.cls == .type "builtin_function_or_method" || o.cls == .type "method-wrapper" then .machine else .caller
      let .ref g := vs.getD 0 .none | return .machine
      return match (← load g).data with | .func _ => .boundFrame | _ => .caller)
    | _ => pure .caller) := rfl
  rw [e]
  refine (Looks.ld (part := none) ho).andThen ?_
  rw [hd]
  exact (looks_specialIn G.X hc).andThen Looks.now
theorem evalArgs_map {M : Model} {A : Around} {E : Value → Shared → Prop} {s : Shared} {fv : Value} {es : List Expr} {Q : Args → Shared → Prop}
    (h : wpAny M A (spliced (es.map fun e => (false, eval e env))) (fun vs s' => Q ⟨vs, []⟩ s') E s) : wpAny M A (evalArgs fv true (es.map fun e => (false, eval e env)) []) Q E s := by
  cases es with
  | cons e es => exact evalArgs_plain h
  | nil =>
    unfold evalArgs
    show wpAny M A (spliced [] >>= _) Q E s
    refine wpAny_bind (wpAny_mono h (fun vs s' h' => ?_) fun _ _ x => x)
    refine wpAny_holding ?_
    exact wpAny_bind (wpAny_pure (wpAny_bind (wpAny_pure (wpAny_pure h'))))
theorem callWith_wp {A : Around} {s : Shared} {Φ E : Value → Shared → Prop} {pos : Pos} {fv : Value} {fs : List Value} {es : List Expr}
    (h : wpAny (model G.prog G.w) A (spliced (es.map fun e => (false, eval e env))) (fun vs s₂ => (∃ kp, Looks (model G.prog G.w) s₂.heap (keeperOf fv) kp) ∧ wpAny (model G.prog G.w) A (call fv (fs ++ vs) []) Φ E s₂) E s) :
    wpAny (model G.prog G.w) A (callWith pos fv fs (es.map fun e => (false, eval e env)) []) Φ E s := by
  unfold callWith
  have hall : ((es.map fun e => (false, eval e env)).any fun x => x.1) = false := by
    rw [List.any_eq_false]; intro x hx; obtain ⟨e, _, rfl⟩ := List.mem_map.mp hx; simp
  refine wpAny_bind (wpAny_holding (evalArgs_map (wpAny_mono h (fun vs s₂ h₂ => wpAny_bind (wpAny_standAt ?_)) fun _ _ z => z)))
  obtain ⟨⟨kp, Lk⟩, hc⟩ := h₂
  have hend : ∀ t : Sem Value, wpAny (model G.prog G.w) A t Φ E s₂ → wpAny (model G.prog G.w) A (t >>= fun r => holding [r] point >>= fun _ => pure r) Φ E s₂ := fun t ht =>
    wpAny_bind (wpAny_mono ht (fun v s₃ h₃ => wpAny_bind (wpAny_holding (wpAny_point (wpAny_pure h₃)))) fun _ _ z => z)
  rw [hall]
  refine wpAny_bind (Lk A _ E _ (fun _ _ e => e) ?_)
  cases kp with
  | frame => exact wpAny_ite_split (fun _ => hend _ hc) fun _ => hend _ (wpAny_keep hc)
  | boundFrame => exact wpAny_ite_split (fun _ => hend _ hc) fun _ => hend _ (wpAny_keep hc)
  | machine => exact hend _ hc
  | caller => exact hend _ (wpAny_operateT hc)
theorem callWith_run {pos : Pos} {f : V} {fv : Value} {first : List V} {fs : List Value} {es : List Expr} {Q : V → St → Prop} (hf : VR f fv) (hfs : Paired VR first fs)
    (h : Evs G n env lv σ es fun vs σ₁ => Kp G f ∧ CallV G n σ₁ f (first ++ vs) Q) : Run G n (EnvAt G env lv) VR σ (callWith pos fv fs (es.map fun e => (false, eval e env)) []) Q := by
  refine .mk fun A s Φ E hA hS hP k => callWith_wp (h A s _ E hA hS hP fun vs xs h' tk σ' hr hS' hK hq => ⟨?_, ?_⟩)
  · obtain ⟨kp, L⟩ := hq.1 fv hf
    exact ⟨kp, L.keeps hS'.top⟩
  · exact hq.2 fv (fs ++ xs) hf (paired_append hfs hr) A _ _ E hA hS' trivial fun v x h'' tk' σ'' hr' hS'' hK' hq' => k v x h'' tk' σ'' hr' hS'' (hK.trans hK') hq'
abbrev ArgK (G : Gd) (n : Nat) (fv : V) (Q : V → St → Prop) : List V → St → Prop := fun vs σ => Kp G fv ∧ CallV G n σ fv vs Q
abbrev CallK (G : Gd) (n : Nat) (env : Env) (lv : Lv) (es : List Expr) (Q : V → St → Prop) : V → St → Prop := fun fv σ => Evs G n env lv σ es (ArgK G n fv Q)
theorem ev_call {f : Expr} {es : List Expr} {pos : Pos} {Q : V → St → Prop} (h : Ev G n env lv σ f (CallK G n env lv es Q))
    (he : eval (.Call f es [] pos) env = (do callWith pos (← eval f env) [] (backTo pos (starEach es env)) (backToKw pos (keywordEach [] env))) := by with_unfolding_all rfl)
    (ht : backTo pos (starEach es env) = es.map (fun e => (false, eval e env)) := by with_unfolding_all rfl) : Ev G n env lv σ (.Call f es [] pos) Q := by
  refine Run.of_eq he ?_
  rw [ht]
  exact Run.bind (stable_env _ _ _) (h.mono fun fv σ₁ h₁ x hx => callWith_run hx .nil h₁)
/-- a method, found -/
noncomputable def GetM (G : Gd) (σ : St) (o : V) (name : Str) (f : V) (first : List V) : Prop := ∀ x pl, VR o x → ∃ fx fs, VR f fx ∧ Paired VR first fs ∧
  ∀ (A : Around) (s : Shared) (Φ : Value × List Value → Shared → Prop) (E : Value → Shared → Prop), Sit G σ s.heap → Φ (fx, fs) s → wpAny (model G.prog G.w) A (getMethod x name pl) Φ E s
abbrev ArgM (G : Gd) (n : Nat) (f : V) (first : List V) (Q : V → St → Prop) : List V → St → Prop := fun vs σ => Kp G f ∧ CallV G n σ f (first ++ vs) Q
inductive MethK (G : Gd) (n : Nat) (env : Env) (lv : Lv) (name : Str) (es : List Expr) (Q : V → St → Prop) (ov : V) (σ : St) : Prop where
  | mk (f : V) (first : List V) (hg : GetM G σ ov name f first) (he : Evs G n env lv σ es (ArgM G n f first Q)) : MethK G n env lv name es Q ov σ
theorem ev_meth {o : Expr} {name : Str} {es : List Expr} {apos pos : Pos} {Q : V → St → Prop}
    (h : Ev G n env lv σ o (MethK G n env lv name es Q))
    (hbase : attributeBase o name env (eval o env) = eval o env := by with_unfolding_all rfl)
    (hline : (apos.endLine == pos.line) = true := by with_unfolding_all rfl)
    (ht : backTo pos (starEach es env) = es.map (fun e => (false, eval e env)) := by with_unfolding_all rfl)
    (hlen : decide (es.length < 30) = true := by with_unfolding_all rfl) : Ev G n env lv σ (.Call (.Attribute o name apos) es [] pos) Q := by
  have he : eval (.Call (.Attribute o name apos) es [] pos) env = (do
    let ov ← attributeBase o name env (eval o env)
    standAt apos.atName
    methodCall o name apos pos env ov (es.length + ([] : List Keyword).length) (backTo pos (starEach es env)) (backToKw pos (keywordEach [] env))) := rfl
  refine Run.of_eq he ?_
  rw [hbase, ht]
  refine Run.bind (stable_env _ _ _) (h.mono fun ov σ₁ h₁ x hx => Run.standAt ?_)
  obtain ⟨f, first, hg, hv⟩ := h₁
  have hform : methodCallForm (es.length + ([] : List Keyword).length) (es.map fun e => (false, eval e env)) (backToKw pos (keywordEach [] env)) = true := by
    unfold methodCallForm
    have h1 : ((es.map fun e => (false, eval e env)).all fun x => !x.1) = true := by
      rw [List.all_eq_true]; intro x hx; obtain ⟨e, _, rfl⟩ := List.mem_map.mp hx; simp
    have h2 := of_decide_eq_true hlen
    rw [h1]
    show (true && true && decide (es.length + 0 + 0 < 30)) = true
    simpa using h2
  have hpos : methodCallPos true o env apos pos = pure pos := by unfold methodCallPos; simp [hline]
  unfold methodCall
  rw [hform]
  refine .mk fun A s Φ E hA hS hP k => ?_
  obtain ⟨fx, fs, hfx, hfs, hgm⟩ := hg x (do return (← importBound o env).getD true) hx
  refine wpAny_bind (wpAny_holding (hgm A s _ E hS ?_))
  refine wpAny_bind (wpAny_of_eq hpos ?_)
  exact callWith_run hfx hfs hv A s Φ E hA hS hP k
end
/-! statements -/
inductive Fl where
  | next | brk | cont | ret (v : V)
inductive FR : Fl → Flow → Prop where
  | next : FR .next .next
  | brk : FR .brk .brk
  | cont : FR .cont .cont
  | ret {v : V} {x : Value} : VR v x → FR (.ret v) (.ret x)
noncomputable def KeepC (C : Addr) (σ σ' : St) (h h' : Heap) : Prop := ∀ b o, b ≠ C → h.get? b = some o → σ b = none → h'.get? b = some o ∧ σ' b = none
theorem Keep.toC {C : Addr} {σ σ' : St} {h h' : Heap} (k : Keep σ σ' h h') : KeepC C σ σ' h h' := fun b o _ e n => k b o e n
theorem KeepC.trans {C : Addr} {σ₁ σ₂ σ₃ : St} {h₁ h₂ h₃ : Heap} (x : KeepC C σ₁ σ₂ h₁ h₂) (y : KeepC C σ₂ σ₃ h₂ h₃) : KeepC C σ₁ σ₃ h₁ h₃ :=
  fun b o c e n => let z := x b o c e n; y b o c z.1 z.2
structure ExR {α β : Type} (G : Gd) (n : Nat) (env : Env) (R : β → α → Prop) (lv : Lv) (σ : St) (t : Sem α) (Q : β → Lv → St → Prop) : Prop where
  go : ∀ (A : Around) (s : Shared) (Φ : α → Shared → Prop) (E : Value → Shared → Prop), Room A n → Sit G σ s.heap → EnvAt G env lv σ s.heap →
    (∀ b x h' tk σ' lv', R b x → Sit G σ' h' → EnvAt G env lv' σ' h' → KeepC env.locals σ σ' s.heap h' → Q b lv' σ' → Φ x { s with heap := h', toks := tk }) → wpAny (model G.prog G.w) A t Φ E s
instance {α β : Type} {G : Gd} {n : Nat} {env : Env} {R : β → α → Prop} {lv : Lv} {σ : St} {t : Sem α} {Q : β → Lv → St → Prop} : CoeFun (ExR G n env R lv σ t Q) fun _ => ∀ (A : Around) (s : Shared) (Φ : α → Shared → Prop) (E : Value → Shared → Prop), Room A n → Sit G σ s.heap → EnvAt G env lv σ s.heap →
    (∀ b x h' tk σ' lv', R b x → Sit G σ' h' → EnvAt G env lv' σ' h' → KeepC env.locals σ σ' s.heap h' → Q b lv' σ' → Φ x { s with heap := h', toks := tk }) → wpAny (model G.prog G.w) A t Φ E s := ⟨ExR.go⟩
abbrev Ex (G : Gd) (n : Nat) (env : Env) (lv : Lv) (σ : St) (t : Sem Flow) (Q : Fl → Lv → St → Prop) : Prop := ExR G n env FR lv σ t Q
noncomputable def U : Unit → Unit → Prop := fun _ _ => True
abbrev As (G : Gd) (n : Nat) (env : Env) (lv : Lv) (σ : St) (t : Sem Unit) (Q : Lv → St → Prop) : Prop := ExR G n env U lv σ t fun _ => Q
section
variable {α β γ δ : Type} {G : Gd} {n : Nat} {env : Env} {R : β → α → Prop} {R' : δ → γ → Prop} {lv : Lv} {σ : St}
theorem ExR.run {t : Sem α} {Q : β → Lv → St → Prop} (h : Run G n (EnvAt G env lv) R σ t fun b σ' => Q b lv σ') : ExR G n env R lv σ t Q := by
  refine .mk fun A s Φ E hA hS hP k => ?_
  exact h A s Φ E hA hS hP fun b x h' tk σ' hr hS' hK hq => k b x h' tk σ' lv hr hS' (stable_env _ _ _ _ _ _ _ hP hK) hK.toC hq
theorem ExR.bind {m : Sem α} {f : α → Sem γ} {Q : δ → Lv → St → Prop} (h : ExR G n env R lv σ m fun b lv₁ σ₁ => ∀ x, R b x → ExR G n env R' lv₁ σ₁ (f x) Q) : ExR G n env R' lv σ (m >>= f) Q := by
  refine .mk fun A s Φ E hA hS hP k => ?_
  refine wpAny_bind (h A s _ E hA hS hP fun b x h' tk σ' lv' hr hS' hP' hK hq => ?_)
  exact hq x hr A _ Φ E hA hS' hP' fun c y h'' tk' σ'' lv'' hr' hS'' hP'' hK' hq' => k c y h'' tk' σ'' lv'' hr' hS'' hP'' (hK.trans hK') hq'
theorem ExR.mono {m : Sem α} {Q Q' : β → Lv → St → Prop} (h : ExR G n env R lv σ m Q) (hq : ∀ b lv' σ', Q b lv' σ' → Q' b lv' σ') : ExR G n env R lv σ m Q' :=
  .mk fun A s Φ E hA hS hP k => h A s Φ E hA hS hP fun b x h' tk σ' lv' hr hS' hP' hK hQ => k b x h' tk σ' lv' hr hS' hP' hK (hq _ _ _ hQ)
theorem ExR.pure {x : α} {b : β} {Q : β → Lv → St → Prop} (hr : R b x) (h : Q b lv σ) : ExR G n env R lv σ (pure x) Q := ExR.run (Run.pure hr h)
theorem ExR.standAt {m : Sem α} {pos : Pos} {Q : β → Lv → St → Prop} (h : ExR G n env R lv σ m Q) : ExR G n env R lv σ (standAt pos >>= fun _ => m) Q :=
  .mk fun A s Φ E hA hS hP k => wpAny_bind (wpAny_standAt (h A s Φ E hA hS hP k))
theorem ExR.holding {m : Sem α} {vs : List Value} {Q : β → Lv → St → Prop} (h : ExR G n env R lv σ m Q) : ExR G n env R lv σ (holding vs m) Q :=
  .mk fun A s Φ E hA hS hP k => wpAny_holding (h A s Φ E hA hS hP k)
theorem ExR.of_eq {m m' : Sem α} {Q : β → Lv → St → Prop} (e : m = m') (h : ExR G n env R lv σ m' Q) : ExR G n env R lv σ m Q := e ▸ h
theorem ExR.ite {b : Bool} {m m' : Sem α} {Q : β → Lv → St → Prop} (h : if b then ExR G n env R lv σ m Q else ExR G n env R lv σ m' Q) : ExR G n env R lv σ (if b = true then m else m') Q := by
  cases b
  · simpa using h
  · simpa using h
end
section
variable {G : Gd} {n : Nat} {env : Env} {lv : Lv} {σ : St} {Q : Fl → Lv → St → Prop}
theorem ex_nil (h : Q .next lv σ) : Ex G n env lv σ (execs [] env) Q := ExR.pure .next h
noncomputable def Then (G : Gd) (n : Nat) (env : Env) (rest : List Stmt) (Q : Fl → Lv → St → Prop) : Fl → Lv → St → Prop
  | .next, lv, σ => Ex G n env lv σ (execs rest env) Q
  | f, lv, σ => Q f lv σ
theorem ex_cons {st : Stmt} {rest : List Stmt} (h : Ex G n env lv σ (exec st env) (Then G n env rest Q)) : Ex G n env lv σ (execs (st :: rest) env) Q := by
  refine ExR.of_eq (execs_cons env st rest) ?_
  refine ExR.bind (ExR.mono h fun f lv' σ' hq x hx => ?_)
  cases hx with
  | next => exact hq
  | brk => exact ExR.pure .brk hq
  | cont => exact ExR.pure .cont hq
  | ret hv => exact ExR.pure (.ret hv) hq
theorem ex_break {pos : Pos} (h : Q .brk lv σ) : Ex G n env lv σ (exec (.Break pos) env) Q := ExR.standAt (ExR.pure .brk h)
theorem ex_continue {pos : Pos} (h : Q .cont lv σ) : Ex G n env lv σ (exec (.Continue pos) env) Q := ExR.standAt (ExR.pure .cont h)
abbrev RetK (lv : Lv) (Q : Fl → Lv → St → Prop) : V → St → Prop := fun v σ => Q (.ret v) lv σ
abbrev IfK (G : Gd) (n : Nat) (env : Env) (lv : Lv) (body orelse : List Stmt) (Q : Fl → Lv → St → Prop) : Bool → St → Prop := fun b σ => if b then Ex G n env lv σ (execs body env) Q else Ex G n env lv σ (execs orelse env) Q
theorem ex_return {e : Expr} {pos : Pos} (h : Ev G n env lv σ e (RetK lv Q)) : Ex G n env lv σ (exec (.Return (some e) pos) env) Q := by
  refine ExR.of_eq (exec_Return_some env e pos) (ExR.standAt (ExR.bind (ExR.run (h.mono fun v σ₁ h₁ x hx => ?_))))
  exact ExR.pure (.ret hx) h₁
theorem ex_if {test : Expr} {body orelse : List Stmt} {pos : Pos} (h : Ts G n env lv σ test (IfK G n env lv body orelse Q)) :
    Ex G n env lv σ (exec (.If test body orelse pos) env) Q := by
  refine ExR.of_eq (exec_If env test body orelse pos) (ExR.standAt (ExR.bind (ExR.run (h.mono fun b σ₁ h₁ x hx => ?_))))
  subst hx
  exact ExR.ite h₁
abbrev ExprK (lv : Lv) (Q : Fl → Lv → St → Prop) : V → St → Prop := fun v σ => v = .none ∧ Q .next lv σ
theorem ex_expr {e : Expr} {pos : Pos} (h : Ev G n env lv σ e (ExprK lv Q)) (hi : interactive env = false := by with_unfolding_all rfl) (hs : swapsWith e none pos.line env = pure false := by with_unfolding_all rfl) :
    Ex G n env lv σ (exec (.Expr e pos) env) Q := by
  refine ExR.of_eq (exec_Expr env e pos hi hs) (ExR.standAt (ExR.bind (ExR.run (h.mono fun v σ₁ h₁ x hx => ?_))))
  obtain ⟨rfl, hq⟩ := h₁
  obtain rfl := VR.none_ hx
  rw [dropValue_plain (v := .none) (fun a q => by cases q)]
  exact ExR.pure .next hq
/-! assignments -/
theorem notClass (hf : FnEnv env) : (env.scope.kind == .class || (env.scope.kind == .module && env.locals != env.globals)) = false := by rw [hf.fn]; rfl
theorem as_local {x : Str} {v : V} {y : Value} {Q : Lv → St → Prop} (hf : FnEnv env) (hk : env.kindOf x = some .local) (hv : VR v y) (h : Q (lv.set x v) σ) : As G n env lv σ (storeName env x y) Q := by
  refine .mk fun A s Φ E hA hS hP k => ?_
  obtain ⟨⟨m, hn, hm⟩, hoff, hT⟩ := hP
  refine wpAny_storeName_local hk hn (fun h' hn' hs' => ?_) (notClass hf)
  refine k () () h' _ σ (lv.set x v) trivial ⟨fun b o e => ?_, hS.off, fun a o e => ?_, hS.sm⟩ ⟨⟨_, hn', fun z u hz => ?_⟩, hoff, hT⟩ (fun b o hb e hσ => ⟨(hs'.2 b hb).trans e, hσ⟩) h
  · exact (hs'.2 b (fun z => by subst z; rw [hT] at e; cases e)).trans (hS.top b o e)
  · obtain ⟨ob, h1, h2⟩ := hS.st a o e
    exact ⟨ob, (hs'.2 a fun z => by subst z; rw [hoff] at e; cases e).trans h1, h2⟩
  · unfold Lv.set at hz
    split at hz
    · rename_i hzx; cases hz; exact ⟨y, by rw [if_pos hzx], hv⟩
    · rename_i hzx
      obtain ⟨u', h1, h2⟩ := hm z u hz
      exact ⟨u', by rw [if_neg hzx]; exact h1, h2⟩
theorem as_cell {x : Str} {v : V} {y : Value} {c : Addr} {v₀ : Option V} {Q : Lv → St → Prop} (hf : FnEnv env) (hk : env.kindOf x = some .cell) (hc : env.cells.lookup x = some c) (hσ : σ c = some (.cell v₀)) (hv : VR v y)
    (h : Q lv (σ.set c (.cell (some v)))) : As G n env lv σ (storeName env x y) Q := by
  refine .mk fun A s Φ E hA hS hP k => ?_
  obtain ⟨ob, ho, r⟩ := hS.st c _ hσ
  cases r with
  | cell hd _ =>
    refine wpAny_storeName_cell hf.fn hk hc ⟨ob, ho, hd⟩ fun h' hc' hs' => ?_
    obtain ⟨ob', ho', hd'⟩ := hc'
    have hx : ∀ b x, b ≠ c → s.heap.get? b = some x → h'.get? b = some x := fun b x hb e => (hs'.2 b hb).trans e
    have hK := Keep.put (o' := .cell (some v)) hσ hx
    exact k () () h' s.toks _ lv trivial (hS.put hσ ho' (.cell hd' (.some hv)) hx) (stable_env _ _ _ _ _ _ _ hP hK) hK.toC h
theorem assign_item_eq (o i : Expr) (pos : Pos) (env : Env) (y : Value) : ∃ l : Value → Value → List Value, assign (.Subscript o i pos) env y = (do
    let ov ← holding [y] (eval o env)
    let iv ← holding [y, ov] (eval i env)
    standAt pos
    holding [y, ov, iv] (setItem ov iv y)
    PySem.release (l ov iv) []) := ⟨_, rfl⟩
theorem as_release {vs ks : List Value} {Q : Lv → St → Prop} (h : Q lv σ) : As G n env lv σ (PySem.release vs ks) Q :=
  .mk fun A s Φ E _ hS hP k => fun Γ p _ => by rw [Sem.wp_release]; exact k () () s.heap s.toks σ lv trivial hS hP (fun b o _ e n => ⟨e, n⟩) h
/-- a name that is stored -/
noncomputable def Sto (env : Env) (lv : Lv) (σ : St) (x : Str) (v : V) (Q : Lv → St → Prop) : Prop :=
  (env.kindOf x = some .local ∧ Q (lv.set x v) σ) ∨ (env.kindOf x = some .cell ∧ ∃ c v₀, env.cells.lookup x = some c ∧ σ c = some (.cell v₀) ∧ Q lv (σ.set c (.cell (some v))))
theorem as_sto {x : Str} {v : V} {y : Value} {Q : Lv → St → Prop} (hf : FnEnv env) (hv : VR v y) (h : Sto env lv σ x v Q) : As G n env lv σ (storeName env x y) Q := by
  rcases h with ⟨hk, h⟩ | ⟨hk, c, v₀, hc, hσ, h⟩
  · exact as_local hf hk hv h
  · exact as_cell hf hk hc hσ hv h
theorem as_bind {x : Str} {v : V} {y : Value} {Q : Lv → St → Prop} (hf : FnEnv env) (hv : VR v y) (h : Sto env lv σ x v Q) : As G n env lv σ (bindName env x y) Q :=
  .mk fun A s Φ E hA hS hP k => wpAny_bindName (as_sto hf hv h A s Φ E hA hS hP k)
/-- a target that takes a value -/
noncomputable def Tgt (G : Gd) (n : Nat) (env : Env) (lv : Lv) (σ : St) (t : Expr) (v : V) (Q : Lv → St → Prop) : Prop := ∀ y, VR v y → As G n env lv σ (assign t env y) Q
theorem tgt_name {x : Str} {pos : Pos} {v : V} {Q : Lv → St → Prop} (hf : FnEnv env) (h : Sto env lv σ x v Q) : Tgt G n env lv σ (.Name x pos) v Q := fun y hv => by
  refine ExR.of_eq (PySem.assign_Name x pos y) (ExR.standAt (as_bind hf hv h))
noncomputable def SetI (G : Gd) (n : Nat) (σ : St) (o i v : V) (Q : St → Prop) : Prop := ∀ ox ix x, VR o ox → VR i ix → VR v x → Run G n Any U σ (setItem ox ix x) fun _ => Q
abbrev SetIL (G : Gd) (n : Nat) (lv : Lv) (ov v : V) (Q : Lv → St → Prop) : V → St → Prop := fun iv σ => SetI G n σ ov iv v fun σ₃ => Q lv σ₃
abbrev SetIK (G : Gd) (n : Nat) (env : Env) (lv : Lv) (i : Expr) (v : V) (Q : Lv → St → Prop) : V → St → Prop := fun ov σ => Ev G n env lv σ i (SetIL G n lv ov v Q)
theorem tgt_item {o i : Expr} {pos : Pos} {v : V} {Q : Lv → St → Prop} (h : Ev G n env lv σ o (SetIK G n env lv i v Q)) : Tgt G n env lv σ (.Subscript o i pos) v Q := fun y hv => by
  obtain ⟨l, e⟩ := assign_item_eq o i pos env y
  refine ExR.of_eq e (ExR.bind (ExR.holding (ExR.run (h.mono fun ov σ₁ h₁ ox hox => ExR.bind (ExR.holding (ExR.run (h₁.mono fun iv σ₂ h₂ ix hix => ?_)))))))
  refine ExR.standAt (ExR.bind (ExR.holding (ExR.run (Run.any ((h₂ ox ix y hox hix hv).mono fun _ σ₃ h₃ u hu => ?_)))))
  exact as_release h₃
noncomputable def SetA (G : Gd) (n : Nat) (σ : St) (o : V) (name : Str) (v : V) (Q : St → Prop) : Prop := ∀ ox x, VR o ox → VR v x → Run G n Any U σ (setAttr ox name x) fun _ => Q
theorem tgt_attr {o : Expr} {name : Str} {pos : Pos} {v : V} {Q : Lv → St → Prop} (h : Ev G n env lv σ o fun ov σ₁ => SetA G n σ₁ ov name v fun σ₃ => Q lv σ₃) : Tgt G n env lv σ (.Attribute o name pos) v Q := fun y hv => by
  have e : assign (.Attribute o name pos) env y = (do
    let ov ← holding [y] (eval o env)
    standAt pos.atName
    holding [y, ov] (setAttr ov name y)
    PySem.release [y, ov] []) := rfl
  refine ExR.of_eq e (ExR.bind (ExR.holding (ExR.run (h.mono fun ov σ₁ h₁ ox hox => ?_))))
  refine ExR.standAt (ExR.bind (ExR.holding (ExR.run (Run.any ((h₁ ox y hox hv).mono fun _ σ₃ h₃ u hu => ?_)))))
  exact as_release h₃
abbrev NextK (Q : Fl → Lv → St → Prop) : Lv → St → Prop := fun lv σ => Q .next lv σ
abbrev AsgK (G : Gd) (n : Nat) (env : Env) (lv : Lv) (t : Expr) (Q : Fl → Lv → St → Prop) : V → St → Prop := fun v σ => Tgt G n env lv σ t v (NextK Q)
theorem ex_assign {t value : Expr} {pos : Pos} (h : Ev G n env lv σ value (AsgK G n env lv t Q)) (hs : swapsWith value (some t) pos.line env = pure false := by with_unfolding_all rfl)
    (hw : swappedStores [t] value env = pure none := by with_unfolding_all rfl) (hm : (assignEach [t] env).map (·.2) = [assign t env] := by with_unfolding_all rfl) : Ex G n env lv σ (exec (.Assign [t] value pos) env) Q := by
  refine ExR.of_eq (exec_Assign [t] value pos) (ExR.standAt ?_)
  have e1 : swapsWithSole [t] value pos.line env = swapsWith value (some t) pos.line env := rfl
  rw [e1, hs, hm]
  show Ex G n env lv σ (eval value env >>= fun v => swappedStores [t] value env >>= fun sw => assignStores env v sw [assign t env]) Q
  refine ExR.bind (ExR.run (h.mono fun v σ₁ h₁ x hx => ?_))
  rw [hw]
  show Ex G n env lv σ₁ (assign t env x >>= fun _ => pure .next) Q
  exact ExR.bind (ExR.mono (h₁ x hx) fun _ lv₂ σ₂ hq _ _ => ExR.pure .next hq)
/-! several targets -/
theorem paired_rev {α β : Type} {F : α → β → Prop} {a : List α} {b : List β} (h : Paired F a b) : Paired F a.reverse b.reverse := by
  induction h with
  | nil => exact .nil
  | cons h _ ih => rw [List.reverse_cons, List.reverse_cons]; exact paired_append ih (.cons h .nil)
noncomputable def Tgts (G : Gd) (n : Nat) (env : Env) : Lv → St → List Expr → List V → (Lv → St → Prop) → Prop
  | lv, σ, t :: ts, v :: vs, Q => Tgt G n env lv σ t v fun lv' σ' => Tgts G n env lv' σ' ts vs Q
  | lv, σ, [], [], Q => Q lv σ
  | _, _, _, _, _ => False
theorem tgts_run {ts : List Expr} : ∀ {lv : Lv} {σ : St} {vs : List V} {xs : List Value} {Q : Lv → St → Prop}, Paired VR vs xs → Tgts G n env lv σ ts vs Q → As G n env lv σ (assignInOrder (ts.map fun t => assign t env) xs) Q := by
  induction ts with
  | nil =>
    intro lv σ vs xs Q hv h
    cases hv with
    | nil => exact ExR.pure (b := ()) trivial h
    | cons => exact h.elim
  | cons t ts ih =>
    intro lv σ vs xs Q hv h
    cases hv with
    | nil => exact h.elim
    | cons hx hr =>
      show As G n env lv σ (holding _ (assign t env _) >>= fun _ => assignInOrder (ts.map fun t => assign t env) _) Q
      exact ExR.bind (ExR.holding (ExR.mono (h _ hx) fun _ lv' σ' hq _ _ => ih hr hq))
theorem tup_of {G : Gd} {a : Addr} {σ : St} {h : Heap} {xs : List V} (S : Sit G σ h) (e : G.look σ a = some (.tuple xs)) : ∃ vs, h.IsTuple a vs.toArray ∧ Paired VR xs vs := by
  obtain ⟨ob, ho, r⟩ := S.look e
  cases r with
  | tuple hp => exact ⟨_, ⟨_, ho, rfl, _, rfl⟩, hp⟩
theorem unpack_run {a : Addr} {xs : List V} {k : Nat} {Q : List V → St → Prop} (e : G.look σ a = some (.tuple xs)) (hk : k = xs.length) (h : Q xs σ) : Run G n Any (Paired VR) σ (unpackItems (.ref a) k none) Q := by
  refine .mk fun A s Φ E hA hS _ kk => ?_
  obtain ⟨vs, ht, hp⟩ := tup_of hS e
  have hl := hp.length
  rw [show k = vs.toArray.size by rw [List.size_toArray]; lia]
  refine wpAny_unpackItems_tuple hA.hd ht fun h' hx => ?_
  have kp : ∀ b o, s.heap.get? b = some o → h'.get? b = some o := fun b o q => hx b o (Nat.ne_of_lt (Heap.lt_size q)) q
  exact kk xs _ h' s.toks σ hp (hS.grow kp) (Keep.grow kp) h
theorem tgt_tuple {ts : List Expr} {kd : Nat} {pos : Pos} {a : Addr} {xs : List V} {Q : Lv → St → Prop} (e : G.look σ a = some (.tuple xs)) (hl : ts.length = xs.length) (h : Tgts G n env lv σ ts xs Q)
    (hm : assignEach ts env = ts.map (fun t => (false, assign t env)) := by with_unfolding_all rfl) : Tgt G n env lv σ (.Tuple ts kd pos) (.ref a) Q := fun y hy => by
  obtain rfl := VR.ref_ hy
  have e1 : assign (.Tuple ts kd pos) env (.ref a) = (do standAt pos; unpack (.ref a) (assignEach ts env)) := rfl
  refine ExR.of_eq e1 (ExR.standAt ?_)
  rw [hm]
  unfold unpack
  have h1 : ((ts.map fun t => (false, assign t env)).findIdx? fun x => x.1) = none := by
    rw [List.findIdx?_eq_none_iff]; intro x hx; obtain ⟨t, _, rfl⟩ := List.mem_map.mp hx; rfl
  rw [h1, List.length_map]
  refine ExR.bind (ExR.holding (ExR.run (Run.any (unpack_run e hl ?_))))
  intro xs' hx'
  rw [List.map_map]
  exact tgts_run hx' h
theorem binds_run {ns : List Str} (hf : FnEnv env) : ∀ {lv : Lv} {vs : List V} {xs : List Value} {Q : Lv → St → Prop}, Paired VR vs xs → ns.length = vs.length → (∀ x ∈ ns, env.kindOf x = some .local) →
    Q (List.foldl (fun l p => l.set p.1 p.2) lv (ns.zip vs)) σ → As G n env lv σ (assignInOrder (ns.map fun n => bindName env n) xs) Q := by
  induction ns with
  | nil =>
    intro lv vs xs Q hv hl _ h
    cases hv with
    | nil => exact ExR.pure (b := ()) trivial h
    | cons => cases hl
  | cons x ns ih =>
    intro lv vs xs Q hv hl hk h
    cases hv with
    | nil => cases hl
    | cons hx hr =>
      show As G n env lv σ (holding _ (bindName env x _) >>= fun _ => assignInOrder (ns.map fun t => bindName env t) _) Q
      refine ExR.bind (ExR.holding (ExR.mono (as_bind (Q := fun lv' σ' => lv' = lv.set x _ ∧ σ' = σ) hf hx (.inl ⟨hk x (.head _), rfl, rfl⟩)) ?_))
      rintro _ lv' σ' ⟨rfl, rfl⟩ _ _
      exact ih hr (Nat.succ.inj hl) (fun y hy => hk y (.tail _ hy)) h
/-- a display of two or three onto as many local names: the last is stored first -/
theorem ex_swap {ts : List Expr} {kd : Nat} {tp : Pos} {value : Expr} {pos : Pos} {names : List Str}
    (h : Ev G n env lv σ value fun v σ₁ => ∃ a xs, v = .ref a ∧ G.look σ₁ a = some (.tuple xs) ∧ names.length = xs.length ∧ Q .next (List.foldl (fun l p => l.set p.1 p.2) lv (names.reverse.zip xs.reverse)) σ₁)
    (hf : FnEnv env) (hl : ∀ x ∈ names, env.kindOf x = some .local)
    (hs : swapsWithSole [.Tuple ts kd tp] value pos.line env = pure false := by rfl) (hw : swappedStores [.Tuple ts kd tp] value env = pure (some names) := by rfl) :
    Ex G n env lv σ (exec (.Assign [.Tuple ts kd tp] value pos) env) Q := by
  refine ExR.of_eq (exec_Assign _ value pos) (ExR.standAt ?_)
  rw [hs]
  show Ex G n env lv σ (eval value env >>= fun v => swappedStores [.Tuple ts kd tp] value env >>= fun sw => assignStores env v sw _) Q
  refine ExR.bind (ExR.run (h.mono fun v σ₁ h₁ x hx => ?_))
  obtain ⟨a, xs, rfl, hlook, hlen, hq⟩ := h₁
  obtain rfl := VR.ref_ hx
  rw [hw]
  have core : Ex G n env lv σ₁ (unpackItems (.ref a) names.length none >>= fun items => assignInOrder (names.reverse.map fun n => bindName env n) items.reverse >>= fun _ => pure .next) Q := by
    refine ExR.bind (ExR.run (Run.any (Run.mono (unpack_run (Q := fun b σ' => b = xs ∧ σ' = σ₁) hlook hlen ⟨rfl, rfl⟩) ?_)))
    rintro b σ' ⟨rfl, rfl⟩ ys hys
    refine ExR.bind (ExR.mono (binds_run (Q := fun lv' σ'' => Q .next lv' σ'') hf (paired_rev hys) (by rw [List.length_reverse, List.length_reverse]; exact hlen) (fun x hx => hl x (List.mem_reverse.mp hx)) hq) ?_)
    intro _ lv' σ' hq' _ _
    exact ExR.pure .next hq'
  exact .mk fun A s Φ E hA hS hP k => wpAny_bind (wpAny_pure (wpAny_bind (wpAny_rule (core A s Φ E hA hS hP k))))
end
/-! a call of a def -/
noncomputable def lvOf : List (Str × V) → Lv
  | [], _ => none
  | (n, v) :: r, x => if x = n then some v else lvOf r x
theorem lvOf_lookup {bs : List (Str × V)} {xs : List (Str × Value)} (hp : Paired KV bs xs) : ∀ x v, lvOf bs x = some v → ∃ y, xs.lookup x = some y ∧ VR v y := by
  refine kv_ind (P := fun bs xs => ∀ x v, lvOf bs x = some v → ∃ y, xs.lookup x = some y ∧ VR v y) hp (fun _ _ h => by cases h) fun n v y r s hv hr ih x u h => ?_
  unfold lvOf at h
  rw [List.lookup_cons]
  split at h
  · rename_i e; cases h; subst e; rw [beq_self_eq_true]; exact ⟨y, rfl, hv⟩
  · rename_i e
    rw [beq_eq_false_iff_ne.mpr e]
    exact ih x u h
noncomputable def retOf : Fl → V
  | .ret v => v
  | _ => .none
theorem room_deeper {A : Around} {n : Nat} {env : Env} (h : Room A (n + 1)) : Room (A.deeper env) n := by
  refine ⟨h.hd, ?_, ?_⟩
  · have := h.dp; show A.depth + 1 + n < _; lia
  · have := h.un; show A.units + 3 + 20 * n < _; lia
section
variable {G : Gd} {n : Nat} {σ : St}
theorem get_none_of_size {h : Heap} {a : Addr} (l : h.objs.size ≤ a) : h.get? a = none := by
  cases e : h.get? a with
  | none => rfl
  | some o => exact absurd (Heap.lt_size e) (Nat.not_lt.mpr l)
theorem Sit.hTfresh {h : Heap} (S : Sit G σ h) : G.hT.get? h.objs.size = none := by
  cases e : G.hT.get? h.objs.size with
  | none => rfl
  | some o => exact absurd (Heap.lt_size (S.top _ _ e)) (Nat.lt_irrefl _)
noncomputable def CodeV (G : Gd) (n : Nat) (σ : St) (f : V) (args : List V) (Q : V → St → Prop) : Prop := ∀ fv vs, VR f fv → Paired VR args vs → ∀ (A : Around) (s : Shared) (R : Result → Shared → Prop), Room A n → Sit G σ s.heap →
  (∀ v x h' tk σ', VR v x → Sit G σ' h' → Keep σ σ' s.heap h' → Q v σ' → R (.ok (.ret x)) { s with heap := h', toks := tk }) → codeAny (model G.prog G.w) A (.call fv ⟨vs, []⟩) R s
theorem CodeV.call {f : V} {args : List V} {Q : V → St → Prop} (h : CodeV G n σ f args Q) : CallV G n σ f args Q :=
  fun fv vs hf hvs => .mk fun A s Φ E hA hS _ k => wpAny_call (h fv vs hf hvs A s _ hA hS fun v x h' tk σ' hv hS' hK hq => k v x h' tk σ' hv hS' hK hq)
theorem code_fn {f : Addr} {fo : Obj} {fd : FuncData} {body : List Stmt} {args : List V} {binds : List (Str × V)} {Q : V → St → Prop}
    (ho : G.hT.get? f = some fo) (hd : fo.data = .func fd) (hcd : G.hT.CodeRec fd.code fd.qualname) (hbody : fd.body = .stmts body)
    (hb : ∀ vs, Paired VR args vs → ∀ s : Shared, (∀ b o, G.hT.get? b = some o → s.heap.get? b = some o) → ∃ bs, BindsTo s fd ⟨vs, []⟩ bs ∧ Paired KV binds bs)
    (hloc : ∀ x ∈ binds, fd.scope.names.lookup x.1 = some .local) (hcell : ∀ x ∈ fd.scope.names, x.2 ≠ .cell)
    (h : ∀ L, Ex G n (callEnv fd L f) (lvOf binds.reverse) σ (execs body (callEnv fd L f)) fun r _ σ' => Q (retOf r) σ')
    (hco : fd.scope.isCoroutine = false) (hgen : fd.scope.isGenerator = false) (hk : fd.scope.kind = .function) : CodeV G (n + 1) σ (.ref f) args Q := by
  intro fv vs hf hvs A s R hA hS k
  obtain rfl := VR.ref_ hf
  obtain ⟨bs, hbt, hp⟩ := hb vs hvs s hS.top
  have hloc' : ∀ x ∈ bs, fd.scope.names.lookup x.1 = some .local := by
    have : ∀ {a : List (Str × V)} {b : List (Str × Value)}, Paired KV a b → (∀ x ∈ a, fd.scope.names.lookup x.1 = some .local) → ∀ x ∈ b, fd.scope.names.lookup x.1 = some .local := by
      intro a b hp
      induction hp with
      | nil => intro _ x hx; cases hx
      | cons h _ ih =>
        intro ha x hx
        rcases List.mem_cons.mp hx with rfl | hx
        · rw [← h.1]; exact ha _ (.head _)
        · exact ih (fun y hy => ha y (.tail _ hy)) x hx
    exact this hp hloc
  refine codeAny_call_def (by have := hA.dp; lia) (hS.top _ _ ho) hd (G.T.nolimit.keeps hS.top) (hcd.keeps hS.top) hbody hbt hcell hloc' (fun h₁ hn hk₁ => ?_) hco hgen hk
  have hS₁ : Sit G σ h₁ := hS.grow hk₁
  refine h s.heap.objs.size (A.deeper _) _ _ _ (room_deeper hA) hS₁ ⟨⟨_, hn, fun x v hv => lvOf_lookup (paired_rev hp) x v hv⟩, hS.fresh, Sit.hTfresh hS⟩ fun r x h' tk σ' lv' hr hS' hP' hK' hq => ?_
  refine k (retOf r) _ h' tk σ' ?_ hS' (fun b o e nn => hK' b o (Nat.ne_of_lt (Heap.lt_size e)) (hk₁ b o e) nn) hq
  cases hr with
  | ret hv => exact hv
  | _ => exact .none
/-! cells -/
theorem Sit.add {h : Heap} (S : Sit G σ h) {c : Addr} {o : O} {ob : Obj} (ho : h.get? c = some ob) (r : OR G.prog G.w o ob) (hn : G.hT.get? c = none) (hsm : c ≠ sysModules) : Sit G (σ.set c o) h := by
  refine ⟨S.top, fun b x e => ?_, fun a x e => ?_, by rw [St.set_ne _ _ (Ne.symm hsm)]; exact S.sm⟩
  · rw [St.set_ne _ _ (fun z => by subst z; rw [hn] at e; cases e)]; exact S.off b x e
  · by_cases ha : a = c
    · subst ha; rw [St.set_same] at e; cases e; exact ⟨ob, ho, r⟩
    · rw [St.set_ne _ _ ha] at e; exact S.st a x e
noncomputable def cellSt (σ : St) (vals : Str → Option V) : List (Str × Addr) → St
  | [] => σ
  | (n, c) :: r => (cellSt σ vals r).set c (.cell (vals n))
theorem sit_cells {vals : Str → Option V} {cm : Str → Option Value} (hv : ∀ n, VO (vals n) (cm n)) {h : Heap} (S : Sit G σ h) : ∀ {cs : List (Str × Addr)}, (∀ n c, (n, c) ∈ cs → h.IsCell c (cm n) ∧ G.hT.get? c = none ∧ c ≠ sysModules) → Sit G (cellSt σ vals cs) h
  | [], _ => S
  | (n, c) :: r, hx => by
    obtain ⟨⟨ob, ho, hd⟩, hn, hsm⟩ := hx n c (.head _)
    exact (sit_cells hv S fun n' c' hm => hx n' c' (.tail _ hm)).add ho (.cell hd (hv n)) hn hsm
theorem cellSt_off {vals : Str → Option V} {b : Addr} (hb : σ b = none) : ∀ {cs : List (Str × Addr)}, (∀ n c, (n, c) ∈ cs → b ≠ c) → cellSt σ vals cs b = none
  | [], _ => hb
  | (n, c) :: r, hx => by
    unfold cellSt
    rw [St.set_ne _ _ (hx n c (.head _))]
    exact cellSt_off hb fun n' c' hm => hx n' c' (.tail _ hm)
/-- what the parameters give to the cells, to the names -/
noncomputable def bL (kindOf : Str → Option NameKind) : List (Str × V) → Lv → Lv
  | [], m => m
  | (n, v) :: r, m => bL kindOf r (if kindOf n = some .local then m.set n v else m)
noncomputable def bC (kindOf : Str → Option NameKind) : List (Str × V) → (Str → Option V) → Str → Option V
  | [], m => m
  | (n, v) :: r, m => bC kindOf r (if kindOf n = some .local then m else fun y => if y = n then some v else m y)
theorem bL_ok {kindOf : Str → Option NameKind} {bs : List (Str × V)} {xs : List (Str × Value)} (hp : Paired KV bs xs) : ∀ {m : Lv} {m' : Str → Option Value}, (∀ x v, m x = some v → ∃ y, m' x = some y ∧ VR v y) →
    ∀ x v, bL kindOf bs m x = some v → ∃ y, bindL kindOf xs m' x = some y ∧ VR v y := by
  refine kv_ind (P := fun bs xs => ∀ {m : Lv} {m' : Str → Option Value}, (∀ x v, m x = some v → ∃ y, m' x = some y ∧ VR v y) → ∀ x v, bL kindOf bs m x = some v → ∃ y, bindL kindOf xs m' x = some y ∧ VR v y) hp (fun h => h) fun n v y r s hv hr ih m m' h => ?_
  refine ih fun x u hu => ?_
  by_cases hk : kindOf n = some .local
  · rw [if_pos hk] at hu ⊢
    unfold Lv.set at hu
    by_cases hx : x = n
    · rw [if_pos hx] at hu; cases hu; exact ⟨y, by rw [if_pos hx], hv⟩
    · rw [if_neg hx] at hu
      obtain ⟨z, h1, h2⟩ := h x u hu
      exact ⟨z, by rw [if_neg hx]; exact h1, h2⟩
  · rw [if_neg hk] at hu ⊢; exact h x u hu
theorem bC_ok {kindOf : Str → Option NameKind} {bs : List (Str × V)} {xs : List (Str × Value)} (hp : Paired KV bs xs) : ∀ {m : Str → Option V} {m' : Str → Option Value}, (∀ x, VO (m x) (m' x)) → ∀ x, VO (bC kindOf bs m x) (bindC kindOf xs m' x) := by
  refine kv_ind (P := fun bs xs => ∀ {m : Str → Option V} {m' : Str → Option Value}, (∀ x, VO (m x) (m' x)) → ∀ x, VO (bC kindOf bs m x) (bindC kindOf xs m' x)) hp (fun h => h) fun n v y r s hv hr ih m m' h => ?_
  refine ih fun x => ?_
  by_cases hk : kindOf n = some .local
  · rw [if_pos hk, if_pos hk]; exact h x
  · rw [if_neg hk, if_neg hk]
    by_cases hx : x = n
    · rw [if_pos hx, if_pos hx]; exact .some hv
    · rw [if_neg hx, if_neg hx]; exact h x
theorem call_cells {f : Addr} {fo : Obj} {fd : FuncData} {body : List Stmt} {args : List V} {binds : List (Str × V)} {Q : V → St → Prop}
    (ho : G.hT.get? f = some fo) (hd : fo.data = .func fd) (hcd : G.hT.CodeRec fd.code fd.qualname) (hbody : fd.body = .stmts body)
    (hb : ∀ vs, Paired VR args vs → ∃ bs, bindArgs fd ⟨vs, []⟩ = pure bs ∧ Paired KV binds bs) (hclo : fd.closure = [])
    (hkind : ∀ N, ∀ x ∈ binds, fd.scope.names.lookup x.1 = some .local ∨ (fd.scope.names.lookup x.1 = some .cell ∧ ((cellsFrom N fd.scope.names []).lookup x.1).isSome = true))
    (hnd : ((cellsFrom 0 fd.scope.names []).map (·.1)).Nodup)
    (h : ∀ L, (∀ b x, σ b = some x → b < L) → Ex G n (callEnvC fd L f) (bL (callEnvC fd L f).kindOf binds fun _ => none) (cellSt σ (bC (callEnvC fd L f).kindOf binds fun _ => none) (cellsFrom (L + 1) fd.scope.names []))
      (execs body (callEnvC fd L f)) fun r _ σ' => Q (retOf r) σ')
    (hco : fd.scope.isCoroutine = false) (hgen : fd.scope.isGenerator = false) (hk : fd.scope.kind = .function) : CallV G (n + 1) σ (.ref f) args Q := by
  intro fv vs hf hvs; refine .mk fun A s Φ E hA hS _ k => ?_
  obtain rfl := VR.ref_ hf
  obtain ⟨bs, hbt, hp⟩ := hb vs hvs
  have hkind' : ∀ x ∈ bs, fd.scope.names.lookup x.1 = some .local ∨ (fd.scope.names.lookup x.1 = some .cell ∧ ((cellsFrom (s.heap.objs.size + 1) fd.scope.names []).lookup x.1).isSome = true) := by
    have : ∀ {a : List (Str × V)} {b : List (Str × Value)} {P : Str → Prop}, Paired KV a b → (∀ x ∈ a, P x.1) → ∀ x ∈ b, P x.1 := by
      intro a b P hp
      induction hp with
      | nil => intro _ x hx; cases hx
      | cons h _ ih =>
        intro ha x hx
        rcases List.mem_cons.mp hx with rfl | hx
        · rw [← h.1]; exact ha _ (.head _)
        · exact ih (fun y hy => ha y (.tail _ hy)) x hx
    exact this (P := fun x => fd.scope.names.lookup x = some .local ∨ (fd.scope.names.lookup x = some .cell ∧ ((cellsFrom (s.heap.objs.size + 1) fd.scope.names []).lookup x).isSome = true)) hp (hkind _)
  refine wpAny_call (codeAny_call_cells (by have := hA.dp; lia) (hS.top _ _ ho) hd (G.T.nolimit.keeps hS.top) (hcd.keeps hS.top) hbody hbt hclo hkind' (fun s₁ hc => ?_) hco hgen hk)
  obtain ⟨h₁, tk₁, rfl, hk₁⟩ := hc.done
  have hS₁ : Sit G σ h₁ := hS.grow hk₁
  have above : ∀ n c, (n, c) ∈ cellsFrom (s.heap.objs.size + 1) fd.scope.names [] → s.heap.objs.size < c := fun n c hm => hc.above n c hm
  have hTn : ∀ c, s.heap.objs.size ≤ c → G.hT.get? c = none := fun c hc => by
    cases e : G.hT.get? c with
    | none => rfl
    | some o => exact absurd (Heap.lt_size (hS.top _ _ e)) (Nat.not_lt.mpr hc)
  have hS₂ : Sit G (cellSt σ (bC (callEnvC fd s.heap.objs.size f).kindOf binds fun _ => none) (cellsFrom (s.heap.objs.size + 1) fd.scope.names [])) h₁ := by
    refine sit_cells (cm := bindC (callEnvC fd s.heap.objs.size f).kindOf bs fun _ => none) (bC_ok hp fun _ => .none) hS₁ fun n c hm => ⟨hc.cell n c (lookup_of_mem_nodup ?_ hm), hTn _ (Nat.le_of_lt (above n c hm)), Nat.ne_of_gt (Nat.lt_trans hS.big (above n c hm))⟩
    exact cellsFrom_names fd.scope.names 0 (s.heap.objs.size + 1) [] [] rfl ▸ hnd
  have off : ∀ b, b ≤ s.heap.objs.size → σ b = none → cellSt σ (bC (callEnvC fd s.heap.objs.size f).kindOf binds fun _ => none) (cellsFrom (s.heap.objs.size + 1) fd.scope.names []) b = none :=
    fun b hb e => cellSt_off e fun n c hm => Nat.ne_of_lt (Nat.lt_of_le_of_lt hb (above n c hm))
  refine h s.heap.objs.size (fun b x e => hS.lt e) (A.deeper _) _ _ _ (room_deeper hA) hS₂ ⟨⟨_, hc.toInCall.ns, fun x v hv => bL_ok hp (fun _ _ e => by cases e) x v hv⟩, off _ (Nat.le_refl _) hS.fresh, hTn _ (Nat.le_refl _)⟩ fun r x h' tk σ' lv' hr hS' hP' hK' hq => ?_
  refine k (retOf r) _ h' tk σ' ?_ hS' (fun b o e nn => hK' b o (Nat.ne_of_lt (Heap.lt_size e)) (hk₁ b o e) (off b (Nat.le_of_lt (Heap.lt_size e)) nn)) hq
  cases hr with
  | ret hv => exact hv
  | _ => exact .none
end
/-- an iterator at I: P i of its object; Can there is a next one, Item what comes, Done there is none -/
structure ItAt (G : Gd) (I : Addr) (P : Nat → Obj → Prop) (Can : Nat → St → Prop) (Item : Nat → St → V → St → Prop) (Done : Nat → St → Prop) : Prop where
  item : ∀ (i : Nat) (A : Around) (s : Shared) (σ : St) (o : Obj) (Φ : Option Value → Shared → Prop) (E : Value → Shared → Prop), A.handled = none → Sit G σ s.heap → s.heap.get? I = some o → P i o → σ I = none → Can i σ →
    (∀ v x σ' o' h' tk, Item i σ v σ' → VR v x → Sit G σ' h' → h'.get? I = some o' → P (i + 1) o' → σ' I = none → KeepC I σ σ' s.heap h' → Φ (some x) { s with heap := h', toks := tk }) → wpAny (model G.prog G.w) A (pyNext (.ref I)) Φ E s
  done : ∀ (i : Nat) (A : Around) (s : Shared) (σ : St) (o : Obj) (Φ : Option Value → Shared → Prop) (E : Value → Shared → Prop), A.handled = none → Sit G σ s.heap → s.heap.get? I = some o → P i o → σ I = none → Done i σ →
    (∀ h' tk, Sit G σ h' → KeepC I σ σ s.heap h' → Φ none { s with heap := h', toks := tk }) → wpAny (model G.prog G.w) A (pyNext (.ref I)) Φ E s
  self : ∀ (i : Nat) (A : Around) (s : Shared) (o : Obj) (Φ : Value → Shared → Prop) (E : Value → Shared → Prop), s.heap.get? I = some o → P i o → Φ (.ref I) s → wpAny (model G.prog G.w) A (pyIter (.ref I)) Φ E s
noncomputable def IterV (G : Gd) (σ : St) (v : V) (Can : Nat → St → Prop) (Item : Nat → St → V → St → Prop) (Done : Nat → St → Prop) : Prop :=
  ∀ x, VR v x → ∀ (A : Around) (s : Shared) (Φ : Value → Shared → Prop) (E : Value → Shared → Prop), A.handled = none → Sit G σ s.heap →
    (∀ I o h' tk P, ItAt G I P Can Item Done → P 0 o → h'.get? I = some o → s.heap.get? I = none → (∀ b ob, s.heap.get? b = some ob → h'.get? b = some ob) → Φ (.ref I) { s with heap := h', toks := tk }) → wpAny (model G.prog G.w) A (pyIter x) Φ E s
noncomputable def LoopQ (J : Lv → St → Prop) (Q : Fl → Lv → St → Prop) : Fl → Lv → St → Prop
  | .next, lv, σ => J lv σ
  | .cont, lv, σ => J lv σ
  | .brk, lv, σ => Q .next lv σ
  | .ret v, lv, σ => Q (.ret v) lv σ
theorem Sit.noneOf {G : Gd} {σ : St} {h : Heap} (S : Sit G σ h) {a : Addr} (e : h.get? a = none) : σ a = none := by
  cases q : σ a with
  | none => rfl
  | some o => obtain ⟨ob, h1, _⟩ := S.st a o q; rw [e] at h1; cases h1
section
variable {G : Gd} {n : Nat} {env : Env} {lv : Lv} {σ : St} {Q : Fl → Lv → St → Prop}
theorem KeepC.skip {C I : Addr} {σ₀ σ σ' : St} {h₀ h h' : Heap} (hI : h₀.get? I = none) (k : KeepC C σ₀ σ h₀ h) (k' : KeepC I σ σ' h h') : KeepC C σ₀ σ' h₀ h' := fun b o hb e n => by
  have z := k b o hb e n
  exact k' b o (fun q => by subst q; rw [hI] at e; cases e) z.1 z.2
theorem EnvAt.skip {I : Addr} {σ' : St} {h h' : Heap} (x : EnvAt G env lv σ h) (hI : env.locals ≠ I) (k : KeepC I σ σ' h h') : EnvAt G env lv σ' h' := by
  obtain ⟨⟨m, ⟨o, es, ep, ho, r⟩, hv⟩, hoff, hT⟩ := x
  have z := k _ _ hI ho hoff
  exact ⟨⟨m, ⟨o, es, ep, z.1, r⟩, hv⟩, z.2, hT⟩
theorem EnvAt.there {h : Heap} (x : EnvAt G env lv σ h) : ∃ o, h.get? env.locals = some o := let ⟨⟨_, ⟨o, _, _, ho, _⟩, _⟩, _, _⟩ := x; ⟨o, ho⟩
/-- what holds at the head of a turn -/
structure Turn (G : Gd) (e : Env) (σ₀ : St) (s : Shared) (I : Addr) (P : Nat → Obj → Prop) (J : Nat → Lv → St → Prop) (i : Nat) (lv : Lv) (σ : St) (s' : Shared) : Prop where
  same : ∃ h' tk, s' = { s with heap := h', toks := tk }
  sit : Sit G σ s'.heap
  env : EnvAt G e lv σ s'.heap
  it : ∃ o, s'.heap.get? I = some o ∧ P i o
  off : σ I = none
  keep : KeepC e.locals σ₀ σ s.heap s'.heap
  inv : J i lv σ
inductive ForJ (G : Gd) (e : Env) (σ₀ : St) (s : Shared) (I : Addr) (P : Nat → Obj → Prop) (J : Nat → Lv → St → Prop) (N : Nat) (m : Nat) (s' : Shared) : Prop where
  | mk (i : Nat) (lv₂ : Lv) (σ₂ : St) (hm : m = N + 1 - i) (T : Turn G e σ₀ s I P J i lv₂ σ₂ s') : ForJ G e σ₀ s I P J N m s'
theorem ex_for {target iter : Expr} {body orelse : List Stmt} {pos : Pos}
    (h : Ev G n env lv σ iter fun v σ₁ => ∃ Can Item Done, ∃ N : Nat, ∃ J : Nat → Lv → St → Prop, IterV G σ₁ v Can Item Done ∧ J 0 lv σ₁ ∧ ∀ i lv₂ σ₂, J i lv₂ σ₂ → i ≤ N ∧
      ((Can i σ₂ ∧ ∀ v σ₃, Item i σ₂ v σ₃ → Tgt G n env lv₂ σ₃ target v fun lv₄ σ₄ => Ex G n env lv₄ σ₄ (execs body env) (LoopQ (J (i + 1)) Q)) ∨ (Done i σ₂ ∧ Ex G n env lv₂ σ₂ (execs orelse env) Q)))
    (hs : ∀ x, foldedSetIterable iter env x = pure x := by intro _; rfl) (ht : ∀ it v, letOwnedTupleGo target it v = pure () := by intro _ _; rfl) :
    Ex G n env lv σ (exec (.For target iter body orelse pos) env) Q := by
  refine .mk fun A s Φ E hA hS hP k => ?_
  refine wpAny_For (h A s _ _ hA hS hP fun v x h₁ tk₁ σ₁ hv hS₁ hK₁ hq => ?_) hs
  obtain ⟨Can, Item, Done, N, J, hI, hJ, hturn⟩ := hq
  refine hI x hv A _ _ _ hA.hd hS₁ fun I o h₂ tk₂ P it hP0 hIo hIn hgrow => ?_
  have hP₁ := stable_env _ _ _ _ _ _ _ hP hK₁
  have hneI : env.locals ≠ I := fun z => by obtain ⟨o', e⟩ := hP₁.there; rw [z] at e; rw [hIn] at e; cases e
  have k₁ : ∀ f x h' tk σ' lv', FR f x → Sit G σ' h' → EnvAt G env lv' σ' h' → KeepC env.locals σ₁ σ' h₁ h' → Q f lv' σ' → Φ x { s with heap := h', toks := tk } :=
    fun f x h' tk σ' lv' hr hS' hP' hK' hq' => k f x h' tk σ' lv' hr hS' hP' (hK₁.toC.trans hK') hq'
  have start : Turn G env σ₁ { s with heap := h₁, toks := tk₁ } I P J 0 lv σ₁ { s with heap := h₂, toks := tk₂ } :=
    ⟨⟨h₂, tk₂, rfl⟩, hS₁.grow hgrow, stable_env _ _ _ _ _ _ _ hP₁ (Keep.grow hgrow), ⟨o, hIo, hP0⟩, hS₁.noneOf hIn, (Keep.grow hgrow).toC, hJ⟩
  refine codeAny_forLoop (ForJ G env σ₁ { s with heap := h₁, toks := tk₁ } I P J N) ?_ (N + 1) ⟨0, lv, σ₁, rfl, start⟩ (ht _)
  rintro m s' ⟨i, lv₂, σ₂, rfl, T⟩
  obtain ⟨hiN, hstep⟩ := hturn i lv₂ σ₂ T.inv
  obtain ⟨h₃, tk₃, rfl⟩ := T.same
  obtain ⟨oI, hoI, hPI⟩ := T.it
  rcases hstep with ⟨hcan, hbody⟩ | ⟨hdone, hels⟩
  · refine it.item i A _ σ₂ oI _ _ hA.hd T.sit hoI hPI T.off hcan fun v x σ₃ o' h₄ tk₄ hitem hvx hS₄ hIo' hPI' hoff' hK₄ => ?_
    have hE₄ := T.env.skip hneI hK₄
    have hKK : KeepC env.locals σ₁ σ₃ h₁ h₄ := KeepC.skip hIn T.keep hK₄
    refine hbody v σ₃ hitem x hvx A _ _ _ hA hS₄ hE₄ fun _ _ h₅ tk₅ σ₅ lv₅ _ hS₅ hE₅ hK₅ hex => ?_
    refine hex A _ _ _ hA hS₅ hE₅ fun f y h₆ tk₆ σ₆ lv₆ hr hS₆ hE₆ hK₆ hq => ?_
    have hK46 : KeepC env.locals σ₃ σ₆ h₄ h₆ := hK₅.trans hK₆
    have hI6 := hK46 I o' (Ne.symm hneI) hIo' hoff'
    have next : J (i + 1) lv₆ σ₆ → ∃ m, m < N + 1 - i ∧ ForJ G env σ₁ { s with heap := h₁, toks := tk₁ } I P J N m { s with heap := h₆, toks := tk₆ } := fun hj =>
      ⟨N + 1 - (i + 1), by omega, i + 1, lv₆, σ₆, rfl, ⟨⟨h₆, tk₆, rfl⟩, hS₆, hE₆, ⟨o', hI6.1, hPI'⟩, hI6.2, hKK.trans hK46, hj⟩⟩
    cases hr with
    | next => exact next hq
    | cont => exact next hq
    | brk => exact k₁ .next .next h₆ tk₆ σ₆ lv₆ .next hS₆ hE₆ (hKK.trans hK46) hq
    | ret hv => exact k₁ (.ret _) (.ret _) h₆ tk₆ σ₆ lv₆ (.ret hv) hS₆ hE₆ (hKK.trans hK46) hq
  · refine it.done i A _ σ₂ oI _ _ hA.hd T.sit hoI hPI T.off hdone fun h₄ tk₄ hS₄ hK₄ => ?_
    have hE₄ := T.env.skip hneI hK₄
    have hKK : KeepC env.locals σ₁ σ₂ h₁ h₄ := KeepC.skip hIn T.keep hK₄
    exact hels A _ _ _ hA hS₄ hE₄ fun f y h₆ tk₆ σ₆ lv₆ hr hS₆ hE₆ hK₆ hq => k₁ f y h₆ tk₆ σ₆ lv₆ hr hS₆ hE₆ (hKK.trans hK₆) hq
abbrev LessJ (J : Nat → Lv → St → Prop) (k : Nat) : Lv → St → Prop := fun lv σ => ∃ k', k' < k ∧ J k' lv σ
abbrev WhileK (G : Gd) (n : Nat) (env : Env) (lv : Lv) (body orelse : List Stmt) (J : Lv → St → Prop) (Q : Fl → Lv → St → Prop) : Bool → St → Prop := fun b σ => if b then Ex G n env lv σ (execs body env) (LoopQ J Q) else Ex G n env lv σ (execs orelse env) Q
inductive WhileJ (G : Gd) (s : Shared) (env : Env) (σ : St) (J : Nat → Lv → St → Prop) (m : Nat) (s' : Shared) : Prop where
  | mk (lv₂ : Lv) (σ₂ : St) (h' : Heap) (tk : Nat) (h0 : s' = { s with heap := h', toks := tk }) (h1 : Sit G σ₂ h') (h2 : EnvAt G env lv₂ σ₂ h') (h3 : KeepC env.locals σ σ₂ s.heap h') (h4 : J m lv₂ σ₂) : WhileJ G s env σ J m s'
theorem ex_while {test : Expr} {body orelse : List Stmt} {pos : Pos} (J : Nat → Lv → St → Prop) (N : Nat) (hJ : J N lv σ)
    (h : ∀ k lv₂ σ₂, J k lv₂ σ₂ → Ts G n env lv₂ σ₂ test (WhileK G n env lv₂ body orelse (LessJ J k) Q)) :
    Ex G n env lv σ (exec (.While test body orelse pos) env) Q := by
  refine .mk fun A s Φ E hA hS hP k => ?_
  refine wpAny_While (codeAny_whileLoop (WhileJ G s env σ J) ?_ N
    ⟨lv, σ, s.heap, s.toks, rfl, hS, hP, fun b o _ e n => ⟨e, n⟩, hJ⟩)
  rintro m s' ⟨lv₂, σ₂, h₁, tk₁, rfl, hS₁, hP₁, hK₁, hj⟩
  refine h m lv₂ σ₂ hj A _ _ _ hA hS₁ hP₁ fun b x h₂ tk₂ σ₃ hx hS₂ hK₂ hq => ?_
  subst hx
  have hP₂ := stable_env _ _ _ _ _ _ _ hP₁ hK₂
  have hK02 := hK₁.trans (hK₂.toC (C := env.locals))
  cases b
  · simp only [WhileK, Bool.false_eq_true, if_false] at hq ⊢
    exact hq A _ _ _ hA hS₂ hP₂ fun f y h₆ tk₆ σ₆ lv₆ hr hS₆ hE₆ hK₆ hq => k f y h₆ tk₆ σ₆ lv₆ hr hS₆ hE₆ (hK02.trans hK₆) hq
  · simp only [WhileK, if_true] at hq ⊢
    refine hq A _ _ _ hA hS₂ hP₂ fun f y h₆ tk₆ σ₆ lv₆ hr hS₆ hE₆ hK₆ hq => ?_
    have next : (∃ k', k' < m ∧ J k' lv₆ σ₆) → ∃ m', m' < m ∧ WhileJ G s env σ J m' ({ s with heap := h₆, toks := tk₆ } : Shared) :=
      fun ⟨k', hk, hj'⟩ => ⟨k', hk, lv₆, σ₆, h₆, tk₆, rfl, hS₆, hE₆, hK02.trans hK₆, hj'⟩
    cases hr with
    | next => exact next hq
    | cont => exact next hq
    | brk => exact k .next .next h₆ tk₆ σ₆ lv₆ .next hS₆ hE₆ (hK02.trans hK₆) hq
    | ret hv => exact k (.ret _) (.ret _) h₆ tk₆ σ₆ lv₆ (.ret hv) hS₆ hE₆ (hK02.trans hK₆) hq
end
/-! comprehensions -/
theorem newEnv_comp {M : Model} {A : Around} {E : Value → Shared → Prop} {s : Shared} {scope : Scope} {cl : List (Str × Addr)} {env : Env} {Q : Env → Shared → Prop}
    (h : Q { scope, locals := s.heap.objs.size, globals := env.globals, cells := cellsFrom (s.heap.objs.size + 1) scope.names cl, qual := env.qual, func := none, code := env.code, frame := env.frame, builtins := env.builtins }
      { s with heap := pushCells (s.heap.push { cls := .type "dict", data := .dict #[] }) scope.names }) :
    wpAny M A (newFunctionEnv scope env.globals cl [] env.qual none .none (some env)) Q E s := by
  simp only [newFunctionEnv, Option.isSome_some, if_true]
  refine wpAny_bind (wpAny_alloc ?_)
  refine wpAny_bind (wpAny_layCells _ (fun name kind cells => by cases hkc : kind == NameKind.cell <;> simp [hkc]) _ _ _ _ ?_)
  rw [show ({ s with heap := s.heap.push { cls := .type "dict", data := .dict #[] } } : Shared).heap.objs.size = s.heap.objs.size + 1 from Heap.size_push ..]
  refine wpAny_bind ?_
  rw [List.forIn_nil]
  exact wpAny_pure (wpAny_pure h)
theorem Sit.but {G : Gd} {σ : St} {h h' : Heap} (S : Sit G σ h) {a : Addr} (ha : σ a = none) (hT : G.hT.get? a = none) (hs : ∀ b x, b ≠ a → h.get? b = some x → h'.get? b = some x) : Sit G σ h' :=
  ⟨fun b o e => hs b o (fun z => by subst z; rw [hT] at e; cases e) (S.top b o e), S.off, fun b o e => let ⟨ob, h1, h2⟩ := S.st b o e; ⟨ob, hs b ob (fun z => by subst z; rw [ha] at e; cases e) h1, h2⟩, S.sm⟩
theorem Sit.hTlt {G : Gd} {σ : St} {h : Heap} (S : Sit G σ h) {a : Addr} (ha : h.objs.size ≤ a) : G.hT.get? a = none := by
  cases e : G.hT.get? a with
  | none => rfl
  | some o => exact absurd (Heap.lt_size (S.top _ _ e)) (Nat.not_lt.mpr ha)
/-- the block of a comprehension -/
noncomputable def cEnv (scope : Scope) (cl : List (Str × Addr)) (C : Addr) (env : Env) : Env :=
  { scope := relabel scope env, locals := C, globals := env.globals, cells := cellsFrom (C + 1) scope.names cl, qual := env.qual, func := none, code := env.code, frame := env.frame, builtins := env.builtins }
theorem fn_cEnv {scope : Scope} {cl : List (Str × Addr)} {C : Addr} {env : Env} (hf : FnEnv env) (hk : scope.kind = .function) : FnEnv (cEnv scope cl C env) := ⟨hk, hf.gl, hf.bl⟩
noncomputable def noV : Lv := fun _ => none
noncomputable def noC : Str → Option V := fun _ => none
abbrev Tests (G : Gd) (n : Nat) (env : Env) (lv : Lv) (σ : St) (ifs : List Expr) (Q : Bool → St → Prop) : Prop :=
  Run G n (EnvAt G env lv) Eq σ (forIn ifs true fun c r => if r = true then do let ok ← isTrue c env (eval c env); pure (ForInStep.yield ok) else pure (ForInStep.yield r)) Q
theorem tests_nil {G : Gd} {n : Nat} {env : Env} {lv : Lv} {σ : St} {Q : Bool → St → Prop} (h : Q true σ) : Tests G n env lv σ [] Q := Run.pure rfl h
theorem tests_one {G : Gd} {n : Nat} {env : Env} {lv : Lv} {σ : St} {c : Expr} {Q : Bool → St → Prop} (h : Ts G n env lv σ c Q) : Tests G n env lv σ [c] Q := .mk fun A s Φ E hA hS hP k =>
  wpAny_tests_one (h A s Φ E hA hS hP k)
/-- the turns of a comprehension -/
abbrev SnocK (J : List V → St → Prop) (ys : List V) : V → St → Prop := fun y σ => J (ys ++ [y]) σ
abbrev EltK (G : Gd) (n : Nat) (env : Env) (lv : Lv) (elt : Expr) (J : List V → St → Prop) (ys : List V) : Bool → St → Prop := fun b σ => if b then Ev G n env lv σ elt (SnocK J ys) else J ys σ
noncomputable def CompJ (G : Gd) (n : Nat) (cenv : Env) (x : Str) (px : Pos) (ifs : List Expr) (elt : Expr) (Can : Nat → St → Prop) (Item : Nat → St → V → St → Prop) (Done : Nat → St → Prop) (N : Nat) (J : Nat → List V → St → Prop) (Z : List V → St → Prop) : Prop :=
  ∀ i ys σ₂, J i ys σ₂ → i ≤ N ∧ ys.length ≤ i ∧
    ((Can i σ₂ ∧ ∀ v σ₃, Item i σ₂ v σ₃ → Tgt G n cenv noV σ₃ (.Name x px) v fun lv₄ σ₄ => Tests G n cenv lv₄ σ₄ ifs (EltK G n cenv lv₄ elt (J (i + 1)) ys)) ∨
     (Done i σ₂ ∧ Z ys σ₂))
section
variable {G : Gd} {n : Nat} {env : Env} {lv : Lv} {σ : St}
inductive CoreJ (G : Gd) (I : Addr) (P : Nat → Obj → Prop) (N : Nat) (s : Shared) (scope : Scope) (cl : List (Str × Addr)) (C : Addr) (D : Addr) (env : Env) (σ : St) (J : Nat → List V → St → Prop) (m : Nat) (s' : Shared) : Prop where
  | mk (i : Nat) (ys : List V) (σ₂ : St) (h' : Heap) (tk : Nat) (h0 : m = N + 1 - i) (h1 : s' = { s with heap := h', toks := tk }) (h2 : Sit G σ₂ h') (h3 : EnvAt G (cEnv scope cl C env) noV σ₂ h') (h4 : (∃ o, h'.get? I = some o ∧ P i o)) (h5 : σ₂ I = none) (h6 : (∃ vs, h'.PlainList D vs.toArray ∧ Paired VR ys vs)) (h7 : σ₂ D = none) (h8 : KeepC I σ σ₂ s.heap h') (h9 : J i ys σ₂) : CoreJ G I P N s scope cl C D env σ J m s'
theorem comp_core {A : Around} {s : Shared} {E : Value → Shared → Prop} {elt iter : Expr} {x : Str} {px : Pos} {ifs : List Expr} {scope : Scope} {cl : List (Str × Addr)} {pos : Pos} {I : Addr} {P : Nat → Obj → Prop}
    {Can : Nat → St → Prop} {Item : Nat → St → V → St → Prop} {Done : Nat → St → Prop} {N : Nat} {o : Obj} {RR : Value → Addr → Result → Shared → Prop}
    (hA : Room A n) (it : ItAt G I P Can Item Done) (hP0 : P 0 o) (hIo : s.heap.get? I = some o) (hIσ : σ I = none) (hS : Sit G σ s.heap) (_hIT : G.hT.get? I = none) (hN : N ≤ sizeLine)
    {Z : List V → St → Prop}
    (hJ : ∀ C, (∀ b x, σ b = some x → b < C) → ∃ J, J 0 [] (cellSt σ noC (cellsFrom (C + 1) scope.names [])) ∧ CompJ G n (cEnv scope cl C env) x px ifs elt Can Item Done N J Z)
    (hend : ∀ D C ys σ₂ h' tk, Z ys σ₂ → Sit G σ₂ h' → (∃ m, h'.Ns C m) → σ₂ C = none → G.hT.get? C = none → (∃ vs, h'.PlainList D vs.toArray ∧ Paired VR ys vs) → σ₂ D = none → G.hT.get? D = none → D ≠ C → D ≠ sysModules → s.heap.get? D = none → s.heap.get? C = none → KeepC I σ σ₂ s.heap h' →
      RR (.ref D) C (.ok .next) { s with heap := h', toks := tk }) :
    wpAny (model G.prog G.w) A (newList []) (fun acc s₃ => wpAny (model G.prog G.w) A (newFunctionEnv scope env.globals cl [] env.qual none .none (some env)) (fun cenv s₄ =>
      codeAny (model G.prog G.w) A (.compStart (.ListComp elt [⟨.Name x px, iter, ifs, 0⟩] scope pos) 0 (.ref I) acc { cenv with scope := relabel scope env }) (RR acc cenv.locals) s₄) E s₃) E s := by
  refine wpAny_newObj_type (newEnv_comp ?_)
  dsimp only
  generalize hD : s.heap.objs.size = D
  generalize hH2 : s.heap.push { cls := .type "list", dict := none, data := .seq ([] : List Value).toArray } = H2
  have hC : H2.objs.size = D + 1 := by rw [← hH2, Heap.size_push, hD]
  generalize hCC : H2.objs.size = C at hC ⊢
  obtain ⟨J, hJ0, hturn⟩ := hJ C (fun b x e => by rw [hC, ← hD]; exact Nat.lt_succ_of_lt (hS.lt e))
  have ok := cellsFrom_ok scope.names (H2.push { cls := .type "dict", data := .dict #[] }) (C + 1) [] ⟨fun _ _ hm => (nomatch hm), List.Pairwise.nil⟩ (by rw [Heap.size_push, hCC]; exact Nat.le_refl _)
  rw [Heap.size_push, hCC] at ok
  generalize hH3 : pushCells (H2.push { cls := .type "dict", data := .dict #[] }) scope.names = H3 at ok ⊢
  have g02 : ∀ b ob, s.heap.get? b = some ob → H2.get? b = some ob := fun b ob e => hH2 ▸ Heap.get?_push_of_some _ e
  have g23 : ∀ b ob, H2.get? b = some ob → H3.get? b = some ob := fun b ob e => hH3 ▸ pushCells_keeps _ _ b ob (Heap.get?_push_of_some _ e)
  have g03 : ∀ b ob, s.heap.get? b = some ob → H3.get? b = some ob := fun b ob e => g23 b ob (g02 b ob e)
  have hDl : H3.PlainList D #[] := ⟨0, g23 _ _ (hH2 ▸ hD ▸ Heap.get?_push_size _ rfl)⟩
  have hCn : H3.Ns C fun _ => none := by
    rw [← hH3]; refine Heap.Ns.keeps ?_ (pushCells_keeps _ _)
    rw [← hCC]; exact Heap.Ns.new H2 (.type "dict")
  have fr : ∀ a, D ≤ a → s.heap.get? a = none := fun a ha => get_none_of_size (by rw [hD]; exact ha)
  have frT : ∀ a, D ≤ a → G.hT.get? a = none := fun a ha => hS.hTlt (by rw [hD]; exact ha)
  have frσ : ∀ a, D ≤ a → σ a = none := fun a ha => hS.noneOf (fr a ha)
  have hDC : D ≠ C := by lia
  have hIlt : I < D := by rw [← hD]; exact Heap.lt_size hIo
  have hDI : D ≠ I := Nat.ne_of_gt hIlt
  have hDltC : D < C := by rw [hC]; exact Nat.lt_succ_self _
  have hCI : C ≠ I := Nat.ne_of_gt (Nat.lt_trans hIlt hDltC)
  have ltD : ∀ b ob, s.heap.get? b = some ob → b < D := fun b ob e => hD ▸ Heap.lt_size e
  have cellsAbove : ∀ n c, (n, c) ∈ cellsFrom (C + 1) scope.names [] → C < c := fun n c hm => (ok.empty n c hm).2
  have off : ∀ b, b ≤ C → σ b = none → cellSt σ noC (cellsFrom (C + 1) scope.names []) b = none := fun b hb e => cellSt_off e fun n c hm => Nat.ne_of_lt (Nat.lt_of_le_of_lt hb (cellsAbove n c hm))
  have hS3 : Sit G (cellSt σ noC (cellsFrom (C + 1) scope.names [])) H3 :=
    sit_cells (vals := noC) (cm := fun _ => none) (fun _ => .none) (hS.grow g03) fun n c hm => ⟨(ok.empty n c hm).1, frT _ (Nat.le_of_lt (Nat.lt_trans hDltC (cellsAbove n c hm))), Nat.ne_of_gt (Nat.lt_trans (hD ▸ hS.big) (Nat.lt_trans hDltC (cellsAbove n c hm)))⟩
  have loop : ∀ tk, codeAny (model G.prog G.w) A (.compLoop (.ListComp elt [⟨.Name x px, iter, ifs, 0⟩] scope pos) 0 (.ref I) (.ref D) (cEnv scope cl C env)) (RR (.ref D) C) { s with heap := H3, toks := tk } := by
    intro tk
    refine codeAny_compLoop_tests (CoreJ G I P N s scope cl C D env σ J) ?_ (N + 1)
      ⟨0, [], _, H3, tk, rfl, rfl, hS3, ⟨⟨_, hCn, fun _ _ e => by cases e⟩, off C (Nat.le_refl _) (frσ C (by lia)), frT C (by lia)⟩, ⟨o, g03 _ _ hIo, hP0⟩, off I (Nat.le_of_lt (Nat.lt_trans hIlt hDltC)) hIσ, ⟨[], hDl, .nil⟩, off D (by lia) (frσ D (Nat.le_refl _)),
        fun b ob _ e n => ⟨g03 b ob e, off b (Nat.le_of_lt (Nat.lt_trans (ltD b ob e) hDltC)) n⟩, hJ0⟩ (fun _ => rfl)
    rintro m s' ⟨i, ys, σ₂, h₁, tk₁, rfl, rfl, hS₁, hE₁, ⟨oI, hoI, hPI⟩, hoffI, ⟨vs, hpl, hys⟩, hoffD, hK, hj⟩
    obtain ⟨hiN, hyi, hstep⟩ := hturn i ys σ₂ hj
    have hneIC : C ≠ I := hCI
    rcases hstep with ⟨hcan, hbody⟩ | ⟨hdone, hz⟩
    · refine it.item i A _ σ₂ oI _ _ hA.hd hS₁ hoI hPI hoffI hcan fun v y σ₃ o' h₄ tk₄ hitem hvy hS₄ hIo' hPI' hoff' hK₄ => ?_
      have hE₄ := hE₁.skip hneIC hK₄
      obtain ⟨nD, hDo⟩ := hpl
      have hD₄ := hK₄ D _ hDI hDo hoffD
      refine hbody v σ₃ hitem y hvy A _ _ _ hA hS₄ hE₄ fun _ _ h₅ tk₅ σ₅ lv₅ _ hS₅ hE₅ hK₅ hts => ?_
      have hD₅ := hK₅ D _ hDC hD₄.1 hD₄.2
      have hI₅ := hK₅ I _ (Ne.symm hneIC) hIo' hoff'
      have hK05 : KeepC I σ σ₅ s.heap h₅ := fun b ob hb e nn => by
        have z := hK b ob hb e nn
        have z2 := hK₄ b ob hb z.1 z.2
        exact hK₅ b ob (Nat.ne_of_lt (Nat.lt_trans (ltD b ob e) hDltC)) z2.1 z2.2
      refine hts A _ _ _ hA hS₅ hE₅ fun b ok h₆ tk₆ σ₆ hb hS₆ hK₆ hq => ?_
      subst hb
      have hE₆ := stable_env _ _ _ _ _ _ _ hE₅ hK₆
      have hD₆ := hK₆ D _ hD₅.1 hD₅.2
      have hI₆ := hK₆ I _ hI₅.1 hI₅.2
      have hK06 : KeepC I σ σ₆ s.heap h₆ := hK05.trans hK₆.toC
      cases b with
      | false =>
        simp only [EltK, Bool.false_eq_true, if_false] at hq ⊢
        exact ⟨N + 1 - (i + 1), by lia, i + 1, ys, σ₆, h₆, tk₆, rfl, rfl, hS₆, ⟨let ⟨m, h1, _⟩ := hE₆.ns; ⟨m, h1, fun _ _ e => by cases e⟩, hE₆.off, hE₆.hT⟩, ⟨o', hI₆.1, hPI'⟩, hI₆.2, ⟨vs, ⟨nD, hD₆.1⟩, hys⟩, hD₆.2, hK06, hq⟩
      | true =>
        simp only [EltK, if_true] at hq ⊢
        refine hq A _ _ _ hA hS₆ hE₆ fun w z h₇ tk₇ σ₇ hwz hS₇ hK₇ hj' => ?_
        have hE₇ := stable_env _ _ _ _ _ _ _ hE₆ hK₇
        have hD₇ := hK₇ D _ hD₆.1 hD₆.2
        have hI₇ := hK₇ I _ hI₆.1 hI₆.2
        have hK07 : KeepC I σ σ₇ s.heap h₇ := hK06.trans hK₇.toC
        have hlen := hys.length
        refine wpAny_list_append_plain (items := vs.toArray) ⟨nD, hD₇.1⟩ (fun h₈ hpl₈ hs₈ => ?_) (by rw [List.size_toArray]; lia)
        have hs8 : ∀ b x, b ≠ D → h₇.get? b = some x → h₈.get? b = some x := fun b x hb e => (hs₈.2 b hb).trans e
        have hpl' : h₈.PlainList D (vs ++ [z]).toArray := by simpa using hpl₈
        obtain ⟨m₇, hn₇, _⟩ := hE₇.ns
        refine ⟨N + 1 - (i + 1), by lia, i + 1, ys ++ [w], σ₇, h₈, tk₇, rfl, rfl, hS₇.but hD₇.2 (frT D (Nat.le_refl _)) hs8, ⟨⟨m₇, hn₇.sameBut hs₈ (Ne.symm hDC), fun _ _ e => by cases e⟩, hE₇.off, hE₇.hT⟩,
          ⟨o', hs8 I o' (Ne.symm hDI) hI₇.1, hPI'⟩, hI₇.2, ⟨vs ++ [z], hpl', hys.snoc hwz⟩, hD₇.2, fun b ob hb e nn => ?_, hj'⟩
        have z := hK07 b ob hb e nn
        exact ⟨hs8 b ob (Nat.ne_of_lt (ltD b ob e)) z.1, z.2⟩
    · refine it.done i A _ σ₂ oI _ _ hA.hd hS₁ hoI hPI hoffI hdone fun h₄ tk₄ hS₄ hK₄ => ?_
      have hE₄ := hE₁.skip hneIC hK₄
      obtain ⟨nD, hDo⟩ := hpl
      have hD₄ := hK₄ D _ hDI hDo hoffD
      obtain ⟨m₄, hn₄, _⟩ := hE₄.ns
      exact hend D C ys σ₂ h₄ tk₄ hz hS₄ ⟨m₄, hn₄⟩ hE₄.off hE₄.hT ⟨vs, ⟨nD, hD₄.1⟩, hys⟩ hoffD (frT D (Nat.le_refl _)) hDC (Nat.ne_of_gt (hD ▸ hS.big)) (fr D (Nat.le_refl _)) (fr C (by lia)) (hK.trans hK₄)
  exact codeAny_compStart_list (loop _) (it.self 0 A _ o _ _ (g03 _ _ hIo) hP0 (loop _))
/-- what a comprehension's source must give -/
noncomputable def CompH (G : Gd) (n : Nat) (env : Env) (scope : Scope) (cl : List (Str × Addr)) (x : Str) (px : Pos) (ifs : List Expr) (elt : Expr) (Z : List V → St → Prop) (v : V) (σ₁ : St) : Prop :=
  ∃ Can Item Done, ∃ N : Nat, IterV G σ₁ v Can Item Done ∧ N ≤ sizeLine ∧ ∀ C, (∀ b x, σ₁ b = some x → b < C) → ∃ J, J 0 [] (cellSt σ₁ noC (cellsFrom (C + 1) scope.names [])) ∧ CompJ G n (cEnv scope cl C env) x px ifs elt Can Item Done N J Z
theorem comp_keep {σ σ₁ σ₂ : St} {h h₁ h₂ h₃ h₄ : Heap} {I C D : Addr} {o : O} (k₁ : Keep σ σ₁ h h₁) (g : ∀ b o, h₁.get? b = some o → h₂.get? b = some o) (hI : h₁.get? I = none) (k₂ : KeepC I σ₁ σ₂ h₂ h₃)
    (hD : h₂.get? D = none) (hC : h₂.get? C = none) (hs : Heap.SameBut C h₃ h₄) : Keep σ (σ₂.set D o) h h₄ := fun b x e n => by
  have z := k₁ b x e n
  have z2 := g b x z.1
  have z3 := k₂ b x (fun q => by subst q; rw [hI] at z; cases z.1) z2 z.2
  exact ⟨(hs.2 b (fun q => by subst q; rw [hC] at z2; cases z2)).trans z3.1, by rw [St.set_ne _ _ (fun q => by subst q; rw [hD] at z2; cases z2)]; exact z3.2⟩
theorem comp_sit {σ₂ : St} {h₃ h₄ : Heap} {C D : Addr} {ys : List V} (S : Sit G σ₂ h₃) (hC : σ₂ C = none) (hCT : G.hT.get? C = none) (hs : Heap.SameBut C h₃ h₄) (hl : ∃ vs, h₃.PlainList D vs.toArray ∧ Paired VR ys vs) (hDT : G.hT.get? D = none) (hDC : D ≠ C) (hDs : D ≠ sysModules) :
    Sit G (σ₂.set D (.list ys)) h₄ := by
  obtain ⟨vs, ⟨k, e⟩, hp⟩ := hl
  exact (S.but hC hCT fun b x hb q => (hs.2 b hb).trans q).add ((hs.2 D hDC).trans e) (.list hp) hDT hDs
theorem ev_comp {elt iter : Expr} {x : Str} {px : Pos} {ifs : List Expr} {scope : Scope} {cl : List (Str × Addr)} {pos : Pos} {Q : V → St → Prop}
    (h : Ev G n env lv σ iter (CompH G n env scope cl x px ifs elt fun ys σ₂ => ∀ D, σ₂ D = none → Q (.ref D) (σ₂.set D (.list ys))))
    (hclos : closureFor scope env = pure cl) (hkind : scope.kind = .function) (hnames : ∀ y ∈ scope.names, y.2 = .local → scope.names.lookup y.1 = some .local)
    (hs : ∀ x, foldedSetIterable iter env x = pure x := by intro _; rfl) : Ev G n env lv σ (.ListComp elt [⟨.Name x px, iter, ifs, 0⟩] scope pos) Q := by
  refine .mk fun A s Φ E hA hS hP k => ?_
  rw [eval_ListComp]
  refine wpAny_comprehension_free (use := none) rfl hs hclos hkind hnames (h A s _ E hA hS hP fun v y h₁ tk₁ σ₁ hv hS₁ hK₁ hq => ?_)
  obtain ⟨Can, Item, Done, N, hI, hN, hJ⟩ := hq
  refine hI y hv A _ _ _ hA.hd hS₁ fun I o h₂ tk₂ P it hP0 hIo hIn hgrow => ?_
  have hS₂ := hS₁.grow hgrow
  refine comp_core (RR := fun acc C r s' => compPost (model G.prog G.w) A E none Φ acc C r s') hA it hP0 hIo (hS₁.noneOf hIn) hS₂ (by
    cases e : G.hT.get? I with
    | none => rfl
    | some o' => have := hS₁.top I o' e; rw [hIn] at this; cases this) hN hJ ?_
  intro D C ys σ₂ h₃ tk₃ hz hS₃ hCn hCσ hCT hl hDσ hDT hDC hDs hD0 hC0 hK₃
  obtain ⟨m, hn⟩ := hCn
  exact ⟨m, hn, fun h₄ hs₄ => k (.ref D) _ h₄ tk₃ _ (.ref D) (comp_sit hS₃ hCσ hCT hs₄ hl hDT hDC hDs) (comp_keep hK₁ hgrow hIn hK₃ hD0 hC0 hs₄) (hz D hDσ)⟩
theorem ex_assign_comp {elt iter : Expr} {x y : Str} {px py : Pos} {ifs : List Expr} {scope : Scope} {cl : List (Str × Addr)} {pos spos : Pos} {Q : Fl → Lv → St → Prop} (hf : FnEnv env)
    (h : Ev G n env lv σ iter (CompH G n env scope cl x px ifs elt fun ys σ₂ => ∀ D, σ₂ D = none → Q .next (lv.set y (.ref D)) (σ₂.set D (.list ys)))) (hy : env.kindOf y = some .local)
    (hclos : closureFor scope env = pure cl) (hkind : scope.kind = .function) (hnames : ∀ y ∈ scope.names, y.2 = .local → scope.names.lookup y.1 = some .local)
    (hsw : swapsWith (.ListComp elt [⟨.Name x px, iter, ifs, 0⟩] scope pos) (some (.Name y py)) spos.line env = pure true)
    (hs : ∀ x, foldedSetIterable iter env x = pure x := by intro _; rfl) : Ex G n env lv σ (exec (.Assign [.Name y py] (.ListComp elt [⟨.Name x px, iter, ifs, 0⟩] scope pos) spos) env) Q := by
  refine .mk fun A s Φ E hA hS hP k => ?_
  rw [exec_Assign_Name_used _ _ _ _ hsw]
  refine wpAny_bind (wpAny_standAt (wpAny_bind ?_))
  show wpAny _ A (do let _ ← comprehension (.ListComp elt [⟨.Name x px, iter, ifs, 0⟩] scope pos) scope env _ (newList []) false (eval iter env) (some (assign (.Name y py) env))) _ _ s
  refine wpAny_bind (wpAny_mono (wpAny_comprehension_free (use := some (assign (.Name y py) env)) (Q := fun _ s' => Φ .next s') rfl hs hclos hkind hnames (h A s _ E hA hS hP fun v z h₁ tk₁ σ₁ hv hS₁ hK₁ hq => ?_)) (fun _ s' hq => wpAny_pure (wpAny_pure hq)) fun _ _ e => e)
  obtain ⟨Can, Item, Done, N, hI, hN, hJ⟩ := hq
  have hP₁ := stable_env _ _ _ _ _ _ _ hP hK₁
  refine hI z hv A _ _ _ hA.hd hS₁ fun I o h₂ tk₂ P it hP0 hIo hIn hgrow => ?_
  have hS₂ := hS₁.grow hgrow
  have hP₂ := stable_env _ _ _ _ _ _ _ hP₁ (Keep.grow hgrow)
  have hLI : env.locals ≠ I := fun q => by obtain ⟨o', e⟩ := hP₁.there; rw [q] at e; rw [hIn] at e; cases e
  refine comp_core (RR := fun acc C r s' => compPost (model G.prog G.w) A E (some (assign (.Name y py) env)) (fun _ s' => Φ .next s') acc C r s') hA it hP0 hIo (hS₁.noneOf hIn) hS₂ (by
    cases e : G.hT.get? I with
    | none => rfl
    | some o' => have := hS₁.top I o' e; rw [hIn] at this; cases this) hN hJ ?_
  intro D C ys σ₂ h₃ tk₃ hz hS₃ hCn hCσ hCT hl hDσ hDT hDC hDs hD0 hC0 hK₃
  obtain ⟨m, hn⟩ := hCn
  obtain ⟨oL, hoL⟩ := hP₂.there
  have hLC : env.locals ≠ C := fun q => by rw [q, hC0] at hoL; cases hoL
  have hLD : env.locals ≠ D := fun q => by rw [q, hD0] at hoL; cases hoL
  have hP₃ := hP₂.skip hLI hK₃
  obtain ⟨⟨mL, hnL, hmL⟩, hoffL, hTL⟩ := hP₃
  show wpAny _ A (assign (.Name y py) env (.ref D)) _ _ _
  refine wpAny_assign_Name (wpAny_storeName_local hy hnL (fun h₄ hn₄ hs₄ => ?_) (notClass hf))
  refine ⟨m, hn.sameBut hs₄ (Ne.symm hLC), fun h₅ hs₅ => ?_⟩
  have hsL : ∀ b x, b ≠ env.locals → h₃.get? b = some x → h₄.get? b = some x := fun b x hb e => (hs₄.2 b hb).trans e
  have hl₄ : ∃ vs, h₄.PlainList D vs.toArray ∧ Paired VR ys vs := let ⟨vs, ⟨nn, e⟩, hp⟩ := hl; ⟨vs, ⟨nn, hsL D _ (Ne.symm hLD) e⟩, hp⟩
  have hS₄ : Sit G σ₂ h₄ := hS₃.but hoffL hTL hsL
  refine k .next _ h₅ _ _ (lv.set y (.ref D)) .next (comp_sit hS₄ hCσ hCT hs₅ hl₄ hDT hDC hDs) ⟨⟨_, hn₄.sameBut hs₅ hLC, fun w u hw => ?_⟩, by rw [St.set_ne _ _ hLD]; exact hoffL, hTL⟩ ?_ (hz D hDσ)
  · unfold Lv.set at hw
    split at hw
    · rename_i hwy; cases hw; exact ⟨.ref D, by rw [if_pos hwy], .ref D⟩
    · rename_i hwy
      obtain ⟨u', h1, h2⟩ := hmL w u hw
      exact ⟨u', by rw [if_neg hwy]; exact h1, h2⟩
  · intro b x hb e nn
    have z := hK₁ b x e nn
    have z2 := hgrow b x z.1
    have z3 := hK₃ b x (fun q => by subst q; rw [hIn] at z; cases z.1) z2 z.2
    have z4 := hsL b x hb z3.1
    exact ⟨(hs₅.2 b (fun q => by subst q; rw [hC0] at z2; cases z2)).trans z4, by rw [St.set_ne _ _ (fun q => by subst q; rw [hD0] at z2; cases z2)]; exact z3.2⟩
end
theorem paired_get {α β : Type} {F : α → β → Prop} {a : List α} {b : List β} (h : Paired F a b) {i : Nat} {x : α} (e : a[i]? = some x) : ∃ y, b[i]? = some y ∧ F x y := by
  induction h generalizing i with
  | nil => simp at e
  | cons h t ih =>
    cases i with
    | zero => simp at e; subst e; exact ⟨_, by simp, h⟩
    | succ i => simp at e ⊢; exact ih e
section
variable {G : Gd} {σ : St}
theorem list_of {h : Heap} {a : Addr} {xs : List V} (S : Sit G σ h) (e : G.look σ a = some (.list xs)) : ∃ vs, h.PlainList a vs.toArray ∧ Paired VR xs vs := by
  obtain ⟨ob, ho, r⟩ := S.look e
  cases r with
  | list hp => exact ⟨_, ⟨_, ho⟩, hp⟩
/-! the iterators -/
noncomputable def CanL (a : Addr) (i : Nat) (σ : St) : Prop := ∃ xs : List V, G.look σ a = some (.list xs) ∧ i < xs.length
theorem sit_iter {I : Addr} {h h' : Heap} (S : Sit G σ h) (hI : G.hT.get? I = none) (hσ : σ I = none) (hx : Heap.ExtBut I h h') : Sit G σ h' := S.but hσ hI hx
theorem keep_iter {I : Addr} {h h' : Heap} (hx : Heap.ExtBut I h h') : KeepC I σ σ h h' := fun b o hb e n => ⟨hx b o hb e, n⟩
theorem it_list {a I : Addr} (hI : G.hT.get? I = none) : ItAt G I (fun i o => o.cls = .type "list_iterator" ∧ o.data = .fields #[.ref a, .int i 0])
    (fun i σ => ∃ xs, G.look σ a = some (.list xs) ∧ i < xs.length) (fun i σ v σ' => σ' = σ ∧ ∃ xs, G.look σ a = some (.list xs) ∧ xs[i]? = some v) (fun i σ => ∃ xs, G.look σ a = some (.list xs) ∧ xs.length ≤ i) where
  item := by
    rintro i A s σ o Φ E hA hS ho ⟨hc, hd⟩ hσ ⟨xs, hl, hi⟩ k
    obtain ⟨vs, hp, hv⟩ := list_of hS hl
    have hx : xs[i]? = some xs[i] := List.getElem?_eq_getElem hi
    obtain ⟨y, hy, hr⟩ := paired_get hv hx
    refine wpAny_pyNext_list_item ⟨o, ho, hc, hd⟩ hp.isList (x := y) (by simpa using hy) fun h' hit' hs' => ?_
    obtain ⟨o', ho', hc', hd'⟩ := hit'
    exact k xs[i] y σ o' h' s.toks ⟨rfl, xs, hl, hx⟩ hr (sit_iter hS hI hσ hs'.extBut) ho' ⟨hc', hd'⟩ hσ (keep_iter hs'.extBut)
  done := by
    rintro i A s σ o Φ E hA hS ho ⟨hc, hd⟩ hσ ⟨xs, hl, hi⟩ k
    obtain ⟨vs, hp, hv⟩ := list_of hS hl
    have hlen := hv.length
    refine wpAny_pyNext_list_end hA ⟨o, ho, hc, hd⟩ hp.isList (by simp; lia) fun h' hx' => ?_
    exact k h' s.toks (sit_iter hS hI hσ hx') (keep_iter hx')
  self := by
    rintro i A s o Φ E ho ⟨hc, hd⟩ k
    exact wpAny_pyIter_listiter ⟨o, ho, hc, hd⟩ k
theorem iter_list {a : Addr} {xs : List V} (hl : G.look σ a = some (.list xs)) : IterV G σ (.ref a)
    (fun i σ => ∃ xs, G.look σ a = some (.list xs) ∧ i < xs.length) (fun i σ v σ' => σ' = σ ∧ ∃ xs, G.look σ a = some (.list xs) ∧ xs[i]? = some v) (fun i σ => ∃ xs, G.look σ a = some (.list xs) ∧ xs.length ≤ i) := by
  intro x hx A s Φ E hA hS k
  obtain rfl := VR.ref_ hx
  obtain ⟨vs, hp, hv⟩ := list_of hS hl
  exact wpAny_pyIter_list hp.isList (k s.heap.objs.size _ _ s.toks _ (it_list hS.hTfresh) ⟨rfl, rfl⟩ (Heap.get?_push_size _ rfl) (get_none_of_size (Nat.le_refl _)) fun b ob e => Heap.get?_push_of_some _ e)
theorem it_tuple {a I : Addr} (hI : G.hT.get? I = none) : ItAt G I (fun i o => o.cls = .type "tuple_iterator" ∧ o.data = .fields #[.ref a, .int i 0])
    (fun i σ => ∃ xs, G.look σ a = some (.tuple xs) ∧ i < xs.length) (fun i σ v σ' => σ' = σ ∧ ∃ xs, G.look σ a = some (.tuple xs) ∧ xs[i]? = some v) (fun i σ => ∃ xs, G.look σ a = some (.tuple xs) ∧ xs.length ≤ i) where
  item := by
    rintro i A s σ o Φ E hA hS ho ⟨hc, hd⟩ hσ ⟨xs, hl, hi⟩ k
    obtain ⟨vs, hp, hv⟩ := tup_of hS hl
    have hx : xs[i]? = some xs[i] := List.getElem?_eq_getElem hi
    obtain ⟨y, hy, hr⟩ := paired_get hv hx
    refine wpAny_pyNext_tuple_item ⟨o, ho, hc, hd⟩ hp (x := y) (by simpa using hy) fun h' hit' hs' => ?_
    obtain ⟨o', ho', hc', hd'⟩ := hit'
    exact k xs[i] y σ o' h' s.toks ⟨rfl, xs, hl, hx⟩ hr (sit_iter hS hI hσ hs'.extBut) ho' ⟨hc', hd'⟩ hσ (keep_iter hs'.extBut)
  done := by
    rintro i A s σ o Φ E hA hS ho ⟨hc, hd⟩ hσ ⟨xs, hl, hi⟩ k
    obtain ⟨vs, hp, hv⟩ := tup_of hS hl
    have hlen := hv.length
    refine wpAny_pyNext_tuple_end hA ⟨o, ho, hc, hd⟩ hp (by simp; lia) fun h' hx' => ?_
    exact k h' s.toks (sit_iter hS hI hσ hx') (keep_iter hx')
  self := by
    rintro i A s o Φ E ho ⟨hc, hd⟩ k
    exact wpAny_pyIter_tupleiter ⟨o, ho, hc, hd⟩ k
theorem iter_tuple {a : Addr} {xs : List V} (hl : G.look σ a = some (.tuple xs)) : IterV G σ (.ref a)
    (fun i σ => ∃ xs, G.look σ a = some (.tuple xs) ∧ i < xs.length) (fun i σ v σ' => σ' = σ ∧ ∃ xs, G.look σ a = some (.tuple xs) ∧ xs[i]? = some v) (fun i σ => ∃ xs, G.look σ a = some (.tuple xs) ∧ xs.length ≤ i) := by
  intro x hx A s Φ E hA hS k
  obtain rfl := VR.ref_ hx
  obtain ⟨vs, hp, hv⟩ := tup_of hS hl
  exact wpAny_pyIter_tuple hp (k s.heap.objs.size _ _ s.toks _ (it_tuple hS.hTfresh) ⟨rfl, rfl⟩ (Heap.get?_push_size _ rfl) (get_none_of_size (Nat.le_refl _)) fun b ob e => Heap.get?_push_of_some _ e)
/-- a range by ones or more -/
theorem it_range {a c : Int} {m : Nat} {I : Addr} (hI : G.hT.get? I = none) : ItAt G I (fun i o => i ≤ m ∧ o = { cls := .type "range_iterator", data := .fields #[rawInt (a + i * c), rawInt ((m : Int) - i), rawInt c] })
    (fun i _ => i < m) (fun i σ v σ' => σ' = σ ∧ v = .int (a + i * c)) (fun i _ => m ≤ i) where
  item := by
    rintro i A s σ o Φ E hA hS ho ⟨hi', rfl⟩ hσ hi k
    refine wpAny_pyNext_range_item (x := a + i * c) (left := (m : Int) - i) (step := c) ho (by lia) fun h' hit' hs' => ?_
    refine k _ _ σ _ h' (s.toks + 1) ⟨rfl, rfl⟩ (.int _ _) (sit_iter hS hI hσ hs'.extBut) hit' ⟨by lia, ?_⟩ hσ (keep_iter hs'.extBut)
    have e1 : a + (i : Int) * c + c = a + ((i + 1 : Nat) : Int) * c := by rw [Int.natCast_add, Int.add_mul]; lia
    have e2 : (m : Int) - (i : Int) - 1 = (m : Int) - ((i + 1 : Nat) : Int) := by lia
    rw [e1, e2]
  done := by
    rintro i A s σ o Φ E hA hS ho ⟨hi', rfl⟩ hσ hi k
    refine wpAny_pyNext_range_end (x := a + i * c) (left := (m : Int) - i) (step := c) hA ho (by lia) fun h' hx' => ?_
    exact k h' s.toks (sit_iter hS hI hσ hx') (keep_iter hx')
  self := by
    rintro i A s o Φ E ho ⟨hi', rfl⟩ k
    exact wpAny_pyIter_rangeiter (x := a + i * c) (left := (m : Int) - i) (step := c) ho k
theorem iter_range {r : Addr} {a b c : Int} {m : Nat} (hl : G.look σ r = some (.rng a b c)) (hsm : Builtin.Range.small a b c = true) (hm : Builtin.Range.rangeSize a b c = m) : IterV G σ (.ref r)
    (fun i _ => i < m) (fun i σ v σ' => σ' = σ ∧ v = .int (a + i * c)) (fun i _ => m ≤ i) := by
  intro x hx A s Φ E hA hS k
  obtain rfl := VR.ref_ hx
  obtain ⟨ob, ho, hr⟩ := hS.look hl
  cases hr with
  | rng =>
    refine wpAny_pyIter_range ho hsm ?_
    rw [hm]
    refine k s.heap.objs.size _ _ s.toks _ (it_range (a := a) (c := c) (m := m) hS.hTfresh) ⟨Nat.zero_le _, ?_⟩ (Heap.get?_push_size _ rfl) (get_none_of_size (Nat.le_refl _)) fun b ob e => Heap.get?_push_of_some _ e
    simp [rawInt]
theorem it_bytes {b : Array UInt8} {t : Tok} {I : Addr} (hI : G.hT.get? I = none) : ItAt G I (fun i o => o.cls = .type "bytes_iterator" ∧ o.data = .fields #[.bytes b t, .int i 0])
    (fun i _ => i < b.size) (fun i σ v σ' => σ' = σ ∧ ∃ c, b[i]? = some c ∧ v = .int (c.toNat : Int)) (fun i _ => b.size ≤ i) where
  item := by
    rintro i A s σ o Φ E hA hS ho ⟨hc, hd⟩ hσ hi k
    refine KBw.next_item ⟨o, ho, hc, hd⟩ (c := b[i]) (by simp [hi]) fun h' hit' hs' => ?_
    obtain ⟨o', ho', hc', hd'⟩ := hit'
    exact k _ _ σ o' h' (s.toks + 1) ⟨rfl, b[i], by simp [hi], rfl⟩ (.int _ _) (sit_iter hS hI hσ hs'.extBut) ho' ⟨hc', hd'⟩ hσ (keep_iter hs'.extBut)
  done := by
    rintro i A s σ o Φ E hA hS ho ⟨hc, hd⟩ hσ hi k
    refine KBw.next_end hA ⟨o, ho, hc, hd⟩ (by simp; lia) fun h' hx' => ?_
    exact k h' s.toks (sit_iter hS hI hσ hx') (keep_iter hx')
  self := by
    rintro i A s o Φ E ho ⟨hc, hd⟩ k
    exact KBw.pyIter_self ⟨o, ho, hc, hd⟩ k
theorem iter_bytes {b : Array UInt8} : IterV G σ (.bytes b) (fun i _ => i < b.size) (fun i σ v σ' => σ' = σ ∧ ∃ c, b[i]? = some c ∧ v = .int (c.toNat : Int)) (fun i _ => b.size ≤ i) := by
  intro x hx A s Φ E hA hS k
  obtain ⟨_, rfl⟩ := VR.bytes_ hx
  exact KBw.pyIter_bytes (k s.heap.objs.size _ _ s.toks _ (it_bytes hS.hTfresh) ⟨rfl, rfl⟩ (Heap.get?_push_size _ rfl) (get_none_of_size (Nat.le_refl _)) fun b ob e => Heap.get?_push_of_some _ e)
end
section
variable {G : Gd} {σ : St}
theorem sdict_of {h : Heap} {a : Addr} {es : List (Str × V)} {ep : Nat} (S : Sit G σ h) (e : σ a = some (.sdict es ep)) : ∃ kvs, h.DictAt (strKind G.prog G.w) a kvs ep ∧ Paired KV es kvs := by
  obtain ⟨ob, ho, r⟩ := S.st _ _ e
  cases r with
  | sdict hd hp => obtain ⟨es', h1, h2, h3, h4, h5⟩ := hd; exact ⟨_, ⟨ob, es', ho, h1, h2, h3, h4, h5⟩, hp⟩
theorem idict_of {h : Heap} {a : Addr} {es : List (Int × V)} {ep : Nat} (S : Sit G σ h) (e : σ a = some (.idict es ep)) : ∃ kvs, h.DictAt (intKind G.prog G.w) a kvs ep ∧ Paired KV es kvs := by
  obtain ⟨ob, ho, r⟩ := S.st _ _ e
  cases r with
  | idict hd hp => obtain ⟨es', h1, h2, h3, h4, h5⟩ := hd; exact ⟨_, ⟨ob, es', ho, h1, h2, h3, h4, h5⟩, hp⟩
theorem it_keys {d I : Addr} {es : List (Str × V)} {ep : Nat} (hI : G.hT.get? I = none) : ItAt G I (fun i o => o.cls = .type "dict_keyiterator" ∧ o.data = .fields #[.ref d, .int i 0, .int es.length 0, .int ep 0])
    (fun i σ => σ d = some (.sdict es ep) ∧ i < es.length) (fun i σ v σ' => σ' = σ ∧ ∃ p, es[i]? = some p ∧ v = .str p.1) (fun i σ => σ d = some (.sdict es ep) ∧ es.length ≤ i) where
  item := by
    rintro i A s σ o Φ E hA hS ho ⟨hc, hd⟩ hσ ⟨hl, hi⟩ k
    obtain ⟨kvs, hm, hp⟩ := sdict_of hS hl
    have hx : es[i]? = some es[i] := List.getElem?_eq_getElem hi
    obtain ⟨y, hy, hr⟩ := paired_get hp hx
    have hlen := hp.length
    obtain ⟨k', v'⟩ := y
    refine wpAny_pyNext_dict_item (k := k') (v := v') ⟨o, ho, hc, by rw [hd, hlen]⟩ hm hy fun key h' hk hit' hs' => ?_
    obtain ⟨o', ho', hc', hd'⟩ := hit'
    obtain ⟨t, rfl⟩ := Value.isStrOf_shape hk
    have e1 : (es[i]).1 = k' := hr.1
    refine k (.str k') (.str k' t) σ o' h' s.toks ⟨rfl, es[i], hx, by rw [e1]⟩ (.str _ _) (sit_iter hS hI hσ hs'.extBut) ho' ⟨hc', by rw [hd', hlen]⟩ hσ (keep_iter hs'.extBut)
  done := by
    rintro i A s σ o Φ E hA hS ho ⟨hc, hd⟩ hσ ⟨hl, hi⟩ k
    obtain ⟨kvs, hm, hp⟩ := sdict_of hS hl
    have hlen := hp.length
    refine wpAny_pyNext_dict_end hA ⟨o, ho, hc, by rw [hd, hlen]⟩ hm (by simp; lia) fun h' hx' => ?_
    exact k h' s.toks (sit_iter hS hI hσ hx') (keep_iter hx')
  self := by
    rintro i A s o Φ E ho ⟨hc, hd⟩ k
    exact wpAny_pyIter_keyiter ⟨o, ho, hc, hd⟩ k
theorem iter_keys {d : Addr} {es : List (Str × V)} {ep : Nat} (hl : σ d = some (.sdict es ep)) : IterV G σ (.ref d)
    (fun i σ => σ d = some (.sdict es ep) ∧ i < es.length) (fun i σ v σ' => σ' = σ ∧ ∃ p, es[i]? = some p ∧ v = .str p.1) (fun i σ => σ d = some (.sdict es ep) ∧ es.length ≤ i) := by
  intro x hx A s Φ E hA hS k
  obtain rfl := VR.ref_ hx
  obtain ⟨kvs, hm, hp⟩ := sdict_of hS hl
  refine wpAny_pyIter_dict (hS.nsm hl) hm ?_
  exact k s.heap.objs.size _ _ s.toks _ (it_keys (d := d) (es := es) (ep := ep) hS.hTfresh) ⟨rfl, by rw [hp.length]; rfl⟩ (Heap.get?_push_size _ rfl) (get_none_of_size (Nat.le_refl _)) fun b ob e => Heap.get?_push_of_some _ e
/-! arithmetic -/
variable {n : Nat} {Q : V → St → Prop}
theorem tr_val {t : Sem Value} {v : V} (h : ∀ (A : Around) (s : Shared) (Φ : Value → Shared → Prop) (E : Value → Shared → Prop), Room A n → Sit G σ s.heap → (∀ x tk, VR v x → Φ x { s with toks := tk }) → wpAny (model G.prog G.w) A t Φ E s) (hq : Q v σ) : Tr G n σ t Q :=
  .mk fun A s Φ E hA hS _ k => h A s Φ E hA hS fun x tk hx => k v x s.heap tk σ hx hS (Keep.refl _ _) hq
theorem bin_add {a b : Int} (h : Q (.int (a + b)) σ) : Bin G n σ .Add (.int a) (.int b) Q := by
  intro x y hx hy; obtain ⟨_, rfl⟩ := VR.int_ hx; obtain ⟨_, rfl⟩ := VR.int_ hy
  exact tr_val (fun A s Φ E _ _ k => PyProof.Rows.add_int (k _ _ (.int _ _))) h
theorem bin_sub {a b : Int} (h : Q (.int (a - b)) σ) : Bin G n σ .Sub (.int a) (.int b) Q := by
  intro x y hx hy; obtain ⟨_, rfl⟩ := VR.int_ hx; obtain ⟨_, rfl⟩ := VR.int_ hy
  exact tr_val (fun A s Φ E _ _ k => PyProof.Rows.sub_int (k _ _ (.int _ _))) h
theorem bin_mul {a b : Int} (hm : IntMulOk a b) (h : Q (.int (a * b)) σ) : Bin G n σ .Mult (.int a) (.int b) Q := by
  intro x y hx hy; obtain ⟨_, rfl⟩ := VR.int_ hx; obtain ⟨_, rfl⟩ := VR.int_ hy
  exact tr_val (fun A s Φ E _ _ k => PyProof.Rows.mul_int (k _ _ (.int _ _)) hm) h
theorem bin_floordiv {a b : Int} (hb : b ≠ 0) (hs : b.natAbs < 1073741824) (h : Q (.int (a.fdiv b)) σ) : Bin G n σ .FloorDiv (.int a) (.int b) Q := by
  intro x y hx hy; obtain ⟨_, rfl⟩ := VR.int_ hx; obtain ⟨_, rfl⟩ := VR.int_ hy
  exact tr_val (fun A s Φ E _ _ k => PyProof.Rows.floordiv_int hb (k _ _ (.int _ _)) (.inl (PyProof.noPylong_small hs))) h
theorem bin_mod {a b : Int} (hb : b ≠ 0) (h : Q (.int (a.fmod b)) σ) : Bin G n σ .Mod (.int a) (.int b) Q := by
  intro x y hx hy; obtain ⟨_, rfl⟩ := VR.int_ hx; obtain ⟨_, rfl⟩ := VR.int_ hy
  exact tr_val (fun A s Φ E _ _ k => PyProof.Rows.mod_int' hb (k _ _ (.int _ _))) h
theorem bin_pow {a b : Int} (hn : 0 ≤ b) (hb : b ≤ 1000000) (ha : a.natAbs < 2 ^ 64) (h : Q (.int (a ^ b.toNat)) σ) : Bin G n σ .Pow (.int a) (.int b) Q := by
  intro x y hx hy; obtain ⟨_, rfl⟩ := VR.int_ hx; obtain ⟨_, rfl⟩ := VR.int_ hy
  exact tr_val (fun A s Φ E _ _ k => PyProof.Rows.pow_int_small hn hb ha (k _ _ (.int _ _))) h
theorem intMulOk_left {a b : Int} (h : a.natAbs < 2 ^ 64) : IntMulOk a b := IntMulOk.of_left (intBits_le h)
theorem intMulOk_right {a b : Int} (h : b.natAbs < 2 ^ 64) : IntMulOk a b := IntMulOk.of_right (intBits_le h)
/-! comparisons -/
theorem cmp_eq_int {a b : Int} (h : Q (.bool (a == b)) σ) : Cmp G n σ .Eq (.int a) (.int b) Q := by
  intro x y hx hy; obtain ⟨_, rfl⟩ := VR.int_ hx; obtain ⟨_, rfl⟩ := VR.int_ hy
  exact tr_val (fun A s Φ E _ _ k => PyProof.Rows.eq_int (k _ s.toks (.bool _))) h
theorem cmp_ne_int {a b : Int} (h : Q (.bool (a != b)) σ) : Cmp G n σ .NotEq (.int a) (.int b) Q := by
  intro x y hx hy; obtain ⟨_, rfl⟩ := VR.int_ hx; obtain ⟨_, rfl⟩ := VR.int_ hy
  exact tr_val (fun A s Φ E _ _ k => PyProof.Rows.ne_int (k _ s.toks (.bool _))) h
theorem cmp_lt_int {a b : Int} (h : Q (.bool (decide (a < b))) σ) : Cmp G n σ .Lt (.int a) (.int b) Q := by
  intro x y hx hy; obtain ⟨_, rfl⟩ := VR.int_ hx; obtain ⟨_, rfl⟩ := VR.int_ hy
  exact tr_val (fun A s Φ E _ _ k => PyProof.Rows.lt_int (k _ s.toks (.bool _))) h
theorem cmp_gt_int {a b : Int} (h : Q (.bool (decide (b < a))) σ) : Cmp G n σ .Gt (.int a) (.int b) Q := by
  intro x y hx hy; obtain ⟨_, rfl⟩ := VR.int_ hx; obtain ⟨_, rfl⟩ := VR.int_ hy
  exact tr_val (fun A s Φ E _ _ k => PyProof.Rows.gt_int (k _ s.toks (.bool _))) h
end
section
variable {G : Gd} {σ : St} {n : Nat} {env : Env} {lv : Lv} {Q : V → St → Prop}
/-! more comparisons -/
theorem cmp_le_int {a b : Int} (h : Q (.bool (decide (a ≤ b))) σ) : Cmp G n σ .LtE (.int a) (.int b) Q := by
  intro x y hx hy; obtain ⟨_, rfl⟩ := VR.int_ hx; obtain ⟨_, rfl⟩ := VR.int_ hy
  exact tr_val (fun A s Φ E _ _ k => PyProof.Rows.le_int (k _ s.toks (.bool _))) h
theorem cmp_ge_int {a b : Int} (h : Q (.bool (decide (b ≤ a))) σ) : Cmp G n σ .GtE (.int a) (.int b) Q := by
  intro x y hx hy; obtain ⟨_, rfl⟩ := VR.int_ hx; obtain ⟨_, rfl⟩ := VR.int_ hy
  exact tr_val (fun A s Φ E _ _ k => PyProof.Rows.ge_int (k _ s.toks (.bool _))) h
theorem cmp_eq_str {a b : Str} (h : Q (.bool (a == b)) σ) : Cmp G n σ .Eq (.str a) (.str b) Q := by
  intro x y hx hy; obtain ⟨_, rfl⟩ := VR.str_ hx; obtain ⟨_, rfl⟩ := VR.str_ hy
  exact tr_val (fun A s Φ E _ _ k => PyProof.Rows.eq_str (k _ s.toks (.bool _))) h
theorem cmp_ne_bytes {a b : Array UInt8} (h : Q (.bool (a.toList != b.toList)) σ) : Cmp G n σ .NotEq (.bytes a) (.bytes b) Q := by
  intro x y hx hy; obtain ⟨_, rfl⟩ := VR.bytes_ hx; obtain ⟨_, rfl⟩ := VR.bytes_ hy
  exact tr_val (fun A s Φ E _ _ k => PySem.W.ne_bytes (k _ s.toks (.bool _))) h
theorem cmp_ne_none (h : Q (.bool false) σ) : Cmp G n σ .NotEq .none .none Q := by
  intro x y hx hy; obtain rfl := VR.none_ hx; obtain rfl := VR.none_ hy
  exact tr_val (fun A s Φ E _ _ k => SeqAt.RcNeAt.none_none _ _ _ _ (k _ s.toks (.bool _))) h
theorem cmp_ne_bool {a b : Bool} (h : Q (.bool (!(a == b))) σ) : Cmp G n σ .NotEq (.bool a) (.bool b) Q := by
  intro x y hx hy; obtain rfl := VR.bool_ hx; obtain rfl := VR.bool_ hy
  exact tr_val (fun A s Φ E _ _ k => SeqAt.RcNeAt.bool_bool a b _ _ _ _ (k _ s.toks (.bool _))) h
noncomputable def V.isNone : V → Bool
  | .none => true
  | _ => false
noncomputable def V.plain : V → Bool
  | .blt _ => false
  | _ => true
theorem cmp_is_none {a : V} (hp : a.plain = true) (h : Q (.bool a.isNone) σ) : Cmp G n σ .Is a .none Q := by
  intro x y hx hy; obtain rfl := VR.none_ hy
  refine tr_val (fun A s Φ E _ _ k => wpAny_is_plain (by cases hx <;> first | rfl | cases hp) ?_) h
  cases hx <;> exact k _ s.toks (.bool _)
theorem cmp_isNot_none {a : V} (hp : a.plain = true) (h : Q (.bool (!a.isNone)) σ) : Cmp G n σ .IsNot a .none Q := by
  intro x y hx hy; obtain rfl := VR.none_ hy
  refine tr_val (fun A s Φ E _ _ k => wpAny_isNot_plain (by cases hx <;> first | rfl | cases hp) ?_) h
  cases hx <;> exact k _ s.toks (.bool _)
/-! subscripts -/
noncomputable def ItemV (G : Gd) (n : Nat) (σ : St) (o i : V) (Q : V → St → Prop) : Prop := ∀ ox ix, VR o ox → VR i ix → ∃ T id, typeLookup (.type T) "__getitem__" = pure (some (.builtin id)) ∧ (∀ s : Shared, Sit G σ s.heap → s.TypeIs ox T) ∧ Tr G n σ (getItem ox ix) Q
abbrev ItemL (G : Gd) (n : Nat) (ov : V) (Q : V → St → Prop) : V → St → Prop := fun iv σ => ItemV G n σ ov iv Q
abbrev ItemK (G : Gd) (n : Nat) (env : Env) (lv : Lv) (i : Expr) (Q : V → St → Prop) : V → St → Prop := fun ov σ => Ev G n env lv σ i (ItemL G n ov Q)
theorem ev_item {o i : Expr} {pos : Pos} (h : Ev G n env lv σ o (ItemK G n env lv i Q))
    (hs : ∀ o' i', subscripted i false o' i' = operate [o', i'] (getItem o' i') := by intro _ _; with_unfolding_all rfl) : Ev G n env lv σ (.Subscript o i pos) Q := by
  refine .mk fun A s Φ E hA hS hP k => ?_
  refine Subscript_ (h A s _ E hA hS hP fun ov ox h₁ tk₁ σ₁ hov hS₁ hK₁ hq => hq A _ _ E hA hS₁ (stable_env _ _ _ _ _ _ _ hP hK₁) fun iv ix h₂ tk₂ σ₂ hiv hS₂ hK₂ hg => ?_)
  obtain ⟨T, id, hl, hT, hg⟩ := hg ox ix hov hiv
  exact tail_any (hT _ hS₂) hl (hg A _ _ E hA hS₂ trivial fun v x h₃ tk₃ σ₃ hv hS₃ hK₃ hq => k v x h₃ tk₃ σ₃ hv hS₃ (hK₁.trans (hK₂.trans hK₃)) hq) (hs _ _)
theorem item_list {a : Addr} {xs : List V} {i : Int} {v : V} (hl : G.look σ a = some (.list xs)) (h0 : 0 ≤ i) (hf : i < 2 ^ 63) (hx : xs[i.toNat]? = some v) (h : Q v σ) : ItemV G n σ (.ref a) (.int i) Q := by
  intro ox ix hox hix; obtain rfl := VR.ref_ hox; obtain ⟨_, rfl⟩ := VR.int_ hix
  refine ⟨"list", _, slot_list_getitem.lookup, fun s hS => ?_, .mk fun A s Φ E _ hS _ k => ?_⟩
  · obtain ⟨vs, hp, _⟩ := list_of hS hl; exact hp.isList.typeIs
  · obtain ⟨vs, hp, hv⟩ := list_of hS hl
    obtain ⟨y, hy, hr⟩ := paired_get hv hx
    exact wpAny_getItem_list hp.isList h0 hf (x := y) (by simpa using hy) (k v y s.heap s.toks σ hr hS (Keep.refl _ _) h)
theorem item_tuple {a : Addr} {xs : List V} {i : Int} {v : V} (hl : G.look σ a = some (.tuple xs)) (h0 : 0 ≤ i) (hf : i < 2 ^ 63) (hx : xs[i.toNat]? = some v) (h : Q v σ) : ItemV G n σ (.ref a) (.int i) Q := by
  intro ox ix hox hix; obtain rfl := VR.ref_ hox; obtain ⟨_, rfl⟩ := VR.int_ hix
  refine ⟨"tuple", _, slot_tuple_getitem.lookup, fun s hS => ?_, .mk fun A s Φ E _ hS _ k => ?_⟩
  · obtain ⟨vs, hp, _⟩ := tup_of hS hl; exact IsTup.typeIs hp
  · obtain ⟨vs, hp, hv⟩ := tup_of hS hl
    obtain ⟨y, hy, hr⟩ := paired_get hv hx
    have hl := hv.length
    have hlt : i.toNat < xs.length := by
      rcases Nat.lt_or_ge i.toNat xs.length with q | q
      · exact q
      · rw [List.getElem?_eq_none q] at hx; cases hx
    refine PyProof.Rows.getItem_tuple hp (by lia) hf (j := i.toNat) (x := y) ?_ (by simpa using hy) (k v y s.heap s.toks σ hr hS (Keep.refl _ _) h)
    have h1 : ¬ i < 0 := by lia
    have h2 : i < (vs.length : Int) := by lia
    simp [seqIndex?, h1, h0, h2]
theorem item_bytes {b : Array UInt8} {i : Int} {c : UInt8} (h0 : 0 ≤ i) (hsz : b.size ≤ 1099511627776) (hx : b[i.toNat]? = some c) (h : Q (.int (c.toNat : Int)) σ) : ItemV G n σ (.bytes b) (.int i) Q := by
  intro ox ix hox hix; obtain ⟨_, rfl⟩ := VR.bytes_ hox; obtain ⟨_, rfl⟩ := VR.int_ hix
  refine ⟨"bytes", _, FB.slot_bytes_getitem.lookup, fun s _ => typeIs_bytes s _ _, .mk fun A s Φ E _ hS _ k => ?_⟩
  obtain ⟨l⟩ := b
  have hlt : i.toNat < l.length := by
    rcases Nat.lt_or_ge i.toNat l.length with q | q
    · exact q
    · rw [Array.getElem?_eq_none (by simpa using q)] at hx; cases hx
  refine PySem.W.getItem_bytes (by simpa using hsz) h0 (by lia) (k (.int c.toNat) _ s.heap _ σ ?_ hS (Keep.refl _ _) h)
  have : l.getD i.toNat 0 = c := by
    have hx' : l[i.toNat]? = some c := by simpa using hx
    simp [List.getD, hx']
  rw [this]; exact .int _ _
/-! dicts -/
noncomputable def vat {K : Type} [DecidableEq K] : List (K × V) → K → Option V
  | [], _ => none
  | (k', v) :: r, k => if k' = k then some v else vat r k
noncomputable def vset {K : Type} [DecidableEq K] (es : List (K × V)) (k : K) (v : V) : List (K × V) :=
  if es.any (fun kv => kv.1 = k) then es.map (fun kv => if kv.1 = k then (kv.1, v) else kv) else es ++ [(k, v)]
theorem vat_ok {K : Type} [DecidableEq K] {es : List (K × V)} {kvs : List (K × Value)} (h : Paired KV es kvs) (k : K) : VO (vat es k) (valueAt kvs k) := by
  refine kv_ind (P := fun es kvs => VO (vat es k) (valueAt kvs k)) h .none fun k' v y r s hv hr ih => ?_
  unfold valueAt at ih ⊢
  by_cases hk : k' = k
  · simp only [vat, hk, if_true, List.find?_cons, decide_true, Option.map_some]; exact .some hv
  · simp only [vat, hk, if_false, List.find?_cons, decide_false]; exact ih
theorem any_keys {K : Type} [DecidableEq K] {es : List (K × V)} {kvs : List (K × Value)} (h : Paired KV es kvs) (k : K) : es.any (fun kv => decide (kv.1 = k)) = kvs.any (fun kv => decide (kv.1 = k)) := by
  refine kv_ind (P := fun es kvs => es.any (fun kv => decide (kv.1 = k)) = kvs.any (fun kv => decide (kv.1 = k))) h rfl fun k' v y r s hv hr ih => ?_
  simp only [List.any_cons]; rw [ih]
theorem map_store {K : Type} [DecidableEq K] {k : K} {v : V} {y : Value} (hv : VR v y) {es : List (K × V)} {kvs : List (K × Value)} (h : Paired KV es kvs) :
    Paired KV (es.map fun kv => if kv.1 = k then (kv.1, v) else kv) (kvs.map fun kv => if kv.1 = k then (kv.1, y) else kv) := by
  refine kv_ind (P := fun es kvs => Paired KV (es.map fun kv => if kv.1 = k then (kv.1, v) else kv) (kvs.map fun kv => if kv.1 = k then (kv.1, y) else kv)) h .nil fun k' u z r s hu hr ih => ?_
  refine .cons ?_ ih
  dsimp only
  by_cases hk : k' = k
  · simp only [hk, if_true]; exact ⟨rfl, hv⟩
  · simp only [hk, if_false]; exact ⟨rfl, hu⟩
theorem vset_ok {K : Type} [DecidableEq K] {es : List (K × V)} {kvs : List (K × Value)} (h : Paired KV es kvs) {k : K} {v : V} {y : Value} (hv : VR v y) : Paired KV (vset es k v) (stored kvs k y) := by
  unfold vset stored
  rw [any_keys h k]
  split
  · exact map_store hv h
  · exact paired_append h (.cons ⟨rfl, hv⟩ .nil)
theorem item_sdict {a : Addr} {es : List (Str × V)} {ep : Nat} {x : Str} {v : V} (hl : σ a = some (.sdict es ep)) (hx : vat es x = some v) (h : Q v σ) : ItemV G n σ (.ref a) (.str x) Q := by
  intro ox ix hox hix; obtain rfl := VR.ref_ hox; obtain ⟨_, rfl⟩ := VR.str_ hix
  refine ⟨"dict", _, slot_dict_getitem.lookup, fun s hS => ?_, .mk fun A s Φ E _ hS _ k => ?_⟩
  · obtain ⟨kvs, hm, _⟩ := sdict_of hS hl; exact hm.dictOf.typeIs
  · obtain ⟨kvs, hm, hp⟩ := sdict_of hS hl
    have ho := vat_ok hp x
    rw [hx] at ho
    generalize hy : valueAt kvs x = y at ho
    cases ho with
    | some hr => exact wpAny_getItem_of (strKind_is _ _ _ _) hm.dictOf.mapOf hy (k v _ s.heap _ σ hr hS (Keep.refl _ _) h)
theorem cmp_in_sdict {a : Addr} {es : List (Str × V)} {ep : Nat} {x : Str} (hl : σ a = some (.sdict es ep)) (h : Q (.bool (vat es x).isSome) σ) : Cmp G n σ .In (.str x) (.ref a) Q := by
  intro ox ix hox hix; obtain ⟨_, rfl⟩ := VR.str_ hox; obtain rfl := VR.ref_ hix
  refine .mk fun A s Φ E _ hS _ k => ?_
  obtain ⟨kvs, hm, hp⟩ := sdict_of hS hl
  have ho := vat_ok hp x
  refine wpAny_in_of (strKind_is _ _ _ _) (hS.nsm hl) hm.dictOf.mapOf ?_
  have e : (valueAt kvs x).isSome = (vat es x).isSome := by
    generalize vat es x = p at ho
    generalize valueAt kvs x = q at ho
    cases ho <;> rfl
  rw [e]
  exact k _ _ s.heap _ σ (.bool _) hS (Keep.refl _ _) h
theorem setI_sdict {a : Addr} {es : List (Str × V)} {ep : Nat} {x : Str} {v : V} {P : St → Prop} (hl : σ a = some (.sdict es ep)) (hsz : es.length ≤ sizeLine) (h : ∀ ep', P (σ.set a (.sdict (vset es x v) ep'))) : SetI G n σ (.ref a) (.str x) v P := by
  intro ox ix y hox hix hv; obtain rfl := VR.ref_ hox; obtain ⟨_, rfl⟩ := VR.str_ hix
  refine .mk fun A s Φ E _ hS _ k => ?_
  obtain ⟨kvs, hm, hp⟩ := sdict_of hS hl
  refine wpAny_setItem_pairs (strKind_is _ _ _ _) hm.dictOf (fun h' hd hs => ?_) (by rw [← hp.length]; exact hsz)
  obtain ⟨ep', o, es', ho, h1, h2, h3, h4, h5⟩ := hd.dictAt
  have kk : ∀ b x, b ≠ a → s.heap.get? b = some x → h'.get? b = some x := fun b x hb e => (hs.2 b hb).trans e
  exact k () () h' _ _ trivial (hS.put hl ho (.sdict ⟨es', h1, h2, h3, h4, h5⟩ (vset_ok hp hv)) kk) (Keep.put hl kk) (h ep')
theorem setI_idict {a : Addr} {es : List (Int × V)} {ep : Nat} {x : Int} {v : V} {P : St → Prop} (hl : σ a = some (.idict es ep)) (hsz : es.length ≤ sizeLine) (h : ∀ ep', P (σ.set a (.idict (vset es x v) ep'))) : SetI G n σ (.ref a) (.int x) v P := by
  intro ox ix y hox hix hv; obtain rfl := VR.ref_ hox; obtain ⟨_, rfl⟩ := VR.int_ hix
  refine .mk fun A s Φ E _ hS _ k => ?_
  obtain ⟨kvs, hm, hp⟩ := idict_of hS hl
  refine wpAny_setItem_pairs (intKind_is _ _ _ _) hm.dictOf (fun h' hd hs => ?_) (by rw [← hp.length]; exact hsz)
  obtain ⟨ep', o, es', ho, h1, h2, h3, h4, h5⟩ := hd.dictAt
  have kk : ∀ b x, b ≠ a → s.heap.get? b = some x → h'.get? b = some x := fun b x hb e => (hs.2 b hb).trans e
  exact k () () h' _ _ trivial (hS.put hl ho (.idict ⟨es', h1, h2, h3, h4, h5⟩ (vset_ok hp hv)) kk) (Keep.put hl kk) (h ep')
theorem paired_set {α β : Type} {F : α → β → Prop} {a : List α} {b : List β} (h : Paired F a b) {x : α} {y : β} (hx : F x y) (i : Nat) : Paired F (a.set i x) (b.set i y) := by
  induction h generalizing i with
  | nil => exact .nil
  | cons h' t ih =>
    cases i with
    | zero => exact .cons hx t
    | succ i => exact .cons h' (ih i)
set_option maxRecDepth 100000 in
/-- an element set: what the very object becomes -/
theorem put_list {A : Around} {s : Shared} {E : Value → Shared → Prop} {l : Addr} {vs : List Value} {c : Nat} {i : Int} {t : Tok} {v : Value} {P : Unit → Shared → Prop} (ho : s.heap.get? l = some { cls := .type "list", data := .seq vs.toArray c })
    (h0 : 0 ≤ i) (hf : i < 2 ^ 63) (hi : i < vs.length) (h : ∀ h' c', h'.get? l = some { cls := .type "list", data := .seq (vs.set i.toNat v).toArray c' } → Heap.SameBut l s.heap h' → P () { s with heap := h' }) :
    wpAny (model G.prog G.w) A (setItem (.ref l) (.int i t) v) P E s := by
  have hT : s.TypeIs (.ref l) "list" := ⟨_, ho, rfl⟩
  obtain ⟨c', e⟩ : ∃ c', Obj.mapSeq (·.setIfInBounds i.toNat v) { cls := .type "list", data := .seq vs.toArray c } = { cls := .type "list", data := .seq (vs.set i.toNat v).toArray c' } := ⟨_, by simp [Obj.mapSeq]; rfl⟩
  have fin : P () { s with heap := s.heap.update l (Obj.mapSeq (·.setIfInBounds i.toNat v)) } := h _ c' (by rw [Heap.get?_update_self _ ho (by rw [e]; rfl), e]) (Heap.SameBut.update ..)
  unfold setItem
  try with_reducible refine wpAny_holding ?_
  first | refine wpAny_bind (wpAny_pure ?_) | skip
  refine wpAny_bind (wpAny_sequenceKey hT (by decide) ?_)
  refine wpAny_bind (wpAny_callSpecial?_slot (name := Str.ofString "__setitem__") hT slot_list_setitem
    (wpAny_call_entry slot_list_setitem hT entry_list_setitem ?_ (args_list_setitem _ _ _)))
  show wpAny _ _ (Builtin.List.listSubscript? (.int i t) >>= _) _ _ s
  refine wpAny_bind (wpAny_listSubscript_int (fitsIndex_of h0 hf) ?_)
  clear hf
  obtain ⟨j, rfl⟩ := Int.eq_ofNat_of_zero_le h0
  have hj : j < vs.length := by lia
  have hit : vs.toArray[j]? = some (vs[j]'hj) := by simp [hj]
  show wpAny _ _ ((seqItemAt l j >>= fun r => pure (r.map (j, ·))) >>= _) _ _ s
  refine wpAny_bind (wpAny_bind (wpAny_seqItemAt ho rfl (wpAny_pure ?_)))
  rw [hit]
  show wpAny _ _ (setSeqItemAt l j v >>= _) _ _ s
  refine wpAny_bind (wpAny_setSeqItemAt ho rfl ?_)
  first
    | exact wpAny_bind (wpAny_pure (wpAny_pure ⟨.none, rfl, wpAny_pure fin⟩))
    | exact wpAny_pure ⟨.none, rfl, wpAny_pure fin⟩
theorem setI_list {a : Addr} {xs : List V} {i : Int} {v : V} {P : St → Prop} (hl : σ a = some (.list xs)) (h0 : 0 ≤ i) (hf : i < 2 ^ 63) (hi : i < xs.length) (h : P (σ.set a (.list (xs.set i.toNat v)))) : SetI G n σ (.ref a) (.int i) v P := by
  intro ox ix y hox hix hv; obtain rfl := VR.ref_ hox; obtain ⟨_, rfl⟩ := VR.int_ hix
  refine .mk fun A s Φ E _ hS _ k => ?_
  obtain ⟨vs, hp, hr⟩ := list_of hS (Gd.look_of hl)
  have hlen := hr.length
  obtain ⟨c, ho⟩ := hp
  refine put_list ho h0 hf (by lia) fun h' c' ho' hs => ?_
  have kk : ∀ b x, b ≠ a → s.heap.get? b = some x → h'.get? b = some x := fun b x hb e => (hs.2 b hb).trans e
  exact k () () h' _ _ trivial (hS.put hl ho' (.list (paired_set hr hv _)) kk) (Keep.put hl kk) h
end
section
variable {G : Gd} {σ : St} {n : Nat} {Q : V → St → Prop}
theorem list_at {h : Heap} {a : Addr} {xs : List V} (S : Sit G σ h) (e : G.look σ a = some (.list xs)) : ∃ vs c, h.get? a = some { cls := .type "list", data := .seq vs.toArray c } ∧ Paired VR xs vs := by
  obtain ⟨vs, ⟨c, h1⟩, h2⟩ := list_of S e; exact ⟨vs, c, h1, h2⟩
theorem keep_but {a : Addr} {h h' : Heap} (hs : Heap.SameBut a h h') : ∀ b x, b ≠ a → h.get? b = some x → h'.get? b = some x := fun b x hb e => (hs.2 b hb).trans e
/-- a call that makes a new object -/
theorem tr_new {t : Sem Value} {o : O} (h : ∀ (A : Around) (s : Shared) (Φ : Value → Shared → Prop) (E : Value → Shared → Prop), Room A n → Sit G σ s.heap →
    (∀ a h' tk ob, (∀ b x, s.heap.get? b = some x → h'.get? b = some x) → h'.get? a = some ob → s.heap.objs.size ≤ a → OR G.prog G.w o ob → Φ (.ref a) { s with heap := h', toks := tk }) → wpAny (model G.prog G.w) A t Φ E s)
    (hq : ∀ a, σ a = none → Q (.ref a) (σ.set a o)) : Tr G n σ t Q := by
  refine .mk fun A s Φ E hA hS _ k => ?_
  refine h A s Φ E hA hS fun a h' tk ob hk ho ha hr => ?_
  have hn : σ a = none := hS.noneOf (get_none_of_size ha)
  have hsm : a ≠ sysModules := Nat.ne_of_gt (Nat.lt_of_lt_of_le hS.big ha)
  refine k (.ref a) _ h' tk _ (.ref a) ((hS.grow hk).add ho hr (hS.hTlt ha) hsm) (fun b x e nn => ⟨hk b x e, ?_⟩) (hq a hn)
  rw [St.set_ne _ _ (fun q => by subst q; exact absurd (Heap.lt_size e) (Nat.not_lt.mpr ha))]; exact nn
/-! lists -/
theorem bin_concat {a b : Addr} {xs ys : List V} (ha : G.look σ a = some (.list xs)) (hb : G.look σ b = some (.list ys)) (hsz : xs.length + ys.length ≤ sizeLine) (h : ∀ r, σ r = none → Q (.ref r) (σ.set r (.list (xs ++ ys)))) : Bin G n σ .Add (.ref a) (.ref b) Q := by
  intro x y hx hy; obtain rfl := VR.ref_ hx; obtain rfl := VR.ref_ hy
  refine tr_new (fun A s Φ E _ hS k => ?_) h
  obtain ⟨vs, c, h1, h2⟩ := list_at hS ha
  obtain ⟨us, d, h3, h4⟩ := list_at hS hb
  have e1 := h2.length
  have e2 := h4.length
  refine concat_meets ⟨_, h1, rfl⟩ ⟨_, h3, rfl⟩ noFill_list_add seq_list_add PySem.F.slot_list_add PySem.F.entry_list_add (PySem.F.args_list_add_2 _ _) (list_addW a b vs.toArray us.toArray c d none none #[] #[] (by simp; lia)) ⟨h1, h3, ?_⟩
  have e : vs.toArray ++ us.toArray = (vs ++ us).toArray := by simp
  rw [e]
  exact k _ _ s.toks _ (fun b x q => Heap.get?_push_of_some _ q) (Heap.get?_push_size _ rfl) (Nat.le_refl _) (.list (paired_append h2 h4))
noncomputable def rep {α : Type} (k : Nat) (xs : List α) : List α := (List.replicate k xs).flatten
theorem paired_rep {α β : Type} {F : α → β → Prop} {xs : List α} {vs : List β} (h : Paired F xs vs) : ∀ k, Paired F (rep k xs) (rep k vs)
  | 0 => .nil
  | k + 1 => by
    unfold rep; rw [List.replicate_succ, List.replicate_succ, List.flatten_cons, List.flatten_cons]
    exact paired_append h (paired_rep h k)
theorem rep_foldl (k : Nat) (vs : List Value) : List.foldl (fun x1 x2 => x1 ++ x2) #[] (List.replicate (if vs.toArray.isEmpty = true then 0 else k) vs.toArray) = (rep k vs).toArray := by
  have gen : ∀ (k : Nat) (acc : List Value), List.foldl (fun x1 x2 => x1 ++ x2) acc.toArray (List.replicate k vs.toArray) = (acc ++ rep k vs).toArray := by
    intro k
    induction k with
    | zero => intro acc; simp [rep]
    | succ k ih =>
      intro acc
      rw [List.replicate_succ, List.foldl_cons, show acc.toArray ++ vs.toArray = (acc ++ vs).toArray by simp, ih]
      simp [rep, List.replicate_succ]
  by_cases hv : vs = []
  · subst hv
    have : rep k ([] : List Value) = [] := by unfold rep; simp
    rw [this]; simp
  · have : vs.toArray.isEmpty = false := by cases vs with
      | nil => exact absurd rfl hv
      | cons => rfl
    rw [this]
    simpa using gen k []
theorem bin_repeat {a : Addr} {xs : List V} {i : Int} (ha : G.look σ a = some (.list xs)) (hlo : -(2 ^ 63 : Int) ≤ i) (hhi : i < 2 ^ 63) (hsz : xs.length * i.toNat ≤ 2 ^ 24) (h : ∀ r, σ r = none → Q (.ref r) (σ.set r (.list (rep i.toNat xs)))) :
    Bin G n σ .Mult (.ref a) (.int i) Q := by
  intro x y hx hy; obtain rfl := VR.ref_ hx; obtain ⟨_, rfl⟩ := VR.int_ hy
  rename_i u
  refine tr_new (fun A s Φ E _ hS k => ?_) h
  obtain ⟨vs, c, h1, h2⟩ := list_at hS ha
  have e1 := h2.length
  rw [e1] at hsz
  refine wpAny_binaryOp_repeat_ref (T := "list") (U := "int") (by decide) ⟨_, h1, rfl⟩ (fun s' => typeIs_int s' i u) noFill_list_mul F.fills_int_mul F.slot_int_rmul repeat_list F.slot_int_index.lookup
    (call_meets F.slot_int_rmul (typeIs_int s i u) F.entry_int_rmul (F.args_int_rmul_2 _ _) (int___rmul___int_list i u a vs.toArray c)
      ⟨h1, rfl, ⟨_, h1, rfl⟩, call_meets F.slot_list_mul ⟨_, h1, rfl⟩ F.entry_list_mul (F.args_list_mul_2 _ _)
        (AutoListH.list___mul___list_int_3 a vs.toArray c i u (by simp [Builtin.List.listFitsIndex]; lia) (by simp only [List.size_toArray]; generalize vs.length * i.toNat = z at hsz ⊢; lia) (by simp only [Builtin.List.listTooLong, sizeLine, List.size_toArray]; generalize vs.length * i.toNat = z at hsz ⊢; simp; lia))
        ⟨h1, ?_⟩⟩)
  rw [rep_foldl]
  exact k _ _ s.toks _ (fun b x q => Heap.get?_push_of_some _ q) (Heap.get?_push_size _ rfl) (Nat.le_refl _) (.list (paired_rep h2 _))
theorem getm_builtin {o : V} {T : String} {name : Str} {id : String} (pa : PlainAttrs T) (slot : Slot T name id) (hty : typeOf (.builtin id) = pure (.type "method_descriptor"))
    (hT : ∀ s : Shared, Sit G σ s.heap → ∀ x, VR o x → s.TypeIs x T ∧ ∀ a, x = .ref a → ∃ ob, s.heap.get? a = some ob ∧ ob.dict = none) : GetM G σ o name (.blt id) [o] := by
  intro x pl hx
  refine ⟨_, [x], .blt id, .cons hx .nil, fun A s Φ E hS k => ?_⟩
  obtain ⟨h1, h2⟩ := hT s hS x hx
  exact getMethod_builtin h1 pa slot hty h2 k
theorem list_typ {a : Addr} {xs : List V} (ha : G.look σ a = some (.list xs)) : ∀ s : Shared, Sit G σ s.heap → ∀ x, VR (.ref a) x → s.TypeIs x "list" ∧ ∀ b, x = .ref b → ∃ ob, s.heap.get? b = some ob ∧ ob.dict = none := by
  intro s hS x hx; obtain rfl := VR.ref_ hx
  obtain ⟨vs, c, h1, h2⟩ := list_at hS ha
  exact ⟨⟨_, h1, rfl⟩, fun b e => by cases e; exact ⟨_, h1, rfl⟩⟩
theorem getm_append {a : Addr} {xs : List V} (ha : G.look σ a = some (.list xs)) : GetM G σ (.ref a) "append" (.blt "list.append") [.ref a] :=
  getm_builtin F.plainAttrs_list F.slot_list_append F.type_list_append (list_typ ha)
theorem getm_extend {a : Addr} {xs : List V} (ha : G.look σ a = some (.list xs)) : GetM G σ (.ref a) "extend" (.blt "list.extend") [.ref a] :=
  getm_builtin F.plainAttrs_list F.slot_list_extend F.type_list_extend (list_typ ha)
theorem call_append {a : Addr} {xs : List V} {v : V} (ha : σ a = some (.list xs)) (hsz : xs.length ≤ sizeLine) (h : Q .none (σ.set a (.list (xs ++ [v])))) : CallV G n σ (.blt "list.append") [.ref a, v] Q := by
  rintro fv vs hf (_ | ⟨hx, hr⟩)
  obtain rfl := VR.blt_ hf; obtain rfl := VR.ref_ hx
  cases hr with
  | @cons _ y _ _ hy hz =>
  cases hz
  refine .mk fun A s Φ E _ hS _ k => ?_
  obtain ⟨us, c, h1, h2⟩ := list_at hS (Gd.look_of ha)
  refine wpAny_list_append_plain ⟨c, h1⟩ (fun h' hp hs => ?_) (by have := h2.length; rw [List.size_toArray]; lia)
  obtain ⟨c', hp⟩ := hp
  have e : us.toArray.push y = (us ++ [y]).toArray := by simp
  rw [e] at hp
  exact k .none _ h' s.toks _ .none (hS.put ha hp (.list (paired_append h2 (.cons hy .nil))) (keep_but hs)) (Keep.put ha (keep_but hs)) h
theorem call_extend {a b : Addr} {xs ys : List V} (ha : σ a = some (.list xs)) (hb : G.look σ b = some (.list ys)) (hsz : xs.length + ys.length ≤ sizeLine) (h : Q .none (σ.set a (.list (xs ++ ys)))) : CallV G n σ (.blt "list.extend") [.ref a, .ref b] Q := by
  intro fv vs hf hvs; obtain ⟨_, _, rfl, hx, hy⟩ := pr2 hvs
  obtain rfl := VR.blt_ hf; obtain rfl := VR.ref_ hx; obtain rfl := VR.ref_ hy
  refine .mk fun A s Φ E _ hS _ k => ?_
  obtain ⟨us, c, h1, h2⟩ := list_at hS (Gd.look_of ha)
  obtain ⟨ws, d, h3, h4⟩ := list_at hS hb
  have e1 := h2.length
  have e2 := h4.length
  have hsz' : us.toArray.size + ws.toArray.size ≤ sizeLine := by simp; lia
  refine call_meets PySem.F.slot_list_extend ⟨_, h1, rfl⟩ PySem.F.entry_list_extend (PySem.F.args_list_extend_2 _ _) (AutoSeq1.list_extend_list_list_0 a us.toArray c b ws.toArray d (extend_door hsz') (Nat.le_trans (Nat.le_add_right _ _) hsz')) ⟨h1, h3, ?_⟩
  have e : us.toArray ++ ws.toArray = (us ++ ws).toArray := by simp
  have ho' : (s.heap.update a (Obj.mapSeq fun x => x ++ ws.toArray)).get? a = some { cls := .type "list", data := .seq (us ++ ws).toArray (if (us.toArray ++ ws.toArray).size == us.toArray.size then c else c + 1) } := by
    rw [Heap.get?_update_self _ h1 (by rw [mapSeq_app]; rfl), mapSeq_app, e]
  have hs : Heap.SameBut a s.heap (s.heap.update a (Obj.mapSeq fun x => x ++ ws.toArray)) := Heap.SameBut.update ..
  exact k .none _ _ s.toks _ .none (hS.put ha ho' (.list (paired_append h2 h4)) (keep_but hs)) (Keep.put ha (keep_but hs)) h
theorem call_len_list {a : Addr} {xs : List V} (ha : G.look σ a = some (.list xs)) (hsz : xs.length ≤ sizeLine) (h : Q (.int xs.length) σ) : CallV G n σ (.blt "len") [.ref a] Q := by
  intro fv vs hf hvs; obtain ⟨_, rfl, hx⟩ := pr1 hvs
  obtain rfl := VR.blt_ hf; obtain rfl := VR.ref_ hx
  refine .mk fun A s Φ E _ hS _ k => ?_
  obtain ⟨us, c, h1, h2⟩ := list_at hS ha
  have e1 := h2.length
  refine PySem.Calls.call_len_list (items := us.toArray) ⟨_, h1, rfl, c, rfl⟩ (by rw [List.size_toArray]; rw [sizeLine_eq] at hsz; lia) ?_
  have e : (us.toArray.size : Int) = (xs.length : Int) := by rw [List.size_toArray]; lia
  rw [e]
  exact k _ _ s.heap _ σ (.int _ _) hS (Keep.refl _ _) h
theorem call_len_idict {a : Addr} {es : List (Int × V)} {ep : Nat} (ha : σ a = some (.idict es ep)) (hsz : es.length ≤ sizeLine) (h : Q (.int es.length) σ) : CallV G n σ (.blt "len") [.ref a] Q := by
  intro fv vs hf hvs; obtain ⟨_, rfl, hx⟩ := pr1 hvs
  obtain rfl := VR.blt_ hf; obtain rfl := VR.ref_ hx
  refine .mk fun A s Φ E _ hS _ k => ?_
  obtain ⟨kvs, hm, hp⟩ := idict_of hS ha
  refine PySem.call_len_dict (hS.nsm ha) hm.dictOf (by rw [← hp.length]; rw [sizeLine_eq] at hsz; lia) ?_
  rw [← hp.length]
  exact k _ _ s.heap _ σ (.int _ _) hS (Keep.refl _ _) h
theorem call_len_bytes {b : Array UInt8} (hsz : b.size ≤ 1099511627776) (h : Q (.int b.size) σ) : CallV G n σ (.blt "len") [.bytes b] Q := by
  intro fv vs hf hvs; obtain ⟨_, rfl, hx⟩ := pr1 hvs
  obtain rfl := VR.blt_ hf; obtain ⟨_, rfl⟩ := VR.bytes_ hx
  exact tr_val (fun A s Φ E _ _ k => PySem.W.len_bytes hsz (k _ _ (.int _ _))) h
theorem call_list {a : Addr} {xs : List V} (ha : G.look σ a = some (.list xs)) (hsz : xs.length ≤ sizeLine) (h : ∀ r, σ r = none → Q (.ref r) (σ.set r (.list xs))) : CallV G n σ (.typ "list") [.ref a] Q := by
  intro fv vs hf hvs; obtain ⟨_, rfl, hx⟩ := pr1 hvs
  obtain rfl := VR.typ_ hf; obtain rfl := VR.ref_ hx
  refine tr_new (fun A s Φ E _ hS k => ?_) h
  obtain ⟨us, c, h1, h2⟩ := list_at hS ha
  refine call_list_seq a (.inl rfl) h1 rfl rfl (fun h' c' hk ho => ?_) (by have := h2.length; rw [List.size_toArray]; lia)
  exact k _ h' s.toks _ hk ho (Nat.le_refl _) (.list h2)
/-! numbers -/
theorem call_abs {i : Int} (h : Q (.int (if i < 0 then -i else i)) σ) : CallV G n σ (.blt "abs") [.int i] Q := by
  intro fv vs hf hvs; obtain ⟨_, rfl, hx⟩ := pr1 hvs
  obtain rfl := VR.blt_ hf; obtain ⟨_, rfl⟩ := VR.int_ hx
  exact tr_val (fun A s Φ E _ _ k => call_abs_int fun u tk => k _ _ (.int _ _)) h
theorem ints_are : ∀ {ns : List Int} {vs : List Value}, Paired VR (ns.map V.int) vs → IntsAre vs ns
  | [], _, .nil => .nil
  | n :: r, _, .cons h t => by obtain ⟨_, rfl⟩ := VR.int_ h; exact .cons _ _ (ints_are t)
theorem call_range1 {b : Int} (h : ∀ r, σ r = none → Q (.ref r) (σ.set r (.rng 0 b 1))) : CallV G n σ (.typ "range") [.int b] Q := by
  intro fv vs hf hvs; obtain ⟨_, rfl, hx⟩ := pr1 hvs
  obtain rfl := VR.typ_ hf; obtain ⟨_, rfl⟩ := VR.int_ hx
  refine tr_new (fun A s Φ E _ hS k => call_range_1 ?_) h
  exact k _ _ _ _ (fun b x q => Heap.get?_push_of_some _ q) (Heap.get?_push_size _ rfl) (Nat.le_refl _) .rng
theorem call_range2 {a b : Int} (h : ∀ r, σ r = none → Q (.ref r) (σ.set r (.rng a b 1))) : CallV G n σ (.typ "range") [.int a, .int b] Q := by
  intro fv vs hf hvs; obtain ⟨_, _, rfl, hx, hy⟩ := pr2 hvs
  obtain rfl := VR.typ_ hf; obtain ⟨_, rfl⟩ := VR.int_ hx; obtain ⟨_, rfl⟩ := VR.int_ hy
  refine tr_new (fun A s Φ E _ hS k => call_range_2 ?_) h
  exact k _ _ _ _ (fun b x q => Heap.get?_push_of_some _ q) (Heap.get?_push_size _ rfl) (Nat.le_refl _) .rng
theorem call_range3 {a b c : Int} (hc : c ≠ 0) (hs : c.natAbs < 1073741824) (h : ∀ r, σ r = none → Q (.ref r) (σ.set r (.rng a b c))) : CallV G n σ (.typ "range") [.int a, .int b, .int c] Q := by
  intro fv vs hf hvs; obtain ⟨_, _, _, rfl, hx, hy, hz⟩ := pr3 hvs
  obtain rfl := VR.typ_ hf; obtain ⟨_, rfl⟩ := VR.int_ hx; obtain ⟨_, rfl⟩ := VR.int_ hy; obtain ⟨_, rfl⟩ := VR.int_ hz
  refine tr_new (fun A s Φ E _ hS k => call_range_3 hc ?_ (.inl (PyProof.noPylong_small hs))) h
  exact k _ _ _ _ (fun b x q => Heap.get?_push_of_some _ q) (Heap.get?_push_size _ rfl) (Nat.le_refl _) .rng
theorem call_bytes {a : Addr} {ns : List Int} (ha : G.look σ a = some (.list (ns.map V.int))) (hr : ∀ k ∈ ns, 0 ≤ k ∧ k < 256) (hsz : ns.length ≤ sizeLine) (h : Q (.bytes (byteArr ns)) σ) : CallV G n σ (.typ "bytes") [.ref a] Q := by
  intro fv vs hf hvs; obtain ⟨_, rfl, hx⟩ := pr1 hvs
  obtain rfl := VR.typ_ hf; obtain rfl := VR.ref_ hx
  refine .mk fun A s Φ E hA hS _ k => ?_
  obtain ⟨us, c, h1, h2⟩ := list_at hS ha
  have hi := ints_are h2
  refine call_bytes_ints (vs := us) ⟨_, h1, rfl, c, rfl⟩ hi hr (by rw [hi.length]; exact hsz) hA.hd fun h' t tk hk => ?_
  exact k _ _ h' tk σ (.bytes _ _) (hS.grow hk) (Keep.grow hk) h
theorem call_sum {a : Addr} {ns : List Int} (ha : G.look σ a = some (.list (ns.map V.int))) (h : ∀ t, Q (.int t) σ) : CallV G n σ (.blt "sum") [.ref a] Q := by
  intro fv vs hf hvs; obtain ⟨_, rfl, hx⟩ := pr1 hvs
  obtain rfl := VR.blt_ hf; obtain rfl := VR.ref_ hx
  refine .mk fun A s Φ E hA hS _ k => ?_
  obtain ⟨us, c, h1, h2⟩ := list_at hS ha
  have hi := ints_are h2
  obtain ⟨xs, hx⟩ := hi.allInts.items
  have hl : s.heap.IsList a (intItems xs) := ⟨_, h1, rfl, c, by rw [← hx]⟩
  exact sum_intListG hA.hd hl fun h' tk t' hk => k _ _ h' tk σ (.int _ _) (hS.grow hk) (Keep.grow hk) (h _)
end
section
variable {G : Gd} {σ : St} {n : Nat} {env : Env} {lv : Lv} {Q : V → St → Prop}
/-! slices -/
abbrev Ep (G : Gd) (n : Nat) (env : Env) (lv : Lv) (σ : St) (e : Option Expr) (Q : V → St → Prop) : Prop := Run G n (EnvAt G env lv) VR σ (evalPart e env) Q
theorem ep_none (h : Q .none σ) : Ep G n env lv σ none Q := Run.of_eq (evalPart_none env) (Run.pure .none h)
theorem ep_some {e : Expr} (h : Ev G n env lv σ e Q) : Ep G n env lv σ (some e) Q := Run.of_eq (evalPart_some e env) h
noncomputable def SliceV (G : Gd) (n : Nat) (σ : St) (o l u st : V) (Q : V → St → Prop) : Prop := ∀ ox lx ux sx, VR o ox → VR l lx → VR u ux → VR st sx → ∃ T id, typeLookup (.type T) "__getitem__" = pure (some (.builtin id)) ∧
  (∀ s : Shared, Sit G σ s.heap → s.TypeIs ox T) ∧ ∀ sl, Run G n (fun _ h => h.IsSliceOf sl lx ux sx) VR σ (getItem ox (.ref sl)) Q
theorem ev_slice {value : Expr} {lower upper step : Option Expr} {p pos : Pos} (h : Ev G n env lv σ value fun o σ₁ => Ep G n env lv σ₁ lower fun l σ₂ => Ep G n env lv σ₂ upper fun u σ₃ => Ep G n env lv σ₃ step fun st σ₄ => SliceV G n σ₄ o l u st Q)
    (hs : ∀ o i, ∃ ops, subscripted (.Slice lower upper step p) false o i = operate ops (getItem o i) := by intro _ _; with_unfolding_all exact ⟨_, rfl⟩) : Ev G n env lv σ (.Subscript value (.Slice lower upper step p) pos) Q := by
  refine .mk fun A s Φ E hA hS hP k => ?_
  refine Subscript_ (h A s _ E hA hS hP fun ov ox h₁ tk₁ σ₁ hov hS₁ hK₁ hq => wpAny_Slice ?_)
  have hP₁ := stable_env _ _ _ _ _ _ _ hP hK₁
  refine hq A _ _ E hA hS₁ hP₁ fun l lx h₂ tk₂ σ₂ hl hS₂ hK₂ hq => ?_
  have hP₂ := stable_env _ _ _ _ _ _ _ hP₁ hK₂
  refine hq A _ _ E hA hS₂ hP₂ fun u ux h₃ tk₃ σ₃ hu hS₃ hK₃ hq => ?_
  have hP₃ := stable_env _ _ _ _ _ _ _ hP₂ hK₃
  refine hq A _ _ E hA hS₃ hP₃ fun st sx h₄ tk₄ σ₄ hst hS₄ hK₄ hg => ?_
  obtain ⟨T, id, hlk, hT, hg⟩ := hg ox lx ux sx hov hl hu hst
  have hS₅ : Sit G σ₄ (h₄.push { cls := .type "slice", data := .fields #[lx, ux, sx] }) := hS₄.grow fun b o e => Heap.get?_push_of_some _ e
  obtain ⟨ops, e⟩ := hs ox (.ref h₄.objs.size)
  refine tail_any (hT _ hS₅) hlk (hg h₄.objs.size A _ _ E hA hS₅ (Heap.IsSliceOf.new _ _ _ _) fun v x h₆ tk₆ σ₆ hv hS₆ hK₆ hq => ?_) e
  exact k v x h₆ tk₆ σ₆ hv hS₆ (hK₁.trans (hK₂.trans (hK₃.trans (hK₄.trans ((Keep.grow fun b o e => Heap.get?_push_of_some _ e).trans hK₆))))) hq
inductive PartOf : V → Option Int → Prop where
  | none : PartOf .none none
  | int (i : Int) : PartOf (.int i) (some i)
theorem isPart {v : V} {k : Option Int} {x : Value} (h : PartOf v k) (hx : VR v x) : IsPart x k := by
  cases h <;> cases hx
  · exact .none
  · exact .int _ _
noncomputable def vpick (xs : List V) (lo hi st : Option Int) : List V := (sliceRange (sliceBounds lo hi st xs.length).1 (sliceBounds lo hi st xs.length).2.1 (sliceBounds lo hi st xs.length).2.2).filterMap (xs[·]?)
theorem paired_picks {xs : List V} {vs : List Value} (h : Paired VR xs vs) : ∀ l : List Nat, Paired VR (l.filterMap (xs[·]?)) (l.filterMap (vs[·]?))
  | [] => .nil
  | i :: l => by
    have hl := h.length
    rw [List.filterMap_cons, List.filterMap_cons]
    cases hx : xs[i]? with
    | none =>
      have : vs[i]? = none := by rw [List.getElem?_eq_none_iff] at hx ⊢; lia
      rw [this]; exact paired_picks h l
    | some x =>
      obtain ⟨y, hy, hr⟩ := paired_get h hx
      rw [hy]; exact .cons hr (paired_picks h l)
theorem slice_list {a : Addr} {xs : List V} {l u st : V} {lo hi s' : Option Int} (ha : G.look σ a = some (.list xs)) (hl : PartOf l lo) (hu : PartOf u hi) (hs : PartOf st s') (h0 : s' ≠ some 0) (hsz : xs.length ≤ sizeLine)
    (h : ∀ r, σ r = none → Q (.ref r) (σ.set r (.list (vpick xs lo hi s')))) : SliceV G n σ (.ref a) l u st Q := by
  intro ox lx ux sx hox hlx hux hsx; obtain rfl := VR.ref_ hox
  refine ⟨"list", _, slot_list_getitem.lookup, fun s hS => ?_, fun sl => .mk fun A s Φ E hA hS hP k => ?_⟩
  · obtain ⟨vs, hp, _⟩ := list_of hS ha; exact hp.isList.typeIs
  · obtain ⟨vs, c, h1, h2⟩ := list_at hS ha
    have e1 := h2.length
    refine wpAny_getItem_list_slice (items := vs.toArray) ⟨_, h1, rfl, c, rfl⟩ hP (isPart hl hlx) (isPart hu hux) (isPart hs hsx) h0 ?_ (by rw [List.size_toArray]; lia)
    have e : slicePick vs.toArray lo hi s' = ((sliceRange (sliceBounds lo hi s' xs.length).1 (sliceBounds lo hi s' xs.length).2.1 (sliceBounds lo hi s' xs.length).2.2).filterMap (vs[·]?)).toArray := by
      unfold slicePick; rw [List.size_toArray, e1]; simp
    rw [e]
    exact k _ _ _ s.toks _ (.ref _) (hS.alloc (.list (paired_picks h2 _)) rfl) Keep.alloc (h _ hS.fresh)
theorem slice_bytes {b : Array UInt8} {l u : V} {lo hi : Option Int} (hl : PartOf l lo) (hu : PartOf u hi) (hsz : b.size ≤ sizeLine) (h : Q (.bytes (KBy.picked b lo hi)) σ) : SliceV G n σ (.bytes b) l u .none Q := by
  intro ox lx ux sx hox hlx hux hsx; obtain ⟨_, rfl⟩ := VR.bytes_ hox; obtain rfl := VR.none_ hsx
  refine ⟨"bytes", _, FB.slot_bytes_getitem.lookup, fun s _ => typeIs_bytes s _ _, fun sl => .mk fun A s Φ E hA hS hP k => ?_⟩
  exact getItem_meets (typeIs_bytes _ _ _) (by decide) FB.slot_bytes_getitem FB.entry_bytes_getitem (FB.args_bytes_getitem_2 _ _) (KBc.meets_slice2 b _ _ (isPart hl hlx) (isPart hu hux))
    ⟨hP, Nat.le_trans (KBc.size_picked_le b lo hi) hsz, fun t' tk => k _ _ s.heap tk σ (.bytes _ _) hS (Keep.refl _ _) h⟩
theorem vpick_take (xs : List V) (k : Nat) (hk : k ≤ xs.length) : vpick xs none (some (k : Int)) none = xs.take k := by
  have e : sliceBounds none (some (k : Int)) none xs.length = (((0 : Nat) : Int), (k : Int), 1) := by
    simp only [sliceBounds, Option.getD_none]
    have h2 : ¬ ((k : Int) < 0) := by lia
    simp only [h2, if_false, show (1 : Int) > 0 by decide, if_true]
    congr 2
    lia
  unfold vpick
  rw [e, sliceRange_one]
  have := pick_run xs.toArray 0 k
  simpa using this
theorem vpick_take_any (xs : List V) (k : Nat) : vpick xs none (some (k : Int)) none = xs.take k := by
  rcases Nat.le_total k xs.length with h | h
  · exact vpick_take xs k h
  · rw [List.take_of_length_le h]
    have e : sliceBounds none (some (k : Int)) none xs.length = (((0 : Nat) : Int), (xs.length : Int), 1) := by
      simp only [sliceBounds, Option.getD_none]
      have h2 : ¬ ((k : Int) < 0) := by lia
      simp only [h2, if_false, show (1 : Int) > 0 by decide, if_true]
      congr 2
      lia
    unfold vpick
    rw [e, sliceRange_one]
    have := pick_run xs.toArray 0 xs.length
    simpa using this
theorem vpick_rev (xs : List V) : vpick xs none none (some (-1)) = xs.reverse := by
  have e : sliceBounds none none (some (-1)) xs.length = ((xs.length : Int) - 1, -1, -1) := by
    simp [sliceBounds]
  unfold vpick
  rw [e]
  have hr : sliceRange ((xs.length : Int) - 1) (-1) (-1) = (List.range xs.length).map fun k => xs.length - 1 - k := by
    unfold sliceRange
    have h1 : ¬ ((-1 : Int) > 0) := by decide
    simp only [h1, if_false]
    by_cases h0 : (xs.length : Int) - 1 > -1
    · simp only [h0, if_true]
      have e2 : (((xs.length : Int) - 1 - -1 - -1 - 1) / - -1) = (xs.length : Int) := by
        have : ((xs.length : Int) - 1 - -1 - -1 - 1) = (xs.length : Int) := by lia
        rw [this]; simp
      rw [e2]
      apply List.map_congr_left
      intro k hk
      have := List.mem_range.mp hk
      lia
    · have : xs.length = 0 := by lia
      simp [h0, this]
  rw [hr]
  apply List.ext_getElem?
  intro i
  have : ∀ m : Nat, m ≤ xs.length → ((List.range m).map fun k => xs.length - 1 - k).filterMap (xs[·]?) = (xs.reverse.take m) := by
    intro m
    induction m with
    | zero => intro _; simp
    | succ m ih =>
      intro hm
      rw [List.range_succ, List.map_append, List.filterMap_append, ih (by lia), List.take_add_one]
      congr 1
      have hlt : xs.length - 1 - m < xs.length := by lia
      simp [List.getElem?_reverse (show m < xs.length by lia), hlt]
  rw [this xs.length (Nat.le_refl _), List.take_of_length_le (by simp)]
end
/-! instances of the program's classes -/
structure Cls (G : Gd) (C : Addr) : Prop where
  hd : hasDictIn G.K C = true
  over : plainOver G.K C = true
  makes : makesIn G.K C = true
  sa : findIn G.K (.ref C) "__setattr__" = some (some (.builtin "object.__setattr__"))
  ga : plainGet G.K C "__class__" = true
  ca : findIn G.K (.ref C) "__class__" = some (some (.builtin "object.__class__"))
  cn : specialIn G.K (.builtin "object.__class__") "__get__" = some (some (.builtin "getset_descriptor.__get__"))
  ct : takesIn G.K (.builtin "object.__class__") = some true
  cm : mroIn G.K C (.type "object") = some true
section
variable {G : Gd} {σ : St} {n : Nat} {env : Env} {lv : Lv} {Q : V → St → Prop}
theorem Sit.kin {h : Heap} (S : Sit G σ h) : G.K.In h := G.X.keeps S.top
theorem inst_at {h : Heap} {x C d : Addr} {es : List (Str × V)} {ep : Nat} (S : Sit G σ h) (hx : σ x = some (.inst C d)) (hd : σ d = some (.sdict es ep)) :
    ∃ od kvs, InstAt h x { cls := .ref C, dict := some d } C (some od) ∧ h.get? d = some od ∧ IsDictE (strKind G.prog G.w) od kvs ep ∧ Paired KV es kvs := by
  obtain ⟨ob, h1, r1⟩ := S.st x _ hx
  obtain ⟨od, h2, r2⟩ := S.st d _ hd
  cases r1
  cases r2 with
  | sdict hdd hp => exact ⟨od, _, ⟨h1, rfl, rfl, h2⟩, h2, hdd, hp⟩
theorem isStr_is (prog : Program) (w : World) (name : Str) : (fun e : DictEntry => e.key.isStr name) = fun e => (strKind prog w).is name e.key := by
  funext e; cases e.key <;> rfl
theorem refKey_no {prog : Program} {w : World} {es : Array DictEntry} (hk : KeysOf (strKind prog w) es) : es.toList.any (·.refKey) = false := by
  rw [List.any_eq_false]
  intro e he
  obtain ⟨k, h1, h2⟩ := hk e (Array.mem_toList_iff.mp he)
  obtain ⟨t, h3⟩ := Value.isStrOf_shape (x := k) (v := e.key) h1
  unfold DictEntry.refKey
  rw [h3]; simp
theorem look_in {od : Obj} {kvs : List (Str × Value)} {es : List (Str × V)} {ep : Nat} (h : IsDictE (strKind G.prog G.w) od kvs ep) (hp : Paired KV es kvs) (name : Str) : ∃ r, lookIn name od = some r ∧ VO (vat es name) r := by
  obtain ⟨es', _, hd, hk, hpp, _⟩ := h
  have hv := vat_ok hp name
  have hf := hpp.find name
  unfold lookIn
  rw [hd]
  dsimp only
  rw [isStr_is G.prog G.w name]
  cases hq : es'.toList.find? (fun e => (strKind G.prog G.w).is name e.key) with
  | some e => rw [hq] at hf; rw [← hf] at hv; exact ⟨_, rfl, hv⟩
  | none => rw [hq] at hf; rw [← hf] at hv; dsimp only; rw [refKey_no hk]; exact ⟨_, rfl, hv⟩
noncomputable def AttrV (G : Gd) (n : Nat) (σ : St) (o : V) (name : Str) (Q : V → St → Prop) : Prop := ∀ ox, VR o ox → Tr G n σ (getAttr ox name true) Q
theorem ev_attr {value : Expr} {name : Str} {pos : Pos} (h : Ev G n env lv σ value fun o σ₁ => AttrV G n σ₁ o name Q) (hbase : attributeBase value name env (eval value env) = eval value env := by with_unfolding_all rfl) : Ev G n env lv σ (.Attribute value name pos) Q := by
  have e : eval (.Attribute value name pos) env = (do
    let o ← attributeBase value name env (eval value env)
    standAt pos.atName
    let r ← holding [o] (getAttr o name true)
    letTemporaryGo value o r
    pure r) := rfl
  refine Run.of_eq e ?_
  rw [hbase]
  refine Run.bind (stable_env _ _ _) (h.mono fun o σ₁ h₁ x hx => Run.standAt (Run.bind (stable_env _ _ _) (Run.holding (Run.any ((h₁ x hx).mono fun v σ₂ hq y hy => ?_)))))
  exact .mk fun A s Φ E _ hS _ k => wpAny_bind (wpAny_letTemporaryGo (wpAny_pure (k v y s.heap s.toks σ₂ hy hS (Keep.refl _ _) hq)))
theorem attr_inst {x C d : Addr} {es : List (Str × V)} {ep : Nat} {name : Str} {v : V} (hx : σ x = some (.inst C d)) (hd : σ d = some (.sdict es ep)) (hv : vat es name = some v) (hp : v.plain = true) (c : Cls G C) (ha : findIn G.K (.ref C) name = some none) (h : Q v σ) :
    AttrV G n σ (.ref x) name Q := by
  intro ox hox; obtain rfl := VR.ref_ hox
  refine .mk fun A s Φ E _ hS _ k => ?_
  obtain ⟨od, kvs, I, _, hdd, hpp⟩ := inst_at hS hx hd
  obtain ⟨r, h1, h2⟩ := look_in hdd hpp name
  rw [hv] at h2
  cases h2 with
  | some hr =>
    refine get_value hS.kin I (plainGet_of c.ga).1 (findObj_own c.hd ha rfl h1) ?_ (k v _ s.heap _ σ hr hS (Keep.refl _ _) h)
    cases hr <;> first | rfl | cases hp
theorem getm_own {x C d f : Addr} {es : List (Str × V)} {ep : Nat} {name : Str} (hx : σ x = some (.inst C d)) (hd : σ d = some (.sdict es ep)) (hv : vat es name = none) (c : Cls G C) (ha : findIn G.K (.ref C) name = some (some (.ref f)))
    (ht : typeIn G.K (.ref f) = some (.type "function")) : GetM G σ (.ref x) name (.ref f) [.ref x] := by
  intro ox pl hox; obtain rfl := VR.ref_ hox
  refine ⟨_, [.ref x], .ref f, .cons (.ref x) .nil, fun A s Φ E hS k => ?_⟩
  obtain ⟨od, kvs, I, _, hdd, hpp⟩ := inst_at hS hx hd
  obtain ⟨r, h1, h2⟩ := look_in hdd hpp name
  rw [hv] at h2
  cases h2
  exact method_fn hS.kin I (plainGet_of c.ga).1 (plainGet_of c.ga).2 ha ht (by show (lookIn name od).map _ = _; rw [h1]; rfl) k
theorem put_new {prog : Program} {w : World} {od : Obj} {kvs : List (Str × Value)} {ep : Nat} (h : IsDictE (strKind prog w) od kvs ep) {name : Str} (hn : valueAt kvs name = none) (tk : Tok) (y : Value) :
    IsDictE (strKind prog w) (Obj.putName name (PySem.PyData.keyHash w.params name) (.str name tk) y od) (kvs ++ [(name, y)]) (ep + 1) := by
  obtain ⟨es, hc, hd, hk, hp, hnd⟩ := h
  obtain ⟨oc, odd, oda, osl⟩ := od
  dsimp only at hd
  subst hd
  obtain ⟨l⟩ := es
  have hf := hp.find name
  rw [hn] at hf
  have hany : l.any (·.key.isStr name) = false := by
    rw [List.any_eq_false]
    intro e he
    have hf' : l.find? (fun e => (strKind prog w).is name e.key) = none := by simpa using hf
    rw [List.find?_eq_none] at hf'
    have := hf' e he
    have e1 : e.key.isStr name = (strKind prog w).is name e.key := congrFun (isStr_is prog w name) e
    rw [e1]; exact this
  have hidx : l.findIdx? (·.key.isStr name) = none := by
    rw [List.findIdx?_eq_none_iff]
    intro e he
    rw [List.any_eq_false] at hany
    simpa using hany e he
  rw [putName_eq, hany]
  have hput : PySem.putIn (·.key.isStr name) (fun e : DictEntry => { e with val := y }) ⟨PySem.PyData.keyHash w.params name, .str name tk, y⟩ l = l ++ [⟨PySem.PyData.keyHash w.params name, .str name tk, y⟩] := by
    unfold PySem.putIn; rw [hidx]
  rw [hput]
  refine ⟨_, hc, rfl, ?_, hp.append (key := .str name tk) (strKind_is prog w name tk) _ y, ?_⟩
  · have := KeysOf.push hk (strKind_is prog w name tk) y
    rw [show (strKind prog w).hash name = PySem.PyData.keyHash w.params name from rfl] at this
    simpa using this
  · rw [List.map_append, List.nodup_append]
    refine ⟨hnd, by simp, ?_⟩
    intro a ha b hb
    simp only [List.map_cons, List.map_nil, List.mem_singleton] at hb
    subst hb
    intro e; subst e
    obtain ⟨p, hp1, hp2⟩ := List.mem_map.mp ha
    have : (kvs.find? fun kv => decide (kv.1 = p.1)) ≠ none := by
      rw [Ne, List.find?_eq_none]; intro hall; exact absurd (by simp) (hall p hp1)
    rw [← hp2] at hn
    unfold valueAt at hn
    rw [Option.map_eq_none_iff] at hn
    exact this hn
theorem vat_snoc {K : Type} [DecidableEq K] {es : List (K × V)} {k : K} {v : V} (h : vat es k = none) : vset es k v = es ++ [(k, v)] := by
  have : ∀ {es : List (K × V)}, vat es k = none → es.any (fun kv => decide (kv.1 = k)) = false := by
    intro es
    induction es with
    | nil => intro _; rfl
    | cons p r ih =>
      intro h
      obtain ⟨k', u⟩ := p
      unfold vat at h
      split at h
      · cases h
      · rename_i hk; simp only [List.any_cons, hk, decide_false, Bool.false_or]; exact ih h
  unfold vset
  rw [this h]; simp
theorem setA_new {x C d : Addr} {es : List (Str × V)} {ep : Nat} {name : Str} {v : V} {P : St → Prop} (hx : σ x = some (.inst C d)) (hd : σ d = some (.sdict es ep)) (hv : vat es name = none) (hz : es.length ≤ 1000) (c : Cls G C) (ht : takerIn G.K C name = some none)
    (h : ∀ ep', P (σ.set d (.sdict (es ++ [(name, v)]) ep'))) : SetA G n σ (.ref x) name v P := by
  intro ox y hox hy; obtain rfl := VR.ref_ hox
  refine .mk fun A s Φ E _ hS _ k => ?_
  obtain ⟨od, kvs, I, hod, hdd, hpp⟩ := inst_at hS hx hd
  have hvn : valueAt kvs name = none := by
    have := vat_ok hpp name; rw [hv] at this; generalize valueAt kvs name = q at this; cases this; rfl
  refine set_plain hS.kin I c.sa ?_
  refine osa_open (s := { s with toks := s.toks + 1 }) hS.kin I c.over ht fun b => ?_
  have hx1 := I.at_
  obtain ⟨cd, hc, hdict⟩ := any_some c.hd
  have hlk := looks_clsIn (M := model G.prog G.w) hS.kin hc
  refine wpAny_bind (wpAny_pure (wpAny_bind (wpAny_bind (wpAny_loadPart hx1 (wpAny_bind (Looks.here (s := { s with toks := s.toks + 1 }) hlk ?_))))))
  rw [hdict]
  refine wpAny_pure (a := some d) (wpAny_bind (wpAny_pure (wpAny_bind ?_)))
  unfold nsSet
  refine wpAny_bind (wpAny_bind (wpAny_askSetting (wpAny_pure (wpAny_bind (wpAny_mkText (wpAny_bind (wpAny_loadPart hod ?_)))))))
  have hput := put_new (w := G.w) hdd hvn (s.toks + 1) y
  obtain ⟨es', hc', hdat, hk, hp', hnd⟩ := hdd
  rw [hdat]
  dsimp only
  rw [aRefKeyMayBeTheName_at, show es'.any (·.refKey) = false by rw [← Array.any_toList]; exact refKey_no hk, Bool.and_false]
  refine wpAny_updatePart hod ?_
  have hfr : (Obj.putName name (PySem.PyData.keyHash G.w.params name) (.str name (s.toks + 1)) y od).isFreed = false := by
    obtain ⟨e2, _, h2, _⟩ := hput; exact Obj.isFreed_of_dict h2
  have hupd : (s.heap.update d (Obj.putName name (PySem.PyData.keyHash G.w.params name) (.str name (s.toks + 1)) y)).get? d = some (Obj.putName name (PySem.PyData.keyHash G.w.params name) (.str name (s.toks + 1)) y od) := Heap.get?_update_self _ hod hfr
  have hsame : Heap.SameBut d s.heap (s.heap.update d (Obj.putName name (PySem.PyData.keyHash G.w.params name) (.str name (s.toks + 1)) y)) := Heap.SameBut.update ..
  refine wpAny_bind (wpAny_lookBehind hupd ?_ ?_)
  · obtain ⟨e2, _, h2, _, hp2, _⟩ := hput
    rw [h2]
    refine pastItsLine_dict ?_
    have e3 := hp2.length
    have e4 := hpp.length
    rw [Array.length_toList, List.length_append, List.length_singleton] at e3
    rw [sizeLine_eq]; lia
  · exact wpAny_pure (k () () _ _ _ trivial (hS.put hd hupd (.sdict hput (paired_append hpp (.cons ⟨rfl, hy⟩ .nil))) (keep_but hsame)) (Keep.put hd (keep_but hsame)) (h _))
/-! a class called -/
theorem tc_weight (C : Addr) (rest : List Value) (kw : List (Str × Value)) : (Code.builtin "type.__call__" ⟨.ref C :: rest, kw⟩).weight = 1 := by kernel_rfl
theorem tc_units (C : Addr) (rest : List Value) (kw : List (Str × Value)) : (Code.builtin "type.__call__" ⟨.ref C :: rest, kw⟩).cUnits = 1 := by kernel_rfl
theorem room_under {A : Around} {C : Addr} {rest : List Value} (h : Room A (n + 1)) : Room (A.under (.builtin "type.__call__" ⟨.ref C :: rest, []⟩)) n := by
  refine ⟨h.hd, ?_, ?_⟩
  · have := h.dp; show A.depth + Code.weight _ + n < _; rw [tc_weight]; lia
  · have := h.un; show A.units + Code.cUnits _ + 20 * n < _; rw [tc_units]; lia
theorem call_class {C f : Addr} {args : List V} (c : Cls G C) (hi : findIn G.K (.ref C) "__init__" = some (some (.ref f))) (ht : typeIn G.K (.ref f) = some (.type "function"))
    (h : ∀ D X, σ D = none → σ X = none → D ≠ X → CodeV G n ((σ.set D (.sdict [] 0)).set X (.inst C D)) (.ref f) (.ref X :: args) fun v σ' => v = .none ∧ Q (.ref X) σ') : CallV G (n + 1) σ (.ref C) args Q := by
  intro fv vs hf hvs; refine .mk fun A s Φ E hA hS _ k => ?_
  obtain rfl := VR.ref_ hf
  refine wpAny_call ?_
  obtain ⟨hh, g, d, t, os⟩ := s
  refine make_core (makes_of hS.kin c.makes) (looks_findIn hS.kin hi) (fun self => bind_fn hS.kin self ht) (.inl rfl) ?_
  dsimp only at hS
  have hS₁ : Sit G (σ.set hh.objs.size (.sdict [] 0)) (hh.push emptyDict) := by
    refine hS.alloc (.sdict (kvs := []) ⟨#[], ⟨rfl, rfl, rfl⟩, rfl, fun _ he => by simp at he, Pairs.nil, List.nodup_nil⟩ .nil) rfl
  have hS₂ := hS₁.alloc (o := .inst C hh.objs.size) (ob := instObj C hh.objs.size) .inst rfl
  rw [Heap.size_push] at hS₂
  have k1 : Keep σ ((σ.set hh.objs.size (.sdict [] 0)).set (hh.objs.size + 1) (.inst C hh.objs.size)) hh ((hh.push emptyDict).push (instObj C hh.objs.size)) := by
    have a : Keep σ (σ.set hh.objs.size (.sdict [] 0)) hh (hh.push emptyDict) := Keep.alloc
    have b : Keep (σ.set hh.objs.size (.sdict [] 0)) ((σ.set hh.objs.size (.sdict [] 0)).set (hh.push emptyDict).objs.size (.inst C hh.objs.size)) (hh.push emptyDict) ((hh.push emptyDict).push (instObj C hh.objs.size)) := Keep.alloc
    rw [Heap.size_push] at b
    exact a.trans b
  refine h hh.objs.size (hh.objs.size + 1) hS.fresh (hS.noneOf (get_none_of_size (Nat.le_succ _))) (Nat.ne_of_lt (Nat.lt_succ_self _)) _ _ (.ref f) (.cons (.ref _) hvs) _ ⟨_, g, d, t, os⟩ _ (room_under hA) hS₂ fun v x h' tk σ' hv hS' hK hq => ?_
  obtain ⟨rfl, hq⟩ := hq
  obtain rfl := VR.none_ hv
  exact ⟨rfl, k (.ref _) (.ref _) h' tk σ' (.ref _) hS' (k1.trans hK) hq⟩
end
section
variable {G : Gd} {σ : St} {n : Nat} {env : Env} {lv : Lv} {Q : V → St → Prop}
theorem pair2 {a b : V} {vs : List Value} (h : Paired VR [a, b] vs) : ∃ x y, vs = [x, y] ∧ VR a x ∧ VR b y := by
  cases h with
  | cons hx h => cases h with
    | cons hy h => cases h; exact ⟨_, _, rfl, hx, hy⟩
theorem pair3 {a b c : V} {vs : List Value} (h : Paired VR [a, b, c] vs) : ∃ x y z, vs = [x, y, z] ∧ VR a x ∧ VR b y ∧ VR c z := by
  cases h with
  | cons hx h => obtain ⟨y, z, rfl, hy, hz⟩ := pair2 h; exact ⟨_, _, _, rfl, hx, hy, hz⟩
/-! isinstance -/
theorem dict_head {h : Heap} {a : Addr} (S : Sit G σ h) (ha : (∃ es ep, σ a = some (.sdict es ep)) ∨ (∃ es ep, σ a = some (.idict es ep))) : ∃ o, h.get? a = some o ∧ o.cls = .type "dict" ∧ o.dict = none := by
  rcases ha with ⟨es, ep, ha⟩ | ⟨es, ep, ha⟩
  · obtain ⟨kvs, hm, _⟩ := sdict_of S ha; obtain ⟨o, _, ho, hc, _⟩ := hm; exact ⟨o, ho, hc.1, hc.2.1⟩
  · obtain ⟨kvs, hm, _⟩ := idict_of S ha; obtain ⟨o, _, ho, hc, _⟩ := hm; exact ⟨o, ho, hc.1, hc.2.1⟩
theorem isi_own {x C d : Addr} (hx : σ x = some (.inst C d)) (h : Q (.bool true) σ) : CallV G n σ (.blt "isinstance") [.ref x, .ref C] Q := by
  intro fv vs hf hvs
  obtain ⟨_, _, rfl, h1, h2⟩ := pair2 hvs
  obtain rfl := VR.blt_ hf; obtain rfl := VR.ref_ h1; obtain rfl := VR.ref_ h2
  refine .mk fun A s Φ E _ hS _ k => ?_
  obtain ⟨ob, ho, r⟩ := hS.st x _ hx
  cases r
  exact isi_call (t := .ref C) hS.kin (fun M => (Looks.ld (part := none) ho).andThen .now) (by unfold isIn; simp) (fun e => by cases e) (k (.bool true) _ s.heap s.toks σ (.bool _) hS (Keep.refl _ _) h)
theorem isi_notC {x C D d : Addr} {es : List (Str × V)} {ep : Nat} (hx : σ x = some (.inst D d)) (hd : σ d = some (.sdict es ep)) (c : Cls G D) (e : kin_not G.K D C = true) (h : Q (.bool false) σ) : CallV G n σ (.blt "isinstance") [.ref x, .ref C] Q := by
  intro fv vs hf hvs
  obtain ⟨_, _, rfl, h1, h2⟩ := pair2 hvs
  obtain rfl := VR.blt_ hf; obtain rfl := VR.ref_ h1; obtain rfl := VR.ref_ h2
  refine .mk fun A s Φ E _ hS _ k => ?_
  obtain ⟨od, kvs, I, _, _, _⟩ := inst_at hS hx hd
  exact kin_callC hS.kin I e c.ga c.hd c.ca c.cn c.ct c.cm (k (.bool false) _ s.heap _ σ (.bool _) hS (Keep.refl _ _) h)
theorem isi_notT {x D d : Addr} {T : String} {es : List (Str × V)} {ep : Nat} (hx : σ x = some (.inst D d)) (hd : σ d = some (.sdict es ep)) (c : Cls G D) (e : kin_notT G.K D T = true) (ht : typeOf (.type T) = pure (.type "type")) (h : Q (.bool false) σ) :
    CallV G n σ (.blt "isinstance") [.ref x, .typ T] Q := by
  intro fv vs hf hvs
  obtain ⟨_, _, rfl, h1, h2⟩ := pair2 hvs
  obtain rfl := VR.blt_ hf; obtain rfl := VR.ref_ h1; obtain rfl := VR.typ_ h2
  refine .mk fun A s Φ E _ hS _ k => ?_
  obtain ⟨od, kvs, I, _, _, _⟩ := inst_at hS hx hd
  exact kin_callT hS.kin I e ht c.ga c.hd c.ca c.cn c.ct c.cm (k (.bool false) _ s.heap _ σ (.bool _) hS (Keep.refl _ _) h)
/-- what is no instance of a class of the program -/
noncomputable def Foreign (G : Gd) (σ : St) (C : Addr) (v : V) : Prop := match v with
  | .none => isNotIn G.K "NoneType" C = true
  | .int _ => isNotIn G.K "int" C = true
  | .str _ => isNotIn G.K "str" C = true
  | .ref a => ((∃ xs, G.look σ a = some (.list xs)) ∧ isNotIn G.K "list" C = true) ∨ (((∃ es ep, σ a = some (.sdict es ep)) ∨ (∃ es ep, σ a = some (.idict es ep))) ∧ isNotIn G.K "dict" C = true)
  | _ => False
theorem isi_foreign {C : Addr} {v : V} (hv : Foreign G σ C v) (h : Q (.bool false) σ) : CallV G n σ (.blt "isinstance") [v, .ref C] Q := by
  intro fv vs hf hvs
  obtain ⟨_, _, rfl, h1, h2⟩ := pair2 hvs
  obtain rfl := VR.blt_ hf; obtain rfl := VR.ref_ h2
  refine .mk fun A s Φ E _ hS _ k => ?_
  have kk : ∀ tk, Φ (.bool false) { s with toks := tk } := fun tk => k (.bool false) _ s.heap tk σ (.bool _) hS (Keep.refl _ _) h
  cases h1 with
  | none => exact isn_call (P := fun _ => True) hS.kin (fun M => Looks.of_pure rfl) hv (fun e => by cases e) trivial none_cls (kk _)
  | int => exact isn_call (P := fun _ => True) hS.kin (fun M => Looks.of_pure rfl) hv (fun e => by cases e) trivial int_cls (kk _)
  | str => exact isn_call (P := fun _ => True) hS.kin (fun M => Looks.of_pure rfl) hv (fun e => by cases e) trivial str_cls (kk _)
  | ref a =>
    rcases hv with ⟨⟨xs, hl⟩, hn⟩ | ⟨hd, hn⟩
    · obtain ⟨us, c, h1, _⟩ := list_at hS hl
      exact isn_call (P := fun h => ∃ o, h.get? a = some o ∧ o.cls = .type "list") hS.kin (fun M => (Looks.ld (part := none) h1).andThen .now) hn (fun e => by cases e) ⟨_, h1, rfl⟩ list_cls (kk _)
    · obtain ⟨o, ho, hc, _⟩ := dict_head hS hd
      exact isn_call (P := fun h => ∃ o, h.get? a = some o ∧ o.cls = .type "dict") hS.kin (fun M => hc ▸ (Looks.ld (part := none) ho).andThen .now) hn (fun e => by cases e) ⟨_, ho, hc⟩ dict_cls (kk _)
  | _ => exact hv.elim
theorem isi_list_list {a : Addr} {xs : List V} (ha : G.look σ a = some (.list xs)) (h : Q (.bool true) σ) : CallV G n σ (.blt "isinstance") [.ref a, .typ "list"] Q := by
  intro fv vs hf hvs
  obtain ⟨_, _, rfl, h1, h2⟩ := pair2 hvs
  obtain rfl := VR.blt_ hf; obtain rfl := VR.ref_ h1; obtain rfl := VR.typ_ h2
  refine .mk fun A s Φ E _ hS _ k => ?_
  obtain ⟨us, c, h1, _⟩ := list_at hS ha
  exact IsiPair.list_list h1 rfl (k (.bool true) _ s.heap s.toks σ (.bool _) hS (Keep.refl _ _) h)
theorem isi_dict_list {a : Addr} {es : List (Str × V)} {ep : Nat} (ha : σ a = some (.sdict es ep)) (h : Q (.bool false) σ) : CallV G n σ (.blt "isinstance") [.ref a, .typ "list"] Q := by
  intro fv vs hf hvs
  obtain ⟨_, _, rfl, h1, h2⟩ := pair2 hvs
  obtain rfl := VR.blt_ hf; obtain rfl := VR.ref_ h1; obtain rfl := VR.typ_ h2
  refine .mk fun A s Φ E _ hS _ k => ?_
  obtain ⟨o, ho, hc, _⟩ := dict_head hS (.inl ⟨_, _, ha⟩)
  exact IsiPair.dict_list ho hc (k (.bool false) _ s.heap _ σ (.bool _) hS (Keep.refl _ _) h)
theorem isi_dict_dict {a : Addr} {es : List (Str × V)} {ep : Nat} (ha : σ a = some (.sdict es ep)) (h : Q (.bool true) σ) : CallV G n σ (.blt "isinstance") [.ref a, .typ "dict"] Q := by
  intro fv vs hf hvs
  obtain ⟨_, _, rfl, h1, h2⟩ := pair2 hvs
  obtain rfl := VR.blt_ hf; obtain rfl := VR.ref_ h1; obtain rfl := VR.typ_ h2
  refine .mk fun A s Φ E _ hS _ k => ?_
  obtain ⟨o, ho, hc, _⟩ := dict_head hS (.inl ⟨_, _, ha⟩)
  exact IsiPair.dict_dict ho hc (k (.bool true) _ s.heap s.toks σ (.bool _) hS (Keep.refl _ _) h)
/-! dict methods -/
theorem dict_typ {a : Addr} (ha : (∃ es ep, σ a = some (.sdict es ep)) ∨ (∃ es ep, σ a = some (.idict es ep))) : ∀ s : Shared, Sit G σ s.heap → ∀ x, VR (.ref a) x → s.TypeIs x "dict" ∧ ∀ b, x = .ref b → ∃ ob, s.heap.get? b = some ob ∧ ob.dict = none := by
  intro s hS x hx; obtain rfl := VR.ref_ hx
  obtain ⟨o, ho, hc, hn⟩ := dict_head hS ha
  exact ⟨⟨_, ho, hc⟩, fun b e => by cases e; exact ⟨_, ho, hn⟩⟩
theorem getm_get {a : Addr} (ha : (∃ es ep, σ a = some (.sdict es ep)) ∨ (∃ es ep, σ a = some (.idict es ep))) : GetM G σ (.ref a) "get" (.blt "dict.get") [.ref a] :=
  getm_builtin F.plainAttrs_dict F.slot_dict_get F.type_dict_get (dict_typ ha)
theorem vo_getD {v : Option V} {x : Option Value} {d : V} {y : Value} (h : VO v x) (hd : VR d y) : VR (v.getD d) (x.getD y) := by
  cases h with
  | none => exact hd
  | some h => exact h
theorem call_get1 {a : Addr} {es : List (Str × V)} {ep : Nat} {x : Str} (ha : σ a = some (.sdict es ep)) (h : Q ((vat es x).getD .none) σ) : CallV G n σ (.blt "dict.get") [.ref a, .str x] Q := by
  intro fv vs hf hvs
  obtain ⟨_, _, rfl, h1, h2⟩ := pair2 hvs
  obtain rfl := VR.blt_ hf; obtain rfl := VR.ref_ h1; obtain ⟨_, rfl⟩ := VR.str_ h2
  refine .mk fun A s Φ E _ hS _ k => ?_
  obtain ⟨kvs, hm, hp⟩ := sdict_of hS ha
  exact call_meetsIn F.slot_dict_get hm.dictOf.typeIs F.entry_dict_get (F.args_dict_get_2 _ _) (meets_dict_get (strKind G.prog G.w) a (strKind_is _ _ _ _) (hS.nsm ha))
    ⟨_, hm.dictOf.mapOf, k _ _ s.heap _ σ (vo_getD (vat_ok hp x) .none) hS (Keep.refl _ _) h⟩
theorem call_get2 {a : Addr} {es : List (Str × V)} {ep : Nat} {x : Str} {d : V} (ha : σ a = some (.sdict es ep)) (h : Q ((vat es x).getD d) σ) : CallV G n σ (.blt "dict.get") [.ref a, .str x, d] Q := by
  intro fv vs hf hvs
  obtain ⟨_, _, _, rfl, h1, h2, h3⟩ := pair3 hvs
  obtain rfl := VR.blt_ hf; obtain rfl := VR.ref_ h1; obtain ⟨_, rfl⟩ := VR.str_ h2
  refine .mk fun A s Φ E _ hS _ k => ?_
  obtain ⟨kvs, hm, hp⟩ := sdict_of hS ha
  exact call_meetsIn F.slot_dict_get hm.dictOf.typeIs F.entry_dict_get (F.args_dict_get_3 _ _ _) (meets_dict_get_default (strKind G.prog G.w) a (strKind_is _ _ _ _) (hS.nsm ha) _)
    ⟨_, hm.dictOf.mapOf, k _ _ s.heap _ σ (vo_getD (vat_ok hp x) h3) hS (Keep.refl _ _) h⟩
theorem call_iget2 {a : Addr} {es : List (Int × V)} {ep : Nat} {x : Int} {d : V} (ha : σ a = some (.idict es ep)) (h : Q ((vat es x).getD d) σ) : CallV G n σ (.blt "dict.get") [.ref a, .int x, d] Q := by
  intro fv vs hf hvs
  obtain ⟨_, _, _, rfl, h1, h2, h3⟩ := pair3 hvs
  obtain rfl := VR.blt_ hf; obtain rfl := VR.ref_ h1; obtain ⟨_, rfl⟩ := VR.int_ h2
  refine .mk fun A s Φ E _ hS _ k => ?_
  obtain ⟨kvs, hm, hp⟩ := idict_of hS ha
  exact call_meetsIn F.slot_dict_get hm.dictOf.typeIs F.entry_dict_get (F.args_dict_get_3 _ _ _) (meets_dict_get_default (intKind G.prog G.w) a (intKind_is _ _ _ _) (hS.nsm ha) _)
    ⟨_, hm.dictOf.mapOf, k _ _ s.heap _ σ (vo_getD (vat_ok hp x) h3) hS (Keep.refl _ _) h⟩
theorem call_dict_copy {a : Addr} {es : List (Str × V)} {ep : Nat} (ha : σ a = some (.sdict es ep)) (hsz : es.length ≤ sizeLine) (h : ∀ r ep', σ r = none → Q (.ref r) (σ.set r (.sdict es ep'))) : CallV G n σ (.typ "dict") [.ref a] Q := by
  intro fv vs hf hvs; obtain ⟨_, rfl, hx⟩ := pr1 hvs
  obtain rfl := VR.typ_ hf; obtain rfl := VR.ref_ hx
  refine .mk fun A s Φ E _ hS _ k => ?_
  obtain ⟨kvs, hm, hp⟩ := sdict_of hS ha
  refine kt_call_dict (hS.nsm ha) hm.dictOf (by rw [← hp.length]; exact hsz) fun h' hd hs => ?_
  obtain ⟨ep', o, es', ho, h1, h2, h3, h4, h5⟩ := hd.dictAt
  have hk : ∀ b x, s.heap.get? b = some x → h'.get? b = some x := fun b x e => (hs.2 b (Nat.ne_of_lt (Heap.lt_size e))).trans (Heap.get?_push_of_some _ e)
  refine k (.ref _) _ h' s.toks (σ.set s.heap.objs.size (.sdict es ep')) (.ref _) ((hS.grow hk).add ho (.sdict ⟨es', h1, h2, h3, h4, h5⟩ hp) hS.hTfresh (Nat.ne_of_gt hS.big)) (fun b x e nn => ⟨hk b x e, ?_⟩) (h _ _ hS.fresh)
  rw [St.set_ne _ _ (Nat.ne_of_lt (Heap.lt_size e))]; exact nn
/-! dict displays -/
theorem ev_dict0 {pos : Pos} (h : ∀ r, σ r = none → Q (.ref r) (σ.set r (.sdict [] 0))) : Ev G n env lv σ (.Dict [] [] pos) Q :=
  .mk fun _ s _ _ _ hS _ k => wpAny_Dict_empty (k (.ref _) _ _ s.toks _ (.ref _) (hS.alloc (.sdict (kvs := []) ⟨#[], ⟨rfl, rfl, rfl⟩, rfl, fun _ he => by simp at he, Pairs.nil, List.nodup_nil⟩ .nil) rfl) Keep.alloc (h _ hS.fresh))
noncomputable def PV (a : V × V) (b : Value × Value) : Prop := VR a.1 b.1 ∧ VR a.2 b.2
abbrev Prs (G : Gd) (n : Nat) (env : Env) (lv : Lv) (pos : Pos) (σ : St) (ps : List (Expr × Expr)) (Q : List (V × V) → St → Prop) : Prop :=
  Run G n (EnvAt G env lv) (Paired PV) σ (evalPairs (ps.map fun p => (eval p.1 env, do let x ← eval p.2 env; standAt pos; pure x))) Q
theorem prs_nil {pos : Pos} {Q : List (V × V) → St → Prop} (h : Q [] σ) : Prs G n env lv pos σ [] Q := Run.pure .nil h
theorem prs_cons {pos : Pos} {a b : Expr} {ps : List (Expr × Expr)} {Q : List (V × V) → St → Prop} (h : Ev G n env lv σ a fun k σ₁ => Ev G n env lv σ₁ b fun v σ₂ => Prs G n env lv pos σ₂ ps fun r σ₃ => Q ((k, v) :: r) σ₃) : Prs G n env lv pos σ ((a, b) :: ps) Q := by
  refine .mk fun A s Φ E hA hS hP k => ?_
  refine evalPairs_cons (h A s _ E hA hS hP fun kv kx h₁ tk₁ σ₁ hkv hS₁ hK₁ hq => ?_)
  have hP₁ := stable_env _ _ _ _ _ _ _ hP hK₁
  refine wpAny_bind (hq A _ _ E hA hS₁ hP₁ fun vv vx h₂ tk₂ σ₂ hvv hS₂ hK₂ hq => wpAny_bind (wpAny_standAt (wpAny_pure ?_)))
  refine hq A _ _ E hA hS₂ (stable_env _ _ _ _ _ _ _ hP₁ hK₂) fun r rx h₃ tk₃ σ₃ hr hS₃ hK₃ hq => ?_
  exact k _ _ h₃ tk₃ σ₃ (.cons ⟨hkv, hvv⟩ hr) hS₃ (hK₁.trans (hK₂.trans hK₃)) hq
noncomputable def vmerge {K : Type} [DecidableEq K] (es : List (K × V)) : List (K × V) → List (K × V)
  | [] => es
  | (k, v) :: r => vmerge (vset es k v) r
theorem vmerge_ok {K : Type} [DecidableEq K] {more : List (K × V)} {m : List (K × Value)} {es : List (K × V)} {kvs : List (K × Value)} (h : Paired KV es kvs) (hm : Paired KV more m) : Paired KV (vmerge es more) (merged kvs m) := by
  refine kv_ind (P := fun more m => ∀ {es : List (K × V)} {kvs : List (K × Value)}, Paired KV es kvs → Paired KV (vmerge es more) (merged kvs m)) hm (fun h => by simpa [vmerge, merged] using h) (fun k v y r s hv hr ih es kvs h => ?_) h
  have := ih (vset_ok h (k := k) hv)
  simpa [vmerge, merged] using this
theorem carries_str {prog : Program} {w : World} : ∀ {ps : List (Str × V)} {xs : List (Value × Value)}, Paired PV (ps.map fun p => (.str p.1, p.2)) xs → ∃ kvs, Carries (strKind prog w) xs kvs ∧ Paired KV ps kvs
  | [], _, .nil => ⟨[], trivial, .nil⟩
  | (k, v) :: r, _, .cons (b := b) hb hr => by
    obtain ⟨kx, vx⟩ := b
    obtain ⟨h1, h2⟩ := hb
    dsimp only at h1 h2
    obtain ⟨_, rfl⟩ := VR.str_ h1
    obtain ⟨kvs, c1, c2⟩ := carries_str (prog := prog) (w := w) hr
    exact ⟨(k, vx) :: kvs, ⟨strKind_is _ _ _ _, rfl, c1⟩, .cons ⟨rfl, h2⟩ c2⟩
theorem carries_int {prog : Program} {w : World} : ∀ {ps : List (Int × V)} {xs : List (Value × Value)}, Paired PV (ps.map fun p => (.int p.1, p.2)) xs → ∃ kvs, Carries (intKind prog w) xs kvs ∧ Paired KV ps kvs
  | [], _, .nil => ⟨[], trivial, .nil⟩
  | (k, v) :: r, _, .cons (b := b) hb hr => by
    obtain ⟨kx, vx⟩ := b
    obtain ⟨h1, h2⟩ := hb
    dsimp only at h1 h2
    obtain ⟨_, rfl⟩ := VR.int_ h1
    obtain ⟨kvs, c1, c2⟩ := carries_int (prog := prog) (w := w) hr
    exact ⟨(k, vx) :: kvs, ⟨intKind_is _ _ _ _, rfl, c1⟩, .cons ⟨rfl, h2⟩ c2⟩
theorem ev_sdict {keys : List (Option Expr)} {values : List Expr} {pos : Pos} {ps : List (Expr × Expr)}
    (h : ∀ d, σ d = none → Prs G n env lv pos (σ.set d (.sdict [] 0)) ps fun r σ₁ => ∃ es, r = es.map (fun p => (V.str p.1, p.2)) ∧ σ₁ d = some (.sdict [] 0) ∧ ∀ ep, Q (.ref d) (σ₁.set d (.sdict (vmerge [] es) ep)))
    (h0 : ps ≠ []) (hlen : ps.length ≤ 15)
    (hshape : (evalEachOpt keys env).zip ((evalEach values env).map fun v => do let x ← v; standAt pos; pure x) = (ps.map fun p => (eval p.1 env, do let x ← eval p.2 env; standAt pos; pure x)).map fun p => (some p.1, p.2) := by rfl) :
    Ev G n env lv σ (.Dict keys values pos) Q := by
  refine .mk fun A s Φ E hA hS hP k => ?_
  refine wpAny_Dict_pairs (knd := strKind G.prog G.w) hshape (by simpa using h0) (by rw [List.length_map]; exact hlen) ?_
  have hS₁ : Sit G (σ.set s.heap.objs.size (.sdict [] 0)) (s.heap.push { cls := .type "dict", data := .dict #[] }) := hS.alloc (.sdict (kvs := []) ⟨#[], ⟨rfl, rfl, rfl⟩, rfl, fun _ he => by simp at he, Pairs.nil, List.nodup_nil⟩ .nil) rfl
  have hK₁ : Keep σ (σ.set s.heap.objs.size (.sdict [] 0)) s.heap (s.heap.push { cls := .type "dict", data := .dict #[] }) := Keep.alloc
  refine h _ hS.fresh A _ _ E hA hS₁ (stable_env _ _ _ _ _ _ _ hP hK₁) fun r rx h₂ tk₂ σ₂ hr hS₂ hK₂ hq => ?_
  obtain ⟨es, rfl, hd, hq⟩ := hq
  obtain ⟨kvs, c1, c2⟩ := carries_str (prog := G.prog) (w := G.w) hr
  obtain ⟨kv0, hm, hp0⟩ := sdict_of hS₂ hd
  cases hp0
  refine ⟨kvs, c1, hm.dictOf, fun h' hdo hs => ?_⟩
  obtain ⟨ep', o, es', ho, h1, h2, h3, h4, h5⟩ := hdo.dictAt
  refine k (.ref _) _ h' _ _ (.ref _) (hS₂.put hd ho (.sdict ⟨es', h1, h2, h3, h4, h5⟩ (vmerge_ok .nil c2)) (keep_but hs)) (hK₁.trans (hK₂.trans (Keep.put hd (keep_but hs)))) (hq ep')
theorem ev_idict {keys : List (Option Expr)} {values : List Expr} {pos : Pos} {ps : List (Expr × Expr)}
    (h : ∀ d, σ d = none → Prs G n env lv pos (σ.set d (.idict [] 0)) ps fun r σ₁ => ∃ es, r = es.map (fun p => (V.int p.1, p.2)) ∧ σ₁ d = some (.idict [] 0) ∧ ∀ ep, Q (.ref d) (σ₁.set d (.idict (vmerge [] es) ep)))
    (h0 : ps ≠ []) (hlen : ps.length ≤ 15)
    (hshape : (evalEachOpt keys env).zip ((evalEach values env).map fun v => do let x ← v; standAt pos; pure x) = (ps.map fun p => (eval p.1 env, do let x ← eval p.2 env; standAt pos; pure x)).map fun p => (some p.1, p.2) := by rfl) :
    Ev G n env lv σ (.Dict keys values pos) Q := by
  refine .mk fun A s Φ E hA hS hP k => ?_
  refine wpAny_Dict_pairs (knd := intKind G.prog G.w) hshape (by simpa using h0) (by rw [List.length_map]; exact hlen) ?_
  have hS₁ : Sit G (σ.set s.heap.objs.size (.idict [] 0)) (s.heap.push { cls := .type "dict", data := .dict #[] }) := hS.alloc (.idict (kvs := []) ⟨#[], ⟨rfl, rfl, rfl⟩, rfl, fun _ he => by simp at he, Pairs.nil, List.nodup_nil⟩ .nil) rfl
  have hK₁ : Keep σ (σ.set s.heap.objs.size (.idict [] 0)) s.heap (s.heap.push { cls := .type "dict", data := .dict #[] }) := Keep.alloc
  refine h _ hS.fresh A _ _ E hA hS₁ (stable_env _ _ _ _ _ _ _ hP hK₁) fun r rx h₂ tk₂ σ₂ hr hS₂ hK₂ hq => ?_
  obtain ⟨es, rfl, hd, hq⟩ := hq
  obtain ⟨kvs, c1, c2⟩ := carries_int (prog := G.prog) (w := G.w) hr
  obtain ⟨kv0, hm, hp0⟩ := idict_of hS₂ hd
  cases hp0
  refine ⟨kvs, c1, hm.dictOf, fun h' hdo hs => ?_⟩
  obtain ⟨ep', o, es', ho, h1, h2, h3, h4, h5⟩ := hdo.dictAt
  refine k (.ref _) _ h' _ _ (.ref _) (hS₂.put hd ho (.idict ⟨es', h1, h2, h3, h4, h5⟩ (vmerge_ok .nil c2)) (keep_but hs)) (hK₁.trans (hK₂.trans (Keep.put hd (keep_but hs)))) (hq ep')
end
/-! enumerate over bytes -/
section
variable {prog : Program} {w : World} {A : Around} {E : Value → Shared → Prop} {s : Shared} {b : Array UInt8} {t : Tok}
theorem nextOf_item {it : Addr} {i : Nat} {c : UInt8} {Q : Value → Shared → Prop} (hit : KBw.IsBytesIter s.heap it b t i) (hx : b[i]? = some c)
    (hQ : ∀ h', KBw.IsBytesIter h' it b t (i + 1) → Heap.SameBut it s.heap h' → Q (.int (c.toNat : Int) s.toks) { s with heap := h', toks := s.toks + 1 }) : wpAny (model prog w) A (Builtin.SmallTypes.nextOf (.ref it)) Q E s := by
  obtain ⟨o, ho, hc, hd⟩ := id hit
  unfold Builtin.SmallTypes.nextOf
  refine wpAny_bind (wpAny_callSpecial?_slot (name := Str.ofString "__next__") (KBw.iter_typeIs hit) KBw.slot_next
    (wpAny_call_entry KBw.slot_next (KBw.iter_typeIs hit) KBw.entry_next ?_ (KBw.args_next _)))
  show wpAny _ _ (field (.ref it) 0 >>= _) _ _ s
  refine wpAny_bind (wpAny_field ho hd (x := .bytes b t) rfl ?_)
  show wpAny _ _ (if (Value.bytes b t == Value.none) = true then _ else _) _ _ s
  rw [if_neg (show ¬ ((Value.bytes b t == Value.none) = true) from Bool.false_ne_true)]
  show wpAny _ _ (field (.ref it) 1 >>= _) _ _ s
  refine wpAny_bind (wpAny_field ho hd (x := .int i 0) rfl ?_)
  refine wpAny_bind (wpAny_of_eq (a := b) rfl ?_)
  simp only [Int.toNat_natCast, hx]
  refine wpAny_bind (wpAny_setField ho hd (by simp) (wpAny_bind (wpAny_mkInt (wpAny_pure ⟨_, rfl, wpAny_pure (hQ _ ?_ (Heap.SameBut.update ..))⟩))))
  exact ⟨_, Heap.get?_update_self _ ho (Obj.isFreed_of_fields (Obj.data_mapFields hd _)), (Obj.cls_mapFields ..).trans hc, by
    rw [Obj.data_mapFields hd]; simp [rawInt]⟩
theorem nextOf_end {it : Addr} {i : Nat} {Q : Value → Shared → Prop} (hh : A.handled = none) (hit : KBw.IsBytesIter s.heap it b t i) (hx : b[i]? = none)
    (hE : ∀ h' e, Heap.ExtBut it s.heap h' → (∃ o, h'.get? e = some o ∧ o.cls = .type "StopIteration") → E (.ref e) { s with heap := h' }) : wpAny (model prog w) A (Builtin.SmallTypes.nextOf (.ref it)) Q E s := by
  obtain ⟨o, ho, hc, hd⟩ := id hit
  unfold Builtin.SmallTypes.nextOf
  refine wpAny_bind (wpAny_callSpecial?_slot (name := Str.ofString "__next__") (KBw.iter_typeIs hit) KBw.slot_next
    (wpAny_call_entry KBw.slot_next (KBw.iter_typeIs hit) KBw.entry_next ?_ (KBw.args_next _)))
  show wpAny _ _ (field (.ref it) 0 >>= _) _ _ s
  refine wpAny_bind (wpAny_field ho hd (x := .bytes b t) rfl ?_)
  show wpAny _ _ (if (Value.bytes b t == Value.none) = true then _ else _) _ _ s
  rw [if_neg (show ¬ ((Value.bytes b t == Value.none) = true) from Bool.false_ne_true)]
  show wpAny _ _ (field (.ref it) 1 >>= _) _ _ s
  refine wpAny_bind (wpAny_field ho hd (x := .int i 0) rfl ?_)
  refine wpAny_bind (wpAny_of_eq (a := b) rfl ?_)
  simp only [Int.toNat_natCast, hx]
  refine wpAny_bind (wpAny_rule (wpAny_bind (wpAny_setField ho hd (by simp) ?_)))
  show wpAny _ _ (newExc (.type "StopIteration") [] >>= _) _ _ _
  refine wpAny_bind ?_
  simp only [newExc, newTuple]
  refine wpAny_bind (wpAny_newObj_type ?_ (by size_fits))
  refine wpAny_bind (m := firstArgMember _ _) (wpAny_of_eq (a := Value.none) (by first | rfl | (simp only [firstArgMember]; rfl)) ?_)
  refine wpAny_newObj_type ?_ (by size_fits)
  simp only [raiseNew]
  refine wpAny_bind (wpAny_handled ?_)
  first | rw [show A.in1.handled = none from hh] | rw [hh]
  refine wpAny_bind (wpAny_pure (wpAny_throw ?_))
  exact hE _ _ (((Heap.SameBut.update ..).extBut.push _).push _) ⟨_, Heap.get?_push_size _ rfl, rfl⟩
end
theorem draws_bytes {prog : Program} {w : World} {A : Around} (hh : A.handled = none) (it : Addr) (b : Array UInt8) (t : Tok) :
    Draws prog w A it [it] b.size (fun i v => ∃ c u, b[i]? = some c ∧ v = .int (c.toNat : Int) u) (fun i h => KBw.IsBytesIter h it b t i) where
  live := fun _ _ st => let ⟨o, ho, _⟩ := st; ⟨o, ho⟩
  frame := fun _ _ _ st hk => let ⟨o, ho, r⟩ := st; ⟨o, hk it (by simp) o ho, r⟩
  item := fun i s Q E hi st hQ => by
    refine nextOf_item st (c := b[i]) (by simp [hi]) fun h' hit' hs' => ?_
    exact hQ _ h' (s.toks + 1) ⟨_, _, by simp [hi], rfl⟩ hit' hs'
  done := fun s Q E st hE => nextOf_end hh st (by simp) hE
theorem wpAny_called {M : Model} {A : Around} {E : Value → Shared → Prop} {s : Shared} {cls : Value} {Q : Bool → Shared → Prop} (h : ∀ b, Q b s) : wpAny M A (Builtin.SmallTypes.calledThroughType cls) Q E s :=
  wpAny_bind (wpAny_stack_any fun _ => wpAny_pure (h _))
set_option maxHeartbeats 1000000 in
theorem meets_enumerate_bytes (b : Array UInt8) (t : Tok) :
    Meets (Builtin.«enumerate.__new__» ⟨[.type "enumerate", .bytes b t], []⟩) (fun _ R s =>
      R (.ok (.ret (.ref (s.heap.push { cls := .type "bytes_iterator", data := .fields #[.bytes b t, .int 0 0] }).objs.size)))
        { s with heap := (s.heap.push { cls := .type "bytes_iterator", data := .fields #[.bytes b t, .int 0 0] }).push { cls := .type "enumerate", data := .fields #[.none, .bool false, .ref s.heap.objs.size, rawInt 0, .none, .none] } }) :=
  .of_wp fun prog w A R s h => by
    obtain ⟨hp, g, d, tk, os⟩ := s
    have hsub := sub_enumerate
    wp_walk using wpAny_called
    intro b0
    cases b0
    · wp_walk using KBw.pyIter_bytes
      exact ⟨_, rfl, h⟩
    · wp_walk using KBw.pyIter_bytes
      exact ⟨_, rfl, h⟩
noncomputable def St.del (σ : St) (a : Addr) : St := fun b => if b = a then none else σ b
theorem St.del_ne (σ : St) {a b : Addr} (h : b ≠ a) : (σ.del a) b = σ b := by simp [St.del, h]
section
variable {G : Gd} {σ : St} {n : Nat} {env : Env} {lv : Lv}
theorem call_enumerate {b : Array UInt8} {Q : V → St → Prop} (h : ∀ it e, σ it = none → σ e = none → it ≠ e → Q (.ref e) ((σ.set it (.bit b 0)).set e (.enm it 0))) : CallV G n σ (.typ "enumerate") [.bytes b] Q := by
  intro fv vs hf hvs; obtain ⟨_, rfl, hx⟩ := pr1 hvs
  obtain rfl := VR.typ_ hf; obtain ⟨_, rfl⟩ := VR.bytes_ hx
  rename_i t
  refine .mk fun A s Φ E _ hS _ k => ?_
  refine callType_new F.called_enumerate (by decide) (F.typeCall_enumerate_1 _) (F.newCall_enumerate_1 _) (fun obj => F.args_object_init_2 obj _) F.entry_enumerate_new (meets_enumerate_bytes b t) ?_
  have hS₁ : Sit G (σ.set s.heap.objs.size (.bit b 0)) (s.heap.push { cls := .type "bytes_iterator", data := .fields #[.bytes b t, .int 0 0] }) := hS.alloc (.bit rfl rfl) rfl
  have hK₁ : Keep σ (σ.set s.heap.objs.size (.bit b 0)) s.heap (s.heap.push { cls := .type "bytes_iterator", data := .fields #[.bytes b t, .int 0 0] }) := Keep.alloc
  have hS₂ := hS₁.alloc (o := .enm s.heap.objs.size 0) (ob := { cls := .type "enumerate", data := .fields #[.none, .bool false, .ref s.heap.objs.size, rawInt 0, .none, .none] }) .enm rfl
  have hK₂ := hK₁.trans (Keep.alloc (o := .enm s.heap.objs.size 0) (ob := { cls := .type "enumerate", data := .fields #[.none, .bool false, .ref s.heap.objs.size, rawInt 0, .none, .none] }))
  rw [Heap.size_push] at hS₂ hK₂
  have hg := Heap.get?_push_size (s.heap.push { cls := .type "bytes_iterator", data := .fields #[.bytes b t, .int 0 0] }) (o := { cls := .type "enumerate", data := .fields #[.none, .bool false, .ref s.heap.objs.size, rawInt 0, .none, .none] }) rfl
  rw [Heap.size_push] at hg
  show _ ∧ _
  rw [Heap.size_push]
  refine ⟨⟨_, hg, rfl⟩, k (.ref _) _ _ s.toks _ (.ref _) hS₂ hK₂ (h _ _ hS.fresh (hS.noneOf (get_none_of_size (Nat.le_succ _))) (Nat.ne_of_lt (Nat.lt_succ_self _)))⟩
theorem enum_sit {σ₂ : St} {h₂ h₄ : Heap} {e it : Addr} {b : Array UInt8} {i : Nat} {c : UInt8} {oe : Obj} (hS₂ : Sit G σ₂ h₂) (he : σ₂ e = some (.enm it i)) (hit : σ₂ it = some (.bit b i)) (hne : e ≠ it)
    (keepB : ∀ b' o, b' ≠ e → b' ≠ it → h₂.get? b' = some o → h₄.get? b' = some o) {ot : Obj} (ht : h₄.get? h₂.objs.size = some ot) (rt : OR G.prog G.w (.tuple [.int i, .int (c.toNat : Int)]) ot)
    (ho : h₄.get? e = some oe) (re : OR G.prog G.w (.enm it (i + 1)) oe) {oj : Obj} (hj : h₄.get? it = some oj) (rj : OR G.prog G.w (.bit b (i + 1)) oj) :
    Sit G (((σ₂.set it (.bit b (i + 1))).set e (.enm it (i + 1))).set h₂.objs.size (.tuple [.int i, .int (c.toNat : Int)])) h₄ ∧ Keep σ₂ (((σ₂.set it (.bit b (i + 1))).set e (.enm it (i + 1))).set h₂.objs.size (.tuple [.int i, .int (c.toNat : Int)])) h₂ h₄ := by
  have hT : ∀ a x y, σ₂ a = some x → G.hT.get? a ≠ some y := fun a x y q z => by rw [hS₂.off a y z] at q; cases q
  have nx : ∀ b' o a x, σ₂ a = some x → G.hT.get? b' = some o → b' ≠ a := fun b' o a x q z w => hT a x o q (by rw [← w]; exact z)
  have ny : ∀ b' a x, σ₂ a = some x → σ₂ b' = none → b' ≠ a := fun b' a x q z w => by rw [w, q] at z; cases z
  refine ⟨⟨fun b' o q => keepB b' o (nx _ _ _ _ he q) (nx _ _ _ _ hit q) (hS₂.top b' o q), fun b' o q => ?_, fun a o q => ?_, ?_⟩, fun b' o q nn => ?_⟩
  · have h3 : b' ≠ h₂.objs.size := fun z => by rw [z, hS₂.hTfresh] at q; cases q
    rw [St.set_ne _ _ h3, St.set_ne _ _ (nx _ _ _ _ he q), St.set_ne _ _ (nx _ _ _ _ hit q)]; exact hS₂.off b' o q
  · by_cases h3 : a = h₂.objs.size
    · rw [h3, St.set_same] at q; cases q
      exact ⟨_, by rw [h3]; exact ht, rt⟩
    · rw [St.set_ne _ _ h3] at q
      by_cases h1 : a = e
      · rw [h1, St.set_same] at q; cases q; exact ⟨_, by rw [h1]; exact ho, re⟩
      · rw [St.set_ne _ _ h1] at q
        by_cases h2 : a = it
        · rw [h2, St.set_same] at q; cases q
          exact ⟨_, by rw [h2]; exact hj, rj⟩
        · rw [St.set_ne _ _ h2] at q
          obtain ⟨ob, h5, h6⟩ := hS₂.st a o q
          exact ⟨ob, keepB a ob h1 h2 h5, h6⟩
  · rw [St.set_ne _ _ (Nat.ne_of_lt hS₂.big), St.set_ne _ _ (ny _ _ _ he hS₂.sm), St.set_ne _ _ (ny _ _ _ hit hS₂.sm)]; exact hS₂.sm
  · have h1 := ny _ _ _ he nn
    have h2 := ny _ _ _ hit nn
    exact ⟨keepB b' o h1 h2 q, by rw [St.set_ne _ _ (Nat.ne_of_lt (Heap.lt_size q)), St.set_ne _ _ h1, St.set_ne _ _ h2]; exact nn⟩
theorem del_sit {σ₂ : St} {h₂ h₃ : Heap} {it : Addr} {x : O} (hS₂ : Sit G σ₂ h₂) (hit : σ₂ it = some x) (hx : ∀ b o, b ≠ it → h₂.get? b = some o → h₃.get? b = some o) : Sit G (σ₂.del it) h₃ ∧ Keep σ₂ (σ₂.del it) h₂ h₃ := by
  have ny : ∀ b', σ₂ b' = none → b' ≠ it := fun b' z w => by rw [w, hit] at z; cases z
  refine ⟨⟨fun b' o q => hx b' o (ny _ (hS₂.off b' o q)) (hS₂.top b' o q), fun b' o q => ?_, fun a o q => ?_, ?_⟩, fun b' o q nn => ⟨hx b' o (ny _ nn) q, by rw [St.del_ne _ (ny _ nn)]; exact nn⟩⟩
  · rw [St.del_ne _ (ny _ (hS₂.off b' o q))]; exact hS₂.off b' o q
  · unfold St.del at q
    split at q
    · cases q
    · rename_i h2
      obtain ⟨ob, h5, h6⟩ := hS₂.st a o q
      exact ⟨ob, hx a ob h2 h5, h6⟩
  · rw [St.del_ne _ (ny _ hS₂.sm)]; exact hS₂.sm
inductive EnumJ (G : Gd) (e : Addr) (it : Addr) (b : Array UInt8) (s : Shared) (env : Env) (σ₁ : St) (h₁ : Heap) (J : Nat → Lv → St → Prop) (m : Nat) (s' : Shared) : Prop where
  | mk (i : Nat) (lv₂ : Lv) (σ₂ : St) (h' : Heap) (tk : Nat) (h0 : m = b.size + 1 - i) (h1 : i ≤ b.size) (h2 : s' = { s with heap := h', toks := tk }) (h3 : Sit G σ₂ h') (h4 : EnvAt G env lv₂ σ₂ h') (h5 : KeepC env.locals σ₁ σ₂ h₁ h') (h6 : σ₂ e = some (.enm it i)) (h7 : σ₂ it = some (.bit b i)) (h8 : J i lv₂ σ₂) : EnumJ G e it b s env σ₁ h₁ J m s'
theorem ex_for_enum {elts : List Expr} {kd : Nat} {tp : Pos} {iter : Expr} {body orelse : List Stmt} {pos : Pos} {Q : Fl → Lv → St → Prop}
    (h : Ev G n env lv σ iter fun v σ₁ => ∃ e it, ∃ b : Array UInt8, ∃ J : Nat → Lv → St → Prop, v = .ref e ∧ e ≠ it ∧ σ₁ e = some (.enm it 0) ∧ σ₁ it = some (.bit b 0) ∧ J 0 lv σ₁ ∧ ∀ i lv₂ σ₂, J i lv₂ σ₂ → σ₂ e = some (.enm it i) → σ₂ it = some (.bit b i) → i ≤ b.size →
      (∀ c, b[i]? = some c → ∀ a, σ₂ a = none → a ≠ e → a ≠ it → Tgt G n env lv₂ (((σ₂.set it (.bit b (i + 1))).set e (.enm it (i + 1))).set a (.tuple [.int i, .int (c.toNat : Int)])) (.Tuple elts kd tp) (.ref a) fun lv₄ σ₄ =>
        Ex G n env lv₄ σ₄ (execs body env) (LoopQ (fun lv₅ σ₅ => σ₅ e = some (.enm it (i + 1)) ∧ σ₅ it = some (.bit b (i + 1)) ∧ J (i + 1) lv₅ σ₅) Q)) ∧
      (i = b.size → Ex G n env lv₂ (σ₂.del it) (execs orelse env) Q))
    (hs : ∀ x, foldedSetIterable iter env x = pure x := by intro _; rfl) :
    Ex G n env lv σ (exec (.For (.Tuple elts kd tp) iter body orelse pos) env) Q := by
  refine .mk fun A s Φ E hA hS hP k => ?_
  refine wpAny_For (h A s _ _ hA hS hP fun v x h₁ tk₁ σ₁ hv hS₁ hK₁ hq => ?_) hs
  obtain ⟨e, it, b, J, rfl, hne, he0, hit0, hJ, hturn⟩ := hq
  obtain rfl := VR.ref_ hv
  have hP₁ := stable_env _ _ _ _ _ _ _ hP hK₁
  have hE0 : ∃ old, IsEnum h₁ e it (0 : Nat) old := by
    obtain ⟨ob, ho, r⟩ := hS₁.st e _ he0
    cases r; exact ⟨_, ho⟩
  obtain ⟨old0, hE0⟩ := hE0
  refine wpAny_pyIter_enum (s := { s with heap := h₁, toks := tk₁ }) hE0 ?_
  have k₁ : ∀ f x h' tk σ' lv', FR f x → Sit G σ' h' → EnvAt G env lv' σ' h' → KeepC env.locals σ₁ σ' h₁ h' → Q f lv' σ' → Φ x { s with heap := h', toks := tk } :=
    fun f x h' tk σ' lv' hr hS' hP' hK' hq' => k f x h' tk σ' lv' hr hS' hP' (hK₁.toC.trans hK') hq'
  refine codeAny_forLoop_any (EnumJ G e it b s env σ₁ h₁ J) ?_ (b.size + 1)
    ⟨0, lv, σ₁, h₁, tk₁, rfl, Nat.zero_le _, rfl, hS₁, hP₁, fun b o _ e n => ⟨e, n⟩, he0, hit0, hJ⟩
  rintro m s' ⟨i, lv₂, σ₂, h₂, tk₂, rfl, hi, rfl, hS₂, hP₂, hK₂, he, hit, hj⟩
  obtain ⟨hbody, hend⟩ := hturn i lv₂ σ₂ hj he hit hi
  obtain ⟨oe, hoe, re⟩ := hS₂.st e _ he
  obtain ⟨oi, hoi, ri⟩ := hS₂.st it _ hit
  obtain ⟨old, rfl⟩ := re.enm_
  obtain ⟨t, hc, hd⟩ := ri.bit_
  have hIt : KBw.IsBytesIter h₂ it b t i := ⟨oi, hoi, hc, hd⟩
  have heL : e ≠ env.locals := fun q => by have := hP₂.off; rw [← q, he] at this; cases this
  have hiL : it ≠ env.locals := fun q => by have := hP₂.off; rw [← q, hit] at this; cases this
  have D := draws_bytes (prog := G.prog) (w := G.w) (A := A.in1) hA.hd it b t
  by_cases hlt : i < b.size
  · refine wpAny_pyNext_enum_itemD (s := { s with heap := h₂, toks := tk₂ }) D hoe hIt hlt hne (by simpa using hne) fun x h₃ tk₃ hx heo hit₃ ht hz hk => ?_
    obtain ⟨c, u, hbc, rfl⟩ := hx
    refine wpAny_letOwnedTupleGo_enum (s := { s with heap := h₃, toks := tk₃ + 1 }) heo fun h₄ he₄ hs₄ => ?_
    dsimp only at hs₄ he₄ hk ht hz
    have ha : σ₂ h₂.objs.size = none := hS₂.fresh
    have hel : e < h₂.objs.size := Heap.lt_size hoe
    have hil : it < h₂.objs.size := Heap.lt_size hoi
    have keepB : ∀ b' o, b' ≠ e → b' ≠ it → h₂.get? b' = some o → h₄.get? b' = some o := fun b' o h1 h2 h3 => (hs₄.2 b' h1).trans (hk b' o h1 h2 h3)
    obtain ⟨oj, hoj, hcj, hdj⟩ := hit₃
    obtain ⟨S₄, K₄⟩ := enum_sit (c := c) hS₂ he hit hne keepB ((hs₄.2 _ (Nat.ne_of_gt hel)).trans ht) (.tuple (.cons (.int _ _) (.cons (.int _ _) .nil))) he₄ (by exact_mod_cast OR.enm) ((hs₄.2 _ (Ne.symm hne)).trans hoj) (.bit hcj hdj)
    have P₄ := stable_env _ _ _ _ _ _ _ hP₂ K₄
    refine hbody c hbc _ ha (Nat.ne_of_gt hel) (Nat.ne_of_gt hil) (.ref _) (.ref _) A _ _ _ hA S₄ P₄ fun _ _ h₅ tk₅ σ₅ lv₅ _ hS₅ hE₅ hK₅ hex => ?_
    refine hex A _ _ _ hA hS₅ hE₅ fun f y h₆ tk₆ σ₆ lv₆ hr hS₆ hE₆ hK₆ hq => ?_
    have hKK : KeepC env.locals σ₁ σ₆ h₁ h₆ := (hK₂.trans K₄.toC).trans (hK₅.trans hK₆)
    have next : (σ₆ e = some (.enm it (i + 1)) ∧ σ₆ it = some (.bit b (i + 1)) ∧ J (i + 1) lv₆ σ₆) → ∃ m, m < b.size + 1 - i ∧ EnumJ G e it b s env σ₁ h₁ J m ({ s with heap := h₆, toks := tk₆ } : Shared) :=
      fun hj => ⟨b.size + 1 - (i + 1), by omega, i + 1, lv₆, σ₆, h₆, tk₆, rfl, hlt, rfl, hS₆, hE₆, hKK, hj.1, hj.2.1, hj.2.2⟩
    cases hr with
    | next => exact next hq
    | cont => exact next hq
    | brk => exact k₁ .next .next h₆ tk₆ σ₆ lv₆ .next hS₆ hE₆ hKK hq
    | ret hv => exact k₁ (.ret _) (.ret _) h₆ tk₆ σ₆ lv₆ (.ret hv) hS₆ hE₆ hKK hq
  · have hib : i = b.size := by omega
    subst hib
    refine wpAny_pyNext_enum_endD (s := { s with heap := h₂, toks := tk₂ }) D hoe hIt fun h₃ hx => ?_
    dsimp only at hx
    obtain ⟨S₃, K₃⟩ := del_sit hS₂ hit hx
    refine hend rfl A _ _ _ hA S₃ (stable_env _ _ _ _ _ _ _ hP₂ K₃) fun f y h₆ tk₆ σ₆ lv₆ hr hS₆ hE₆ hK₆ hq => k₁ f y h₆ tk₆ σ₆ lv₆ hr hS₆ hE₆ ((hK₂.trans K₃.toC).trans hK₆) hq
end
section
open PySem.SeqAt PyProof.V PySem.Spec
section
variable {G : Gd} {σ : St} {n : Nat} {env : Env} {lv : Lv} {Q : V → St → Prop}
/-! lists compared -/
theorem hu_of {A : Around} (h : Room A n) : A.units < cLine := by have := h.un; lia
theorem cmp_eq_len {a b : Addr} {xs ys : List V} (ha : G.look σ a = some (.list xs)) (hb : G.look σ b = some (.list ys)) (hl : xs.length ≠ ys.length) (h : Q (.bool false) σ) : Cmp G n σ .Eq (.ref a) (.ref b) Q := by
  intro x y hx hy; obtain rfl := VR.ref_ hx; obtain rfl := VR.ref_ hy
  refine .mk fun A s Φ E hA hS _ k => ?_
  obtain ⟨vs, c, h1, h2⟩ := list_at hS ha
  obtain ⟨us, d, h3, h4⟩ := list_at hS hb
  have e1 := h2.length
  have e2 := h4.length
  exact eq_list_lengthsAt (items := vs.toArray) (items2 := us.toArray) ⟨_, h1, rfl, c, rfl⟩ ⟨_, h3, rfl, d, rfl⟩ (by rw [bne_iff_ne, List.size_toArray, List.size_toArray]; lia) (hu_of hA) (k _ _ s.heap s.toks σ (.bool _) hS (Keep.refl _ _) h)
theorem cmp_ne_len {a b : Addr} {xs ys : List V} (ha : G.look σ a = some (.list xs)) (hb : G.look σ b = some (.list ys)) (hl : xs.length ≠ ys.length) (h : Q (.bool true) σ) : Cmp G n σ .NotEq (.ref a) (.ref b) Q := by
  intro x y hx hy; obtain rfl := VR.ref_ hx; obtain rfl := VR.ref_ hy
  refine .mk fun A s Φ E hA hS _ k => ?_
  obtain ⟨vs, c, h1, h2⟩ := list_at hS ha
  obtain ⟨us, d, h3, h4⟩ := list_at hS hb
  have e1 := h2.length
  have e2 := h4.length
  exact RcNeAt.lists_lengths (items := vs.toArray) (items2 := us.toArray) ⟨_, h1, rfl, c, rfl⟩ ⟨_, h3, rfl, d, rfl⟩ (by rw [bne_iff_ne, List.size_toArray, List.size_toArray]; lia) (hu_of hA) _ _ _ _ (k _ _ s.heap s.toks σ (.bool _) hS (Keep.refl _ _) h)
/-- flat values -/
noncomputable def flatEq : V → V → Option Bool
  | .none, .none => some true
  | .int a, .int b => some (decide (a = b))
  | .str a, .str b => some (decide (a = b))
  | _, _ => none
theorem flat_eqAt {A : Around} {s : Shared} {u v : V} {x y : Value} {r : Bool} (h : flatEq u v = some r) (hx : VR u x) (hy : VR v y) : EqAt A s x y r := by
  unfold flatEq at h
  split at h
  · obtain rfl := VR.none_ hx; obtain rfl := VR.none_ hy; cases h
    exact EqAt.same _
  · obtain ⟨_, rfl⟩ := VR.int_ hx; obtain ⟨_, rfl⟩ := VR.int_ hy; cases h
    rename_i a b t u
    exact keq_flat (A := A) (s := s) (Flat.int a t) (Flat.int b u)
  · obtain ⟨_, rfl⟩ := VR.str_ hx; obtain ⟨_, rfl⟩ := VR.str_ hy; cases h
    rename_i a b t u
    exact keq_flat (A := A) (s := s) (Flat.str a t) (Flat.str b u)
  · cases h
theorem all_range_eq {α : Type} [DecidableEq α] {xs ys : List α} (hl : xs.length = ys.length) : ((List.range xs.length).all fun j => decide (xs[j]? = ys[j]?)) = decide (xs = ys) := by
  rw [Bool.eq_iff_iff, List.all_eq_true, decide_eq_true_eq]
  constructor
  · intro h
    apply List.ext_getElem?
    intro j
    by_cases hj : j < xs.length
    · exact of_decide_eq_true (h j (List.mem_range.mpr hj))
    · rw [List.getElem?_eq_none (by lia), List.getElem?_eq_none (by lia)]
  · rintro rfl j _; simp
theorem paired_at {xs : List V} {vs : List Value} (h : Paired VR xs vs) {j : Nat} (h1 : j < vs.length) : ∃ x, xs[j]? = some x ∧ VR x vs[j] := by
  have hl := h.length
  have hx : xs[j]? = some (xs[j]'(by lia)) := List.getElem?_eq_getElem _
  obtain ⟨y, hy, hr⟩ := paired_get h hx
  rw [List.getElem?_eq_getElem h1] at hy
  cases hy
  exact ⟨_, hx, hr⟩
theorem map_eqAt {α : Type} [DecidableEq α] {f : α → V} (hf : ∀ x y, flatEq (f x) (f y) = some (decide (x = y))) {A : Around} {s : Shared} {xs ys : List α} {vs us : List Value} (h2 : Paired VR (xs.map f) vs) (h4 : Paired VR (ys.map f) us) :
    ∀ j (h1 : j < vs.toArray.size) (h2 : j < us.toArray.size), EqAt A s vs.toArray[j] us.toArray[j] (decide (xs[j]? = ys[j]?)) := by
  intro j hj hj'
  rw [List.size_toArray] at hj hj'
  obtain ⟨x, hx, rx⟩ := paired_at h2 hj
  obtain ⟨y, hy, ry⟩ := paired_at h4 hj'
  rw [List.getElem?_map] at hx hy
  obtain ⟨p, hp, rfl⟩ := Option.map_eq_some_iff.mp hx
  obtain ⟨q, hq, rfl⟩ := Option.map_eq_some_iff.mp hy
  have := flat_eqAt (A := A) (s := s) (hf p q) rx ry
  rw [hp, hq]
  simpa using this
theorem cmp_eq_map {α : Type} [DecidableEq α] {f : α → V} (hf : ∀ x y, flatEq (f x) (f y) = some (decide (x = y))) {a b : Addr} {xs ys : List α} (ha : G.look σ a = some (.list (xs.map f))) (hb : G.look σ b = some (.list (ys.map f)))
    (h : Q (.bool (decide (xs = ys))) σ) : Cmp G n σ .Eq (.ref a) (.ref b) Q := by
  by_cases hl : xs.length = ys.length
  · intro x y hx hy; obtain rfl := VR.ref_ hx; obtain rfl := VR.ref_ hy
    refine .mk fun A s Φ E hA hS _ k => ?_
    obtain ⟨vs, c, h1, h2⟩ := list_at hS ha
    obtain ⟨us, d, h3, h4⟩ := list_at hS hb
    have e1 := h2.length
    have e2 := h4.length
    rw [List.length_map] at e1 e2
    refine eq_listAt (items := vs.toArray) (items2 := us.toArray) ⟨_, h1, rfl, c, rfl⟩ ⟨_, h3, rfl, d, rfl⟩ (by rw [List.size_toArray, List.size_toArray]; lia) (hu_of hA) (map_eqAt hf h2 h4) ?_
    rw [List.size_toArray, ← e1, all_range_eq hl]
    exact k _ _ s.heap s.toks σ (.bool _) hS (Keep.refl _ _) h
  · have : decide (xs = ys) = false := decide_eq_false fun e => hl (by rw [e])
    rw [this] at h
    exact cmp_eq_len ha hb (by rw [List.length_map, List.length_map]; exact hl) h
theorem cmp_ne_map {α : Type} [DecidableEq α] {f : α → V} (hf : ∀ x y, flatEq (f x) (f y) = some (decide (x = y))) {a b : Addr} {xs ys : List α} (ha : G.look σ a = some (.list (xs.map f))) (hb : G.look σ b = some (.list (ys.map f)))
    (h : Q (.bool (!decide (xs = ys))) σ) : Cmp G n σ .NotEq (.ref a) (.ref b) Q := by
  by_cases hl : xs.length = ys.length
  · intro x y hx hy; obtain rfl := VR.ref_ hx; obtain rfl := VR.ref_ hy
    refine .mk fun A s Φ E hA hS _ k => ?_
    obtain ⟨vs, c, h1, h2⟩ := list_at hS ha
    obtain ⟨us, d, h3, h4⟩ := list_at hS hb
    have e1 := h2.length
    have e2 := h4.length
    rw [List.length_map] at e1 e2
    refine RcNeAt.lists (items := vs.toArray) (items2 := us.toArray) ⟨_, h1, rfl, c, rfl⟩ ⟨_, h3, rfl, d, rfl⟩ (by rw [List.size_toArray, List.size_toArray]; lia) (hu_of hA) (map_eqAt hf h2 h4) _ _ _ _ ?_
    rw [List.size_toArray, ← e1, all_range_eq hl]
    exact k _ _ s.heap s.toks σ (.bool _) hS (Keep.refl _ _) h
  · have : decide (xs = ys) = false := decide_eq_false fun e => hl (by rw [e])
    rw [this] at h
    exact cmp_ne_len ha hb (by rw [List.length_map, List.length_map]; exact hl) h
theorem flat_ints (x y : Int) : flatEq (V.int x) (V.int y) = some (decide (x = y)) := rfl
/-- a list against the empty list -/
theorem cmp_eq_nil {a b : Addr} {xs : List V} (ha : G.look σ a = some (.list xs)) (hb : G.look σ b = some (.list [])) (h : Q (.bool xs.isEmpty) σ) : Cmp G n σ .Eq (.ref a) (.ref b) Q := by
  cases xs with
  | nil => exact cmp_eq_map (α := Int) (f := V.int) (xs := []) (ys := []) flat_ints ha hb h
  | cons x r => exact cmp_eq_len ha hb (by simp) h
theorem cmp_ne_nil {a b : Addr} {xs : List V} (ha : G.look σ a = some (.list xs)) (hb : G.look σ b = some (.list [])) (h : Q (.bool (!xs.isEmpty)) σ) : Cmp G n σ .NotEq (.ref a) (.ref b) Q := by
  cases xs with
  | nil => exact cmp_ne_map (α := Int) (f := V.int) (xs := []) (ys := []) flat_ints ha hb h
  | cons x r => exact cmp_ne_len ha hb (by simp) h
theorem cmp_in_ints {t : Addr} {ns : List Int} {i : Int} (ht : G.look σ t = some (.tuple (ns.map V.int))) (h : Q (.bool (decide (i ∈ ns))) σ) : Cmp G n σ .In (.int i) (.ref t) Q := by
  intro x y hx hy; obtain ⟨_, rfl⟩ := VR.int_ hx; obtain rfl := VR.ref_ hy
  rename_i u
  refine .mk fun A s Φ E hA hS _ k => ?_
  obtain ⟨vs, h1, h2⟩ := tup_of hS ht
  have hi := ints_are h2
  let e : Value → Bool := fun y => @decide (∃ t, y = .int i t) (Classical.propDecidable _)
  have he : ∀ a t, e (.int a t) = decide (a = i) := fun a t => decide_eq_decide.2 ⟨fun ⟨_, h⟩ => by injection h, fun h => ⟨t, by rw [h]⟩⟩
  have hE : ∀ y, y ∈ vs.toArray → EqAt A.in1 s y (.int i u) (e y) := by
    intro y hy
    obtain ⟨a, t', rfl⟩ := hi.allInts y hy
    have := EqAt.int_int (A := A.in1) (s := s) a t' i u
    rw [he]
    exact this
  refine in_tupleAt e h1 hE ?_
  have hany : ∀ {ns : List Int} {vs : List Value}, IntsAre vs ns → vs.any e = decide (i ∈ ns) := by
    intro ns vs h
    induction h with
    | nil => simp
    | cons a t h ih =>
      rw [List.any_cons, ih, he, ← Bool.decide_or]
      exact decide_eq_decide.2 (List.mem_cons.trans (or_congr_left eq_comm)).symm
  rw [List.any_toArray, hany hi]
  exact k _ _ s.heap s.toks σ (.bool _) hS (Keep.refl _ _) h
/-! dicts compared -/
noncomputable def Flat1 (es : List (Str × V)) : Prop := ∀ p ∈ es, vat es p.1 = some p.2 ∧ flatEq p.2 p.2 = some true
theorem keq_hits {A : Around} {s : Shared} {es : List (Str × V)} {kb : List (Str × Value)} (hb : Paired KV es kb) {fs : List (Str × V)} {ka : List (Str × Value)} (hf : Paired KV fs ka) : (∀ p ∈ fs, vat es p.1 = some p.2 ∧ flatEq p.2 p.2 = some true) → KeqHits A s kb ka true := by
  refine kv_ind (P := fun fs ka => (∀ p ∈ fs, vat es p.1 = some p.2 ∧ flatEq p.2 p.2 = some true) → KeqHits A s kb ka true) hf (fun _ => .nil) fun k v y r s' hv hr ih h => ?_
  obtain ⟨h1, h2⟩ := h (k, v) (.head _)
  have ho := vat_ok hb k
  rw [h1] at ho
  generalize hz : valueAt kb k = z at ho
  cases ho with
  | some hz' =>
    have := KeqHits.hit (A := A) (s := s) hz (flat_eqAt h2 hv hz') (ih fun p hp => h p (.tail _ hp))
    simpa using this
theorem cmp_ne_sdict0 {a b : Addr} {es : List (Str × V)} {ep ep' : Nat} (ha : σ a = some (.sdict es ep)) (hb : σ b = some (.sdict [] ep')) (h : Q (.bool (!es.isEmpty)) σ) : Cmp G n σ .NotEq (.ref a) (.ref b) Q := by
  intro x y hx hy; obtain rfl := VR.ref_ hx; obtain rfl := VR.ref_ hy
  refine .mk fun A s Φ E hA hS _ k => ?_
  obtain ⟨ka, h1, h2⟩ := sdict_of hS ha
  obtain ⟨kb, h3, h4⟩ := sdict_of hS hb
  cases h4
  cases h2 with
  | nil => exact keq_ne (r := true) (hS.nsm ha) (hS.nsm hb) h1.dictOf h3.dictOf (hu_of hA) (fun _ => .nil) (k _ _ s.heap s.toks σ (.bool _) hS (Keep.refl _ _) h)
  | cons hx hr => exact keq_ne (r := true) (hS.nsm ha) (hS.nsm hb) h1.dictOf h3.dictOf (hu_of hA) (fun e => by cases e) (k _ _ s.heap s.toks σ (.bool _) hS (Keep.refl _ _) h)
theorem cmp_eq_sdict0 {a b : Addr} {es : List (Str × V)} {ep ep' : Nat} (ha : σ a = some (.sdict es ep)) (hb : σ b = some (.sdict [] ep')) (h : Q (.bool es.isEmpty) σ) : Cmp G n σ .Eq (.ref a) (.ref b) Q := by
  intro x y hx hy; obtain rfl := VR.ref_ hx; obtain rfl := VR.ref_ hy
  refine .mk fun A s Φ E hA hS _ k => ?_
  obtain ⟨ka, h1, h2⟩ := sdict_of hS ha
  obtain ⟨kb, h3, h4⟩ := sdict_of hS hb
  cases h4
  cases h2 with
  | nil => exact keq_eq (r := true) (hS.nsm ha) (hS.nsm hb) h1.dictOf h3.dictOf (hu_of hA) (fun _ => .nil) (k _ _ s.heap s.toks σ (.bool _) hS (Keep.refl _ _) h)
  | cons hx hr => exact keq_eq (r := true) (hS.nsm ha) (hS.nsm hb) h1.dictOf h3.dictOf (hu_of hA) (fun e => by cases e) (k _ _ s.heap s.toks σ (.bool _) hS (Keep.refl _ _) h)
/-- elements that are equal: in this program, in this world -/
noncomputable def EqG (G : Gd) (A : Around) (s : Shared) (y x : Value) : Prop := ∀ (E : Value → Shared → Prop) (Q : Bool → Shared → Prop), Q true s → wpAny (model G.prog G.w) A (eqBool y x) Q E s
inductive Same (σ : St) : V → V → Prop where
  | flat {x y : V} (h : flatEq x y = some true) : Same σ x y
  | dict {a b : Addr} {es : List (Str × V)} {ep ep' : Nat} (ha : σ a = some (.sdict es ep)) (hb : σ b = some (.sdict es ep')) (hf : Flat1 es) : Same σ (.ref a) (.ref b)
theorem same_eqG {A : Around} {s : Shared} {x y : V} {vx vy : Value} (hS : Sit G σ s.heap) (hu : A.units < cLine) (h : Same σ x y) (hx : VR x vx) (hy : VR y vy) : EqG G A s vx vy := by
  intro E Q hq
  cases h with
  | flat h => exact flat_eqAt h hx hy _ _ _ _ hq
  | dict ha hb hf =>
    rename_i a b es ep ep'
    obtain rfl := VR.ref_ hx; obtain rfl := VR.ref_ hy
    by_cases hab : a = b
    · subst hab; exact EqAt.same _ _ _ _ _ hq
    · obtain ⟨ka, h1, h2⟩ := sdict_of hS ha
      obtain ⟨kb, h3, h4⟩ := sdict_of hS hb
      have e1 := h2.length
      have e2 := h4.length
      unfold eqBool
      refine wpAny_holding ?_
      refine wpAny_ite_split (fun hab' => absurd (by have := eq_of_beq hab'; injection this) hab) (fun _ => ?_)
      refine wpAny_bind (keq_eq (r := true) (hS.nsm ha) (hS.nsm hb) h1.dictOf h3.dictOf hu (fun _ => keq_hits h4 h2 hf) (wpAny_truthy_bool ?_))
      have : (ka.length == kb.length && true) = true := by simp; lia
      rw [this]; exact hq
theorem ne_loopG (l b : Addr) (items items2 : Array Value) (c c2 : Nat) (hsz : items.size = items2.size) (k : Nat) :
    ∀ i : Nat, items.size - i = k → MeetsIn G.prog G.w (Builtin.«list.__eq__.loop» ⟨[.ref l, .ref b, rawInt i, rawInt 3], []⟩)
      (fun A R s => s.heap.get? l = some { cls := .type "list", data := .seq items c } ∧ s.heap.get? b = some { cls := .type "list", data := .seq items2 c2 } ∧
        (∀ j (h1 : j < items.size) (h2 : j < items2.size), EqG G A.in1 s items[j] items2[j]) ∧ R (.ok (.ret (.bool false))) s) := by
  induction k with
  | zero =>
    intro i hk A R s h
    obtain ⟨hp, g, d, tk, os⟩ := s; obtain ⟨hl, hb, he, h⟩ := h
    wp_walk using AutoSeq1.wpAny_loadPart' hl, AutoSeq1.wpAny_loadPart' hb
    have hi1 : items[((i : Nat) : Int).toNat]? = none := by simp; lia
    have hi2 : items2[((i : Nat) : Int).toNat]? = none := by simp; lia
    rw [hi1, hi2]
    wp_walk using AutoSeq1.wpAny_loadPart' hl, AutoSeq1.wpAny_loadPart' hb
    show R (.ok (.ret (.bool (items.size != items2.size)))) _
    rw [hsz]
    simpa using h
  | succ k ih =>
    intro i hk A R s h
    obtain ⟨hp, g, d, tk, os⟩ := s; obtain ⟨hl, hb, he, h⟩ := h
    wp_walk using AutoSeq1.wpAny_loadPart' hl, AutoSeq1.wpAny_loadPart' hb
    have hlt : i < items.size := by lia
    have hlt2 : i < items2.size := by lia
    have hi1 : items[((i : Nat) : Int).toNat]? = some items[i] := by simp [hlt]
    have hi2 : items2[((i : Nat) : Int).toNat]? = some items2[i] := by simp [hlt2]
    have hc : ((i : Int) + 1) = ((i + 1 : Nat) : Int) := by push_cast; rfl
    rw [hi1, hi2]
    refine wpAny_bind (he i hlt hlt2 _ _ ?_)
    wp_walk
    rw [hc]
    exact ⟨plainId_quiet MeetsSeq3.plain_eq_loop _, codeAny_builtin MeetsSeq3.entry_eq_loop (by
      rw [Around.under_plainId MeetsSeq3.plain_eq_loop _]
      exact ih (i + 1) (by lia) A R _ ⟨hl, hb, he, h⟩)⟩
theorem list_neG (l b : Addr) (items items2 : Array Value) (c c2 : Nat) (hsz : items.size = items2.size) :
    MeetsIn G.prog G.w (Builtin.«list.__ne__» ⟨[.ref l, .ref b], []⟩)
      (fun A R s => s.heap.get? l = some { cls := .type "list", data := .seq items c } ∧ s.heap.get? b = some { cls := .type "list", data := .seq items2 c2 } ∧
        (∀ j (h1 : j < items.size) (h2 : j < items2.size), EqG G A.in1 s items[j] items2[j]) ∧ R (.ok (.ret (.bool false))) s) := by
  intro A R s h
  obtain ⟨hp, g, d, tk, os⟩ := s; obtain ⟨hl, hb, he, h⟩ := h
  have f3 := AutoSeq1.sub_list_list
  have hne : ¬ (items.size != items2.size) = true := by simp [hsz]
  wp_walk using AutoSeq1.wpAny_loadPart' hl, AutoSeq1.wpAny_loadPart' hb
  exact ⟨plainId_quiet MeetsSeq3.plain_eq_loop _, codeAny_builtin MeetsSeq3.entry_eq_loop (by
    rw [Around.under_plainId MeetsSeq3.plain_eq_loop _]
    exact ne_loopG l b items items2 c c2 hsz _ 0 rfl A R _ ⟨hl, hb, he, h⟩)⟩
theorem cmp_ne_same {a b : Addr} {xs ys : List V} (ha : G.look σ a = some (.list xs)) (hb : G.look σ b = some (.list ys)) (hs : Paired (Same σ) xs ys) (hn : 0 < n) (h : Q (.bool false) σ) : Cmp G n σ .NotEq (.ref a) (.ref b) Q := by
  intro x y hx hy; obtain rfl := VR.ref_ hx; obtain rfl := VR.ref_ hy
  refine .mk fun A s Φ E hA hS _ k => ?_
  obtain ⟨vs, c, h1, h2⟩ := list_at hS ha
  obtain ⟨us, d, h3, h4⟩ := list_at hS hb
  have e1 := h2.length
  have e2 := h4.length
  have e3 := hs.length
  have hun : A.in1.units < cLine := by have := hA.un; show A.units + 1 < _; lia
  refine wpAny_richCompare_same_room (op := .NotEq) (T := "list") ⟨_, h1, rfl⟩ ⟨_, h3, rfl⟩ PySem.F.slot_list_ne (call_meetsIn PySem.F.slot_list_ne ⟨_, h1, rfl⟩ PySem.F.entry_list_ne (PySem.F.args_list_ne_2 _ _) (list_neG a b vs.toArray us.toArray c d (by rw [List.size_toArray, List.size_toArray]; lia))
    ⟨h1, h3, fun j hj hj' => ?_, show Value.bool false ≠ Value.notImplemented ∧ Φ (.bool false) s from ⟨(fun q => nomatch q), k _ _ s.heap s.toks σ (.bool _) hS (Keep.refl _ _) h⟩⟩) (hu_of hA)
  rw [List.size_toArray] at hj hj'
  obtain ⟨x, hx, rx⟩ := paired_at h2 hj
  obtain ⟨y, hy, ry⟩ := paired_at h4 hj'
  obtain ⟨y', hy', hsame⟩ := paired_get hs hx
  rw [hy] at hy'; cases hy'
  exact same_eqG hS hun hsame rx ry
theorem ev_neg {i : Int} {kd : Nat} {p pos : Pos} (h : Q (.int (-i)) σ) : Ev G n env lv σ (.UnaryOp .USub (.Constant (.int i) kd p) pos) Q := by
  show Run G n (EnvAt G env lv) VR σ (eval (.Constant (.int i) kd p) env >>= fun v => standAt pos >>= fun _ => holding [v] (unaryOp .USub v)) Q
  refine Run.bind (stable_env _ _ _) (Run.mono (ev_int (Q := fun v σ' => v = .int i ∧ σ' = σ) ⟨rfl, rfl⟩) ?_)
  rintro v σ' ⟨rfl, rfl⟩ x hx
  obtain ⟨_, rfl⟩ := VR.int_ hx
  refine Run.standAt (Run.holding (Run.any (tr_val (fun A s Φ E _ _ k => PyProof.Rows.neg_int (k _ _ (.int _ _))) h)))
end
end
section
variable {G : Gd} {σ : St} {n : Nat} {Q : V → St → Prop}
/-! sorted -/
theorem strs_are : ∀ {ss : List Str} {vs : List Value}, Paired VR (ss.map V.str) vs → StrsAre vs ss
  | [], _, .nil => .nil
  | n :: r, _, .cons h t => by obtain ⟨_, rfl⟩ := VR.str_ h; exact .cons _ _ (strs_are t)
theorem strs_back {ss : List Str} {vs : List Value} (h : StrsAre vs ss) : Paired VR (ss.map V.str) vs := by
  induction h with
  | nil => exact .nil
  | cons y t _ ih => exact .cons (.str y t) ih
theorem call_sorted {a : Addr} {ss : List Str} (ha : G.look σ a = some (.list (ss.map V.str))) (h64 : ss.length < 64) (h : ∀ r ss', σ r = none → ss'.Perm ss → sortedS ss' = true → Q (.ref r) (σ.set r (.list (ss'.map V.str)))) : CallV G n σ (.blt "sorted") [.ref a] Q := by
  intro fv vs hf hvs; obtain ⟨_, rfl, hx⟩ := pr1 hvs
  obtain rfl := VR.blt_ hf; obtain rfl := VR.ref_ hx
  refine .mk fun A s Φ E hA hS _ k => ?_
  obtain ⟨us, c, h1, h2⟩ := list_at hS ha
  have hl := h2.length
  rw [List.length_map] at hl
  refine sorted_strs (vs := us) ⟨_, h1, rfl, c, rfl⟩ (strs_are h2) (by lia) fun out ss' a1 a2 a3 => ?_
  obtain ⟨e, he⟩ := sortedAll_at s.heap us out
  have hk : ∀ b x, s.heap.get? b = some x → (sortedAll s.heap us out).get? b = some x := fun b x q => sortedAll_old q
  have he' : (sortedAll s.heap us out).get? (s.heap.objs.size + 1) = some { cls := .type "list", data := .seq out.toList.toArray e } := by rw [he]
  have hn : σ (s.heap.objs.size + 1) = none := hS.noneOf (get_none_of_size (Nat.le_succ _))
  refine k (.ref _) _ _ s.toks (σ.set (s.heap.objs.size + 1) (.list (ss'.map V.str))) (.ref _) ((hS.grow hk).add he' (.list (strs_back a1)) (hS.hTlt (Nat.le_succ _)) (Nat.ne_of_gt (Nat.lt_succ_of_lt hS.big))) (fun b x q nn => ⟨hk b x q, ?_⟩) (h _ ss' hn a2 a3)
  rw [St.set_ne _ _ (Nat.ne_of_lt (Nat.lt_succ_of_lt (Heap.lt_size q)))]; exact nn
theorem strs_keys {kvs : List (Str × Value)} : ∀ {acc : List Value}, acc.length = kvs.length → (∀ (j : Nat) (v : Value), acc[j]? = some v → ∃ k x, kvs[j]? = some (k, x) ∧ (strKind G.prog G.w).is k v = true) → StrsAre acc (kvs.map (·.1)) := by
  induction kvs with
  | nil => intro acc hl _; cases acc with
    | nil => exact .nil
    | cons => cases hl
  | cons p r ih =>
    intro acc hl h
    cases acc with
    | nil => cases hl
    | cons v r' =>
      obtain ⟨k, x, h1, h2⟩ := h 0 v rfl
      simp at h1
      subst h1
      obtain ⟨t, rfl⟩ := Value.isStrOf_shape (x := k) (v := v) h2
      exact .cons k t (ih (Nat.succ.inj hl) fun j v hv => h (j + 1) v (by simpa using hv))
theorem collect_dict {A : Around} {s : Shared} {E : Value → Shared → Prop} {d : Addr} {kvs : List (Str × Value)} {ep : Nat} {P : List Value → Shared → Prop} (hh : A.handled = none) (lo : (d == sysModules) = false) (hm : s.heap.DictAt (strKind G.prog G.w) d kvs ep) (hn : kvs.length ≤ sizeLine)
    (h : ∀ vs h' tk, StrsAre vs (kvs.map (·.1)) → (∀ b o, s.heap.get? b = some o → h'.get? b = some o) → s.heap.objs.size < h'.objs.size → P vs { s with heap := h', toks := tk }) : wpAny (model G.prog G.w) A (collect (.ref d)) P E s := by
  unfold collect
  refine wpAny_bind (wpAny_runValue (codeAny_builtin entry_proto_collect' ?_))
  rw [Around.under_plainId (by decide +kernel : plainId "proto.collect" = true) _]
  show wpAny _ _ (do again (.builtin "list.__iadd__" ⟨[← newList [], .ref d], []⟩)) _ _ s
  refine wpAny_bind (wpAny_newList (wpAny_pure ⟨Code.quiet_builtin _ (by decide +kernel), codeAny_builtin entry_list_iadd' ?_⟩))
  rw [Around.under_plainId (by decide +kernel : plainId "list.__iadd__" = true) _]
  show wpAny _ _ (Builtin.List.listExtendWith (.ref s.heap.objs.size) (.ref d) (.ref s.heap.objs.size)) _ _ { s with heap := s.heap.push (seqObj "list" #[] 0) }
  have hlt : d < s.heap.objs.size := hm.lt_size
  refine kdl_extend (R := fun r s' => match r with
      | .ok (.ret v) => wpAny (model G.prog G.w) A (match v with
          | .ref a => (do
            let o ← load a
            match o.data with
            | .seq xs _ => pure xs.toList
            | _ => unsupported "internal:collect")
          | _ => unsupported "internal:collect") P E s'
      | .ok _ => False
      | .error e => E e s') (s := { s with heap := s.heap.push (seqObj "list" #[] 0) }) (kdl_dict (knd := strKind G.prog G.w) (kvs := kvs) (ep := ep) lo) hh (hm.push _) s.heap.objs.size (Nat.ne_of_gt hlt) (Nat.ne_of_gt hlt) _ 0 (Heap.get?_push_size _ rfl) (fun h' tk acc' c' hk hS' hacc => ?_) hn
  show wpAny (model G.prog G.w) A (do
      let o ← load s.heap.objs.size
      match o.data with
      | .seq xs _ => pure xs.toList
      | _ => unsupported "internal:collect") P E _
  refine wpAny_bind (wpAny_load hS' (wpAny_pure ?_))
  refine h acc'.toList h' tk (strs_keys (by rw [Array.length_toList]; exact hacc.1) fun j v e => hacc.2 j v (by rw [← Array.getElem?_toList]; exact e)) (fun b o e => hk b o (Nat.ne_of_lt (Heap.lt_size e)) (Heap.get?_push_of_some _ e)) (Heap.lt_size hS')
theorem call_sorted_dict {d : Addr} {es : List (Str × V)} {ep : Nat} (hd : σ d = some (.sdict es ep)) (h64 : es.length < 64) (h : ∀ r ss', σ r = none → ss'.Perm (es.map (·.1)) → sortedS ss' = true → Q (.ref r) (σ.set r (.list (ss'.map V.str)))) : CallV G n σ (.blt "sorted") [.ref d] Q := by
  intro fv vs hf hvs; obtain ⟨_, rfl, hx⟩ := pr1 hvs
  obtain rfl := VR.blt_ hf; obtain rfl := VR.ref_ hx
  refine .mk fun A s Φ E hA hS _ k => ?_
  obtain ⟨kvs, hm, hp⟩ := sdict_of hS hd
  have hl := hp.length
  have hkeys : kvs.map (·.1) = es.map (·.1) := by
    have : ∀ {a : List (Str × V)} {b : List (Str × Value)}, Paired KV a b → b.map (·.1) = a.map (·.1) := by
      intro a b h
      induction h with
      | nil => rfl
      | cons h _ ih => rw [List.map_cons, List.map_cons, ih, h.1]
    exact this hp
  refine call_function_entry kind_sorted plain_sorted entry_sorted (args_sorted1 _) ?_
  unfold Builtin.«sorted»
  refine wpAny_bind (m := checkCount "sorted" 1 1 _) (wpAny_pure ?_)
  refine wpAny_bind (collect_dict (A := A.in1) hA.hd (hS.nsm hd) hm (by rw [sizeLine_eq]; lia) fun us h' tk hs hk hge => ?_)
  rw [hkeys] at hs
  refine wpAny_bind (wpAny_newList ?_)
  have hul : us.length = es.length := by rw [hs.length, List.length_map]
  dsimp only
  have hoL : (h'.push (seqObj "list" us.toArray 0)).get? h'.objs.size = some (seqObj "list" us.toArray 0) := Heap.get?_push_size _ rfl
  refine wpAny_bind (wpAny_holding (wpAny_call_entry slot_list_sort ⟨_, hoL, rfl⟩ entry_list_sort (list_sort_treeK strKind_oneLt hoL hs.keysOf (fun v₁ v₂ rest e => keyKind_strs (by rw [← e]; exact hs)) (by lia) fun st' a1 a2 => ⟨_, rfl, ?_⟩) (args_list_sort _)))
  obtain ⟨ss', b1, b2, b3⟩ := sorted_out_str hs a1 a2
  refine wpAny_pure ⟨_, rfl, ?_⟩
  obtain ⟨e, he⟩ := sortedHeap_at (h := h'.push (seqObj "list" us.toArray 0)) (a := h'.objs.size) (vs := us) (out := (arrOf st').map (·.2)) hoL
  have hr : ∀ b x, s.heap.get? b = some x → (sortedHeap (h'.push (seqObj "list" us.toArray 0)) h'.objs.size us ((arrOf st').map (·.2))).get? b = some x := fun b x q => by
    have q' := hk b x q
    have hb := Heap.lt_size q'
    rw [sortedHeap_old (Nat.ne_of_lt hb) (by rw [size_push']; exact Nat.lt_succ_of_lt hb)]
    exact Heap.get?_push_of_some _ q'
  have hn : σ h'.objs.size = none := hS.noneOf (get_none_of_size (Nat.le_of_lt hge))
  have he' : (sortedHeap (h'.push (seqObj "list" us.toArray 0)) h'.objs.size us ((arrOf st').map (·.2))).get? h'.objs.size = some { cls := .type "list", data := .seq ((arrOf st').map (·.2)).toList.toArray e } := by rw [he]
  refine k (.ref _) _ _ _ (σ.set h'.objs.size (.list (ss'.map V.str))) (.ref _) ((hS.grow hr).add he' (.list (strs_back b1)) (hS.hTlt (Nat.le_of_lt hge)) (Nat.ne_of_gt (Nat.lt_trans hS.big hge))) (fun b x q nn => ⟨hr b x q, ?_⟩) (h _ ss' hn b2 b3)
  rw [St.set_ne _ _ (Nat.ne_of_lt (Nat.lt_trans (Heap.lt_size q) hge))]; exact nn
end
/-! list over bytes -/
section
variable {prog : Program} {w : World} {A : Around} {E : Value → Shared → Prop} {s : Shared} {b : Array UInt8} {t : Tok}
theorem hint_bytes {Q : Bool → Shared → Prop} (h : Q false s) : wpAny (model prog w) A (Builtin.List.listLengthHint (.bytes b t)) Q E s := by
  have hT : s.TypeIs (.bytes b t) "bytes" := typeIs_bytes s b t
  unfold Builtin.List.listLengthHint
  refine wpAny_bind (wpAny_specialOf hT FB.slot_bytes_len.lookup ?_)
  generalize hid : ("bytes.__len__" : String) = id0
  wp_delta
  rw [show splitId id0 = some ("bytes", "__len__") from by subst hid; decide +kernel]
  subst hid
  refine wpAny_bind (wpAny_isInstance (T := "bytes") (b := true) hT (by rw [isSubtype_type]; kernel_rfl) ?_)
  refine wpAny_ite_split (fun hab => absurd hab (by decide)) (fun _ => ?_)
  refine wpAny_ite_split (fun _ => ?_) (fun hab => absurd (by decide +kernel) hab)
  refine wpAny_bind (wpAny_typeOf hT ?_)
  exact wpAny_pure h
theorem extend_bytes {R : Result → Shared → Prop} (hh : A.handled = none) (S : Addr) (res : Value) (c₀ : Nat) (hS : s.heap.get? S = some { cls := .type "list", data := .seq #[] c₀ }) (hn : b.size ≤ sizeLine)
    (hR : ∀ h' tk acc' c', (∀ b o, b ≠ S → s.heap.get? b = some o → h'.get? b = some o) → h'.get? S = some { cls := .type "list", dict := none, data := .seq acc' c', slots := #[] } → ItemsOf (fun i v => ∃ c u, b[i]? = some c ∧ v = .int (c.toNat : Int) u) acc' b.size → R (.ok (.ret res)) { s with heap := h', toks := tk }) :
    wpAny (model prog w) A.in1 (Builtin.List.listExtendWith (.ref S) (.bytes b t) res)
      (fun fin s' => match fin with | .done f => R (.ok f) s' | .again c' => c'.quiet = true ∧ codeAny (model prog w) A c' R s') (fun e s' => R (.error e) s') s := by
  have hSI : S ≠ s.heap.objs.size := Nat.ne_of_lt (Heap.lt_size hS)
  have hSf : S ∉ [s.heap.objs.size] := by simpa using hSI
  have W := KBw.walks (prog := prog) (w := w) (A := A.in1) hh s.heap.objs.size b t
  have key : ∀ (h : Heap) (c₁ tk : Nat), KBw.IsBytesIter h s.heap.objs.size b t 0 → (∀ b o, b ≠ S → s.heap.get? b = some o → h.get? b = some o) →
      h.get? S = some { cls := .type "list", data := .seq #[] c₁ } → codeAny (model prog w) A (.builtin "list.extend.loop" ⟨[.ref S, .ref s.heap.objs.size, res], []⟩) R { s with heap := h, toks := tk } := by
    intro h c₁ tk hst hk hS₁
    refine codeAny_extend_loopS W.toS hn S hSf res b.size 0 _ #[] c₁ rfl (Nat.zero_le _) hst hS₁ (ItemsOf.nil _) fun s' acc' c' hm hS' hacc => ?_
    rw [Moved.eq_with hm]
    refine hR s'.heap s'.toks acc' c' (fun b o hb e => hm.heap b o (fun hmem => ?_) (hk b o hb e)) hS' hacc
    rcases List.mem_cons.mp hmem with e' | hmem
    · exact hb e'
    · exact absurd (Heap.lt_size e) (by rw [List.mem_singleton.mp hmem]; exact Nat.lt_irrefl _)
  unfold Builtin.List.listExtendWith
  refine wpAny_bind (wpAny_typeOf (T := "bytes") (typeIs_bytes s b t) ?_)
  have h1 : Builtin.List.listSameRef (.ref S) (.bytes b t) = false := rfl
  have h2 : (Value.type "bytes" == Value.type "list") = false := by decide
  have h3 : (Value.type "bytes" == Value.type "tuple") = false := by decide
  simp only [h1, h2, h3, Bool.or_false, Bool.false_eq_true, if_false]
  refine wpAny_bind (KBw.pyIter_bytes ?_)
  have hS₁ := Heap.get?_push_of_some { cls := .type "bytes_iterator", data := .fields #[.bytes b t, .int 0 0] } hS
  have st : KBw.IsBytesIter (s.heap.push { cls := .type "bytes_iterator", data := .fields #[.bytes b t, .int 0 0] }) s.heap.objs.size b t 0 := ⟨_, Heap.get?_push_size _ rfl, rfl, rfl⟩
  refine wpAny_bind (wpAny_holding (hint_bytes ?_))
  refine wpAny_ite_split (fun _ => ?_) (fun _ => wpAny_pure ⟨plainId_quiet F.plain_extend_loop _, key _ c₀ _ st (fun b o _ e => Heap.get?_push_of_some _ e) hS₁⟩)
  refine wpAny_bind (wpAny_rule ?_)
  refine wpAny_bind ?_
  show wpAny _ _ (updateSeq S (·.push .none) >>= fun _ => updateSeq S (·.pop)) _ _ _
  refine wpAny_bind (wpAny_updateSeq hS₁ rfl ?_)
  have hS₂ := Heap.get?_update_self (Obj.mapSeq (·.push Value.none)) hS₁ rfl
  refine wpAny_updateSeq (hz := by seq_fits) hS₂ rfl ?_
  have hS₃ := Heap.get?_update_self (Obj.mapSeq (·.pop)) hS₂ rfl
  refine wpAny_pure ⟨plainId_quiet F.plain_extend_loop _, key _ _ _ ?_ (fun b o hb e => ?_) hS₃⟩
  · refine W.frame 0 _ _ st fun b hb o e => ?_
    have hbS : b ≠ S := fun h => hSf (h ▸ hb)
    exact (Heap.get?_update_other _ _ (Ne.symm hbS)).trans ((Heap.get?_update_other _ _ (Ne.symm hbS)).trans e)
  · exact (Heap.get?_update_other _ _ (Ne.symm hb)).trans ((Heap.get?_update_other _ _ (Ne.symm hb)).trans (Heap.get?_push_of_some _ e))
theorem list_bytes_run {Q : Value → Shared → Prop} (hh : A.handled = none) (hn : b.size ≤ sizeLine)
    (hQ : ∀ h' tk acc' c', (∀ b o, s.heap.get? b = some o → h'.get? b = some o) → h'.get? s.heap.objs.size = some { cls := .type "list", dict := none, data := .seq acc' c', slots := #[] } → ItemsOf (fun i v => ∃ c u, b[i]? = some c ∧ v = .int (c.toNat : Int) u) acc' b.size → Q (.ref s.heap.objs.size) { s with heap := h', toks := tk }) :
    wpAny (model prog w) A (call (.type "list") [.bytes b t]) Q E s := by
  refine callType_codes (Q₁ := fun obj s₁ => obj = .ref s.heap.objs.size ∧ s₁ = { s with heap := s.heap.push { cls := .type "list", data := .seq #[] } }) F.called_list (F.typeCall_list_1 _) F.entry_list_init
    (code_list_new _ ⟨rfl, rfl⟩) fun obj s₁ h₁ => ?_
  obtain ⟨rfl, rfl⟩ := h₁
  have hS : (s.heap.push { cls := .type "list", data := .seq #[] }).get? s.heap.objs.size = some { cls := .type "list", data := .seq #[] } := Heap.get?_push_size _ rfl
  refine ⟨⟨_, hS, rfl⟩, F.args_list_init_2 _ _, ?_⟩
  show wpAny _ _ (do let old ← Builtin.List.listItems (.ref s.heap.objs.size); Builtin.List.listUpdate (.ref s.heap.objs.size) (fun _ => #[]); letGo old.toList.reverse; Builtin.List.listExtendWith (.ref s.heap.objs.size) (.bytes b t) .none) _ _ { s with heap := s.heap.push { cls := .type "list", data := .seq #[] } }
  refine wpAny_bind ?_
  unfold Builtin.List.listItems
  refine wpAny_bind (wpAny_seqItems hS rfl (wpAny_pure ?_))
  show wpAny _ _ (updateSeq s.heap.objs.size (fun _ => #[]) >>= fun _ => letGo (#[] : Array Value).toList.reverse >>= fun _ => Builtin.List.listExtendWith (.ref s.heap.objs.size) (.bytes b t) .none) _ _ _
  refine wpAny_bind (wpAny_updateSeq hS rfl ?_)
  have hS₂ := Heap.get?_update_self (Obj.mapSeq (fun _ => (#[] : Array Value))) hS rfl
  refine wpAny_bind (wpAny_letGo ?_)
  refine extend_bytes (A := A.in1) hh s.heap.objs.size .none _ hS₂ hn fun h' tk acc' c' hk hS' hacc => ?_
  refine ⟨rfl, hQ h' tk acc' c' (fun b o e => ?_) hS' hacc⟩
  have hb : b ≠ s.heap.objs.size := Nat.ne_of_lt (Heap.lt_size e)
  exact hk b o hb ((Heap.get?_update_other _ _ (Ne.symm hb)).trans (Heap.get?_push_of_some _ e))
end
section
variable {G : Gd} {σ : St} {n : Nat} {Q : V → St → Prop}
noncomputable def bInts (b : Array UInt8) : List Int := b.toList.map fun c => (c.toNat : Int)
theorem paired_items {b : List UInt8} : ∀ {acc : List Value}, acc.length = b.length → (∀ (j : Nat) (v : Value), acc[j]? = some v → ∃ c u, b[j]? = some c ∧ v = .int (c.toNat : Int) u) → Paired VR ((b.map fun c => (c.toNat : Int)).map V.int) acc := by
  induction b with
  | nil => intro acc hl _; cases acc with
    | nil => exact .nil
    | cons => cases hl
  | cons p r ih =>
    intro acc hl h
    cases acc with
    | nil => cases hl
    | cons v r' =>
      obtain ⟨c, u, h1, rfl⟩ := h 0 v rfl
      simp at h1
      subst h1
      exact .cons (.int _ _) (ih (Nat.succ.inj hl) fun j v hv => h (j + 1) v (by simpa using hv))
theorem call_list_bytes {b : Array UInt8} (hsz : b.size ≤ sizeLine) (h : ∀ r, σ r = none → Q (.ref r) (σ.set r (.list ((bInts b).map V.int)))) : CallV G n σ (.typ "list") [.bytes b] Q := by
  intro fv vs hf hvs; obtain ⟨_, rfl, hx⟩ := pr1 hvs
  obtain rfl := VR.typ_ hf; obtain ⟨_, rfl⟩ := VR.bytes_ hx
  refine tr_new (fun A s Φ E hA hS k => ?_) h
  refine list_bytes_run hA.hd hsz fun h' tk acc c hk ho hacc => ?_
  refine k _ h' tk _ hk ho (Nat.le_refl _) ?_
  have hp : Paired VR ((bInts b).map V.int) acc.toList := paired_items (by rw [Array.length_toList, Array.length_toList]; exact hacc.1) fun j v e => by
    obtain ⟨c, u, h1, h2⟩ := hacc.2 j v (by rw [← Array.getElem?_toList]; exact e)
    exact ⟨c, u, by rw [Array.getElem?_toList]; exact h1, h2⟩
  exact OR.list (vs := acc.toList) hp
/-! a dict of pairs -/
theorem miss_keys {A : Around} {s : Shared} {E : Value → Shared → Prop} {a : Addr} {xs : Array Value} {c : Nat} {P : Option Value → Shared → Prop} (hx : s.heap.get? a = some { cls := .type "list", data := .seq xs c }) (hA : A.handled = none)
    (h : ∀ h' tk, (∀ b o, s.heap.get? b = some o → h'.get? b = some o) → P none { s with heap := h', toks := tk }) : wpAny (model G.prog G.w) A (getAttr? (.ref a) "keys") P E s := by
  obtain ⟨hp, g, d, tk, os⟩ := s
  have hT : ∀ tk', (⟨hp, g, d, tk', os⟩ : Shared).TypeIs (.ref a) "list" := fun _ => ⟨_, hx, rfl⟩
  have f1 := sub_AttributeError
  have f3 := F.slot_list_getattribute.lookup
  have f4 := F.slot_list_getattribute.bind (.ref a)
  have f5 := am_list_getattr_none
  have hmiss : typeLookup (.type "list") (Str.ofString "keys") = pure none := am_miss_of_fast (by kernel_rfl)
  have hname : (["__module__", "__name__", "__qualname__", "__doc__", "__annotations__"] : List Str).contains (Str.ofString "keys") = false := by decide +kernel
  have hsz : (Str.ofString "keys").length + 100 ≤ sizeLine := by rw [sizeLine_eq]; decide +kernel
  unfold getAttr? getAttrBy? getAttrBy
  repeat (any_goals (first | assumption | exact hT _ | ((with_reducible show wpAny _ _ (call (Value.builtin "list.__getattribute__") _ _) _ _ _); refine call_meets F.slot_list_getattribute (hT _) am_entry_list_getattribute (F.args_list_getattribute_2 _ _) (meets_getattribute_miss_list a xs c #[] (Str.ofString "keys") _ hmiss hname hsz) ⟨hx, hA, fun h' tk' e hx' => ?_⟩) | wp_step))
  obtain ⟨t', u', he⟩ := hx'.there
  have hTe : ∀ tk, (⟨h', g, d, tk, os⟩ : Shared).TypeIs (.ref e) "AttributeError" := fun _ => ⟨_, he, rfl⟩
  show wpAny _ _ (getattributeRaised _ _ _ _ _ _ _) _ _ _
  unfold getattributeRaised
  refine wpAny_bind (wpAny_isInstance (hTe _) f1 ?_)
  rw [if_pos rfl]
  refine wpAny_bind (m := hookBehind (.type "list") none) (wpAny_of_eq (a := none) f5 ?_)
  show wpAny _ _ (attributeErrorLeaves (.ref a) (.str (Str.ofString "keys") tk) (.ref e) false false) _ _ _
  unfold attributeErrorLeaves
  refine wpAny_bind ?_
  refine wpAny_throw ?_
  refine wpAny_bind (wpAny_isInstance (hTe _) f1 ?_)
  rw [if_pos rfl]
  exact wpAny_pure (h _ _ hx'.keeps)
/-! the pairs, one by one -/
theorem plain_update_loop : plainId "dict.update.loop" = true := by decide +kernel
theorem entry_update_loop : entryFor table "dict.update.loop" = some Builtin.«dict.update.loop» := entryFor_of_tree (by kernel_rfl)
theorem update_loop {d it l : Addr} {items : Array Value} {ps : List (Str × Value)} (hdi : d ≠ it) (hdl : d ≠ l) (hli : l ≠ it)
    (hps : ps.length = items.size) (hlen : ps.length ≤ 1000) : ∀ (k i : Nat), items.size - i = k → i ≤ items.size → ∀ (A : Around) (s : Shared) (R : Result → Shared → Prop), A.handled = none → s.heap.IsListIter it l i → s.heap.IsList l items →
      (∀ (j : Nat) (y : Value), items[j]? = some y → ∃ t kx v, y = .ref t ∧ t ≠ d ∧ t ≠ it ∧ s.heap.IsTuple t #[kx, v] ∧ ∃ x, ps[j]? = some (x, v) ∧ (strKind G.prog G.w).is x kx = true) →
      s.heap.DictOf (strKind G.prog G.w) d (merged [] (ps.take i)) →
      (∀ h' tk, h'.DictOf (strKind G.prog G.w) d (merged [] ps) → (∀ b o, b ≠ d → b ≠ it → s.heap.get? b = some o → h'.get? b = some o) → R (.ok (.ret .none)) { s with heap := h', toks := tk }) →
      codeAny (model G.prog G.w) A (.builtin "dict.update.loop" ⟨[.ref d, .ref it, rawInt i, .none], []⟩) R s := by
  intro k
  induction k with
  | zero =>
    intro i hk hi A s R hA hit hl hall hd hR
    have hin : i = items.size := by lia
    refine codeAny_builtin entry_update_loop ?_
    rw [Around.under_plainId plain_update_loop _]
    unfold Builtin.«dict.update.loop»
    refine wpAny_bind (wpAny_pyNext_list_end hA hit hl (by simp [hin]) fun h' hx => ?_)
    show wpAny _ _ (Builtin.Dict.addKeywords d [] >>= _) _ _ _
    refine wpAny_bind (wpAny_pure (wpAny_pure ?_))
    refine hR h' s.toks ?_ fun b o hb hbi e => hx b o hbi e
    rw [hin, ← hps, List.take_length] at hd
    exact hd.extBut hx hdi
  | succ k ih =>
    intro i hk hi A s R hA hit hl hall hd hR
    have hlt : i < items.size := by lia
    have hx : items[i]? = some items[i] := Array.getElem?_eq_getElem hlt
    obtain ⟨t, kx, v, hy, htd, hti, ht, x, hp, hkey⟩ := hall i _ hx
    refine codeAny_builtin entry_update_loop ?_
    rw [Around.under_plainId plain_update_loop _]
    unfold Builtin.«dict.update.loop»
    refine wpAny_bind (wpAny_pyNext_list_item hit hl hx fun h₁ hit₁ hs₁ => ?_)
    rw [hy]
    have ht₁ : h₁.IsTuple t #[kx, v] := let ⟨o, ho, r⟩ := ht; ⟨o, hs₁.extBut t o hti ho, r⟩
    obtain ⟨ot, hot, hct, ct, hdt⟩ := id ht₁
    refine wpAny_bind (wpAny_holding (wpAny_bind (wpAny_tryCatch ?_)))
    unfold Builtin.Dict.pairItems
    refine wpAny_bind (wpAny_typeOf (T := "tuple") ⟨ot, hot, hct⟩ ?_)
    rw [if_pos (by decide)]
    show wpAny _ _ (seqItems? (.ref t) >>= _) _ _ _
    refine wpAny_bind (wpAny_seqItems hot hdt ?_)
    refine wpAny_pure ?_
    show wpAny _ _ (holding [kx, v] (dictSet d kx v)) _ _ _
    have hd₁ : h₁.DictOf (strKind G.prog G.w) d (merged [] (ps.take i)) := hd.extBut hs₁.extBut hdi
    refine wpAny_holding (wpAny_dictSet_pairs (s := { s with heap := h₁ }) hkey hd₁ (fun h₂ hd₂ hs₂ => ?_) ?_)
    · rw [← merged_take_succ [] ps i (x, v) hp] at hd₂
      dsimp only at hs₂
      refine wpAny_pure ⟨plainId_quiet plain_update_loop _, ?_⟩
      have e : rawInt ((i : Int) + 1) = rawInt ((i + 1 : Nat) : Int) := by push_cast; rfl
      show codeAny _ _ (.builtin "dict.update.loop" ⟨[.ref d, .ref it, rawInt ((i : Int) + 1), .none], []⟩) _ _
      rw [e]
      have kb : ∀ b o, b ≠ d → b ≠ it → s.heap.get? b = some o → h₂.get? b = some o := fun b o hb hbi q => (hs₂.2 b hb).trans (hs₁.extBut b o hbi q)
      refine ih (i + 1) (by lia) hlt A _ R hA ?_ ?_ ?_ hd₂ fun h' tk hd' hk' => hR h' tk hd' fun b o hb hbi q => hk' b o hb hbi (kb b o hb hbi q)
      · obtain ⟨o, ho, r⟩ := hit₁; exact ⟨o, (hs₂.2 it (Ne.symm hdi)).trans ho, r⟩
      · obtain ⟨o, ho, r⟩ := hl; exact ⟨o, kb l o (Ne.symm hdl) hli ho, r⟩
      · intro j y hj
        obtain ⟨t', kx', v', h1, h2, h3, h4, h5⟩ := hall j y hj
        exact ⟨t', kx', v', h1, h2, h3, let ⟨o, ho, r⟩ := h4; ⟨o, kb t' o h2 h3 ho, r⟩, h5⟩
    · have := merged_length_le ([] : List (Str × Value)) (ps.take i)
      rw [List.length_take] at this
      simp only [List.length_nil] at this
      rw [sizeLine_eq]; lia
theorem call_dict_pairs_run {A : Around} {s : Shared} {E : Value → Shared → Prop} {l : Addr} {vs : List Value} {c : Nat} {ps : List (Str × Value)} {P : Value → Shared → Prop} (hA : A.handled = none) (hl : s.heap.get? l = some { cls := .type "list", data := .seq vs.toArray c })
    (hps : ps.length = vs.length) (hlen : ps.length ≤ 1000) (hall : ∀ (j : Nat) (y : Value), vs[j]? = some y → ∃ t kx v, y = .ref t ∧ s.heap.IsTuple t #[kx, v] ∧ ∃ x, ps[j]? = some (x, v) ∧ (strKind G.prog G.w).is x kx = true)
    (h : ∀ h' tk, h'.DictOf (strKind G.prog G.w) s.heap.objs.size (merged [] ps) → (∀ b o, s.heap.get? b = some o → h'.get? b = some o) → P (.ref s.heap.objs.size) { s with heap := h', toks := tk }) :
    wpAny (model G.prog G.w) A (call (.type "dict") [.ref l]) P E s := by
  refine callType_codes (Q₁ := fun obj s₁ => obj = .ref s.heap.objs.size ∧ s₁ = { s with heap := s.heap.push { cls := .type "dict", data := .dict #[] } }) F.kt_called_dict (F.kt_typeCall_dict_1 _) F.entry_dict_init (kt_code_dict_new _ ⟨rfl, rfl⟩) ?_
  rintro obj s₁ ⟨rfl, rfl⟩
  have hnew : (s.heap.push { cls := .type "dict", data := .dict #[] }).DictOf (strKind G.prog G.w) s.heap.objs.size [] := Heap.DictOf.new s.heap
  refine ⟨hnew.typeIs, F.args_dict_init_2 _ _, ?_⟩
  have hl' := Heap.get?_push_of_some { cls := .type "dict", data := .dict #[] } hl
  have hlt : l < s.heap.objs.size := Heap.lt_size hl
  unfold Builtin.«dict.__init__»
  refine wpAny_bind ?_
  unfold Builtin.Dict.selfAndRest
  refine wpAny_bind (wpAny_notOrdered_dict hnew.typeIs ?_)
  show wpAny _ _ (pure (s.heap.objs.size, [Value.ref l])) _ _ _
  refine wpAny_pure ?_
  show wpAny _ _ (Builtin.Dict.updateFrom "dict.__init__" s.heap.objs.size (.ref l) [] .none) _ _ _
  unfold Builtin.Dict.updateFrom
  refine wpAny_bind (wpAny_typeOf (T := "list") ⟨_, hl', rfl⟩ ?_)
  rw [if_pos (by decide)]
  refine wpAny_bind (miss_keys (A := A.in1.in1) hl' hA fun h₁ tk₁ hk₁ => ?_)
  dsimp only at hk₁
  simp only [Option.isNone_none, if_true]
  refine wpAny_bind (wpAny_rule ?_)
  have hl₁ : h₁.get? l = some { cls := .type "list", data := .seq vs.toArray c } := hk₁ _ _ hl'
  refine wpAny_bind (wpAny_pyIter_list (l := l) (items := vs.toArray) ⟨_, hl₁, rfl, c, rfl⟩ ?_)
  refine wpAny_pure ⟨plainId_quiet plain_update_loop _, ?_⟩
  have hSd : s.heap.objs.size < h₁.objs.size := by
    obtain ⟨o, _, _, ho, _⟩ := hnew
    exact Heap.lt_size (hk₁ _ _ ho)
  have old : ∀ b o, s.heap.get? b = some o → (h₁.push { cls := .type "list_iterator", data := .fields #[.ref l, .int 0 0] }).get? b = some o := fun b o e => Heap.get?_push_of_some _ (hk₁ b o (Heap.get?_push_of_some _ e))
  refine update_loop (d := s.heap.objs.size) (it := h₁.objs.size) (l := l) (items := vs.toArray) (ps := ps) (Nat.ne_of_lt hSd) (Nat.ne_of_gt hlt) (Nat.ne_of_lt (Nat.lt_trans hlt hSd)) (by rw [List.size_toArray]; exact hps) hlen _ 0 rfl (Nat.zero_le _) A.in1 _ _ hA
    ⟨_, Heap.get?_push_size _ rfl, rfl, rfl⟩ ⟨_, Heap.get?_push_of_some _ hl₁, rfl, c, rfl⟩ (fun j y hj => ?_) ?_ fun h' tk hd' hk' => ?_
  · obtain ⟨t, kx, v, h1, h2, h3⟩ := hall j y (by simpa using hj)
    obtain ⟨ot, hot, r⟩ := h2
    have := Heap.lt_size hot
    exact ⟨t, kx, v, h1, Nat.ne_of_lt this, Nat.ne_of_lt (Nat.lt_trans this hSd), ⟨ot, old _ _ hot, r⟩, h3⟩
  · have : h₁.DictOf (strKind G.prog G.w) s.heap.objs.size [] := let ⟨o, es, ep, ho, r⟩ := hnew; ⟨o, es, ep, hk₁ _ _ ho, r⟩
    simpa [merged] using this.push _
  · exact ⟨rfl, h h' tk hd' fun b o e => hk' b o (Nat.ne_of_lt (Heap.lt_size e)) (Nat.ne_of_lt (Nat.lt_trans (Heap.lt_size e) hSd)) (old b o e)⟩
theorem call_dict_pairs {a : Addr} {ts : List Addr} {ps : List (Str × V)} (ha : G.look σ a = some (.list (ts.map V.ref))) (hl : ts.length = ps.length) (ht : ∀ (j : Nat) (t : Addr) (p : Str × V), ts[j]? = some t → ps[j]? = some p → G.look σ t = some (.tuple [.str p.1, p.2])) (hlen : ps.length ≤ 1000)
    (h : ∀ r ep, σ r = none → Q (.ref r) (σ.set r (.sdict (vmerge [] ps) ep))) : CallV G n σ (.typ "dict") [.ref a] Q := by
  intro fv vs hf hvs; obtain ⟨_, rfl, hx⟩ := pr1 hvs
  obtain rfl := VR.typ_ hf; obtain rfl := VR.ref_ hx
  refine .mk fun A s Φ E hA hS _ k => ?_
  obtain ⟨us, c, h1, h2⟩ := list_at hS ha
  have e1 := h2.length
  rw [List.length_map] at e1
  -- the values of the pairs
  have hv : ∀ p ∈ (ts.zip ps), ∃ kx v, s.heap.IsTuple p.1 #[kx, v] ∧ (strKind G.prog G.w).is p.2.1 kx = true ∧ VR p.2.2 v := by
    intro p hp
    obtain ⟨j, hj, e⟩ := List.mem_iff_getElem.mp hp
    rw [List.length_zip] at hj
    rw [List.getElem_zip] at e
    have q1 : ts[j]? = some p.1 := by rw [List.getElem?_eq_getElem (by lia), ← e]
    have q2 : ps[j]? = some p.2 := by rw [List.getElem?_eq_getElem (by lia), ← e]
    obtain ⟨ws, hw1, hw2⟩ := tup_of hS (ht j _ _ q1 q2)
    obtain ⟨kx, v, rfl, r1, r2⟩ := pair2 hw2
    obtain ⟨_, rfl⟩ := VR.str_ r1
    exact ⟨_, v, hw1, strKind_is _ _ _ _, r2⟩
  obtain ⟨qs, hq1, hq2⟩ : ∃ qs : List (Str × Value), Paired KV ps qs ∧ ∀ (j : Nat) (t : Addr), ts[j]? = some t → ∃ kx v x, s.heap.IsTuple t #[kx, v] ∧ qs[j]? = some (x, v) ∧ (strKind G.prog G.w).is x kx = true := by
    clear ha h1 h2 ht hlen h k e1
    induction ps generalizing ts with
    | nil => cases ts with
      | nil => exact ⟨[], .nil, fun j t e => by simp at e⟩
      | cons => cases hl
    | cons p r ih => cases ts with
      | nil => cases hl
      | cons t0 tr =>
        obtain ⟨qs, h1, h2⟩ := ih (ts := tr) (Nat.succ.inj hl) (fun p hp => hv p (by rw [List.zip_cons_cons]; exact .tail _ hp))
        obtain ⟨kx, v, w1, w2, w3⟩ := hv (t0, p) (by rw [List.zip_cons_cons]; exact .head _)
        refine ⟨(p.1, v) :: qs, .cons ⟨rfl, w3⟩ h1, fun j t e => ?_⟩
        cases j with
        | zero => simp at e; subst e; exact ⟨kx, v, p.1, w1, rfl, w2⟩
        | succ j => obtain ⟨kx', v', x', y1, y2, y3⟩ := h2 j t (by simpa using e); exact ⟨kx', v', x', y1, by simpa using y2, y3⟩
  have e2 := hq1.length
  refine call_dict_pairs_run (ps := qs) hA.hd h1 (by lia) (by lia) (fun j y hj => ?_) fun h' tk hd hk => ?_
  · have hju : j < us.length := by
      rcases Nat.lt_or_ge j us.length with q | q
      · exact q
      · rw [List.getElem?_eq_none q] at hj; cases hj
    obtain ⟨x, hx, hr⟩ := paired_at h2 (j := j) hju
    rw [List.getElem?_map] at hx
    obtain ⟨t, ht', rfl⟩ := Option.map_eq_some_iff.mp hx
    rw [List.getElem?_eq_getElem hju] at hj
    have hy := Option.some.inj hj
    rw [hy] at hr
    obtain rfl := VR.ref_ hr
    obtain ⟨kx, v, x, w1, w2, w3⟩ := hq2 j t ht'
    exact ⟨t, kx, v, rfl, w1, x, w2, w3⟩
  · obtain ⟨ep', o, es', ho, g1, g2, g3, g4, g5⟩ := hd.dictAt
    refine k (.ref _) _ h' tk (σ.set s.heap.objs.size (.sdict (vmerge [] ps) ep')) (.ref _) ((hS.grow hk).add ho (.sdict ⟨es', g1, g2, g3, g4, g5⟩ (vmerge_ok .nil hq1)) hS.hTfresh (Nat.ne_of_gt hS.big)) (fun b x e nn => ⟨hk b x e, ?_⟩) (h _ _ hS.fresh)
    rw [St.set_ne _ _ (Nat.ne_of_lt (Heap.lt_size e))]; exact nn
end
/-! what the top leaves, as far as the law goes: bodies are looked up in the given row -/
noncomputable def top (i : Nat) : Stmt := match PySem.Challenge.pw_nn0215_01.main.body[i]? with
  | some s => s
  | none => .Pass ⟨0, 0, 0, 0⟩
/-- the parts of a statement and of an expression that are looked up here -/
noncomputable def sP (s : Stmt) : List Stmt × Arguments × Scope × Option Expr := by
  cases s
  case ClassDef _ _ _ b _ _ _ _ _ _ _ => exact (b, default, default, none)
  case FunctionDef _ a b _ _ _ s _ _ _ => exact (b, a, s, none)
  case If _ b _ _ => exact (b, default, default, none)
  case Try b _ _ _ _ => exact (b, default, default, none)
  case Return e _ => exact ([], default, default, e)
  all_goals exact ([], default, default, none)
noncomputable def eP (e : Expr) : List Expr × Arguments × Scope × Pos := by
  cases e
  case BoolOp _ es p => exact (es, default, default, p)
  case Compare l _ es p => exact (l :: es, default, default, p)
  case Call _ es _ p => exact (es, default, default, p)
  case Lambda a b s p => exact ([b], a, s, p)
  all_goals exact ([], default, default, ⟨0, 0, 0, 0⟩)
noncomputable def eN (l : List Expr) (i : Nat) : Expr := l[i]?.getD (.Constant .none 0 ⟨0, 0, 0, 0⟩)
noncomputable def meth (i j : Nat) : Stmt := ((sP (top i)).1[j]?).getD (.Pass ⟨0, 0, 0, 0⟩)
noncomputable def fpar (s : Stmt) : Arguments := (sP s).2.1
noncomputable def fbody (s : Stmt) : List Stmt := (sP s).1
noncomputable def fscope (s : Stmt) : Scope := (sP s).2.2.1
noncomputable def en (P : Params) (k : Str) (t : Tok) (v : Value) : DictEntry := ⟨PyData.keyHash P k, .str k t, v⟩
noncomputable def k2 (P : Params) : Obj := ⟨.none, none, .dict (List.toArray [en P (Str.ofString "type.__subclasses__.Exception.0") 248 (.int (54) 0), en P (Str.ofString "type.__subclasses__.Exception.n") 249 (.int (1) 0)]) 2, List.toArray []⟩
noncomputable def k3 (P : Params) : Obj := ⟨(.type "dict"), none, .dict (List.toArray [en P (Str.ofString "__name__") 165 (.str (Str.ofString "law_nn0215_01") 587), en P (Str.ofString "__doc__") 166 .none, en P (Str.ofString "__package__") 167 .none, en P (Str.ofString "__loader__") 168 (.builtin "__main__.__loader__#opaque"), en P (Str.ofString "__spec__") 169 .none, en P (Str.ofString "__annotations__") 170 (.ref 6), en P (Str.ofString "__builtins__") 171 (.ref 4), en P (Str.ofString "__file__") 173 (.str (Str.ofString "/claim/cut.py") 172), en P (Str.ofString "__cached__") 174 .none, en P (Str.ofString "_wall") 193 (.ref 21), en P (Str.ofString "WHITE") 202 (.ref 22), en P (Str.ofString "is_white") 209 (.ref 29), en P (Str.ofString "PaperError") 251 (.ref 54), en P (Str.ofString "FilterFault") 267 (.ref 67), en P (Str.ofString "FIGURES") 271 (.bytes (Array.mk [48, 49, 50, 51, 52, 53, 54, 55, 56, 57, 65, 66, 67, 68, 69, 70]) 270), en P (Str.ofString "HEX_END") 273 (.int (62) 272), en P (Str.ofString "TILDE") 275 (.int (126) 274), en P (Str.ofString "LEAST_SIGN") 277 (.int (33) 276), en P (Str.ofString "MOST_SIGN") 279 (.int (117) 278), en P (Str.ofString "FOUR_NOUGHTS") 281 (.int (122) 280), en P (Str.ofString "MOST_GROUP") 287 (.int (4294967295) 286), en P (Str.ofString "RUN_END") 289 (.int (128) 288), en P (Str.ofString "MOST_RUN") 291 (.int (128) 290), en P (Str.ofString "hex_encoded") 303 (.ref 77), en P (Str.ofString "figure_worth") 310 (.ref 84), en P (Str.ofString "hex_decoded") 316 (.ref 89), en P (Str.ofString "signs_of_group") 327 (.ref 96), en P (Str.ofString "base85_encoded") 333 (.ref 101), en P (Str.ofString "octets_of_group") 346 (.ref 108), en P (Str.ofString "is_end_at") 355 (.ref 115), en P (Str.ofString "base85_decoded") 367 (.ref 122), en P (Str.ofString "run_at") 376 (.ref 129), en P (Str.ofString "run_encoded") 387 (.ref 136), en P (Str.ofString "row_codes") 394 (.ref 143), en P (Str.ofString "run_decoded") 405 (.ref 150), en P (Str.ofString "MOST_HOPS") 409 (.int (30) 408), en P (Str.ofString "Name") 438 (.ref 167), en P (Str.ofString "Reference") 476 (.ref 195), en P (Str.ofString "Lookup") 528 (.ref 231), en P (Str.ofString "full_name") 538 (.ref 242), en P (Str.ofString "filter_names") 550 (.ref 249), en P (Str.ofString "filter_parms") 556 (.ref 254), en P (Str.ofString "early_of") 564 (.ref 261), en P (Str.ofString "undo_plain") 572 (.ref 268), en P (Str.ofString "apply_plain") 580 (.ref 275), en P (Str.ofString "head_of") 586 (.ref 280), en P (Str.ofString "_law_names") 607 (.ref 290), en P (Str.ofString "_law_draw") 619 (.ref 297), en P (Str.ofString "_law_pen") 626 (.ref 304), en P (Str.ofString "_law_octets") 637 (.ref 311), en P (Str.ofString "_law_heard") 647 (.ref 318), en P (Str.ofString "_law_bent") 658 (.ref 325), en P (Str.ofString "_law_lost") 665 (.ref 332), en P (Str.ofString "law") 671 (.ref 337)]) 54, List.toArray []⟩
noncomputable def k15 : Obj := ⟨(.type "tuple"), none, .seq (List.toArray []) 0, List.toArray []⟩
noncomputable def k17 : Obj := ⟨(.type "tuple"), none, .seq (List.toArray [(.str (Str.ofString "k") 190)]) 0, List.toArray []⟩
noncomputable def k18 : Obj := ⟨(.type "tuple"), none, .seq (List.toArray []) 0, List.toArray []⟩
noncomputable def k20 : Obj := ⟨(.type "code"), none, .fields (List.toArray [(.str (Str.ofString "_wall") 187), (.str (Str.ofString "_wall") 188), (.str (Str.ofString "/claim/cut.py") 189), (.int (1) 0), (.int (1) 0), (.int (0) 0), (.int (0) 0), (.int (3) 0), (.ref 15), (.bool true), (.int (181) 0), (.ref 16), .none, (.ref 17), (.ref 18), (.ref 19), (.int (191) 0), (.int (1) 0), (.str (Str.ofString "/claim/cut.py") 192)]), List.toArray []⟩
noncomputable def k21 : Obj := ⟨(.type "function"), none, .func ⟨(Str.ofString "_wall"), (Str.ofString "_wall"), fpar (top 0), .stmts (fbody (top 0)), fscope (top 0), 3, [], .none, .none, .none, (.str (Str.ofString "__main__") 164), none, (.ref 20), .none, 0⟩, List.toArray []⟩
noncomputable def k22 : Obj := ⟨(.type "tuple"), none, .seq (List.toArray [(.int (0) 196), (.int (9) 197), (.int (10) 198), (.int (12) 199), (.int (13) 200), (.int (32) 201)]) 0, List.toArray []⟩
noncomputable def k23 : Obj := ⟨(.type "tuple"), none, .seq (List.toArray []) 0, List.toArray []⟩
noncomputable def k25 : Obj := ⟨(.type "tuple"), none, .seq (List.toArray [(.str (Str.ofString "code") 206)]) 0, List.toArray []⟩
noncomputable def k26 : Obj := ⟨(.type "tuple"), none, .seq (List.toArray []) 0, List.toArray []⟩
noncomputable def k28 : Obj := ⟨(.type "code"), none, .fields (List.toArray [(.str (Str.ofString "is_white") 203), (.str (Str.ofString "is_white") 204), (.str (Str.ofString "/claim/cut.py") 205), (.int (6) 0), (.int (1) 0), (.int (0) 0), (.int (0) 0), (.int (3) 0), (.ref 23), (.bool true), (.int (181) 0), (.ref 24), .none, (.ref 25), (.ref 26), (.ref 27), (.int (207) 0), (.int (6) 0), (.str (Str.ofString "/claim/cut.py") 208)]), List.toArray []⟩
noncomputable def k29 : Obj := ⟨(.type "function"), none, .func ⟨(Str.ofString "is_white"), (Str.ofString "is_white"), fpar (top 3), .stmts (fbody (top 3)), fscope (top 3), 3, [], .none, .none, .none, (.str (Str.ofString "paperhold.cursor") 194), none, (.ref 28), .none, 0⟩, List.toArray []⟩
noncomputable def k30 : Obj := ⟨(.type "tuple"), none, .seq (List.toArray [(.type "Exception")]) 0, List.toArray []⟩
noncomputable def k37 : Obj := ⟨(.type "tuple"), none, .seq (List.toArray [(.int (-1) 225)]) 0, List.toArray []⟩
noncomputable def k38 : Obj := ⟨(.type "tuple"), none, .seq (List.toArray []) 0, List.toArray []⟩
noncomputable def k40 : Obj := ⟨(.type "tuple"), none, .seq (List.toArray [(.str (Str.ofString "self") 229), (.str (Str.ofString "what") 230), (.str (Str.ofString "at") 231)]) 0, List.toArray []⟩
noncomputable def k41 : Obj := ⟨(.type "tuple"), none, .seq (List.toArray []) 0, List.toArray []⟩
noncomputable def k43 : Obj := ⟨(.type "code"), none, .fields (List.toArray [(.str (Str.ofString "__init__") 226), (.str (Str.ofString "PaperError.__init__") 227), (.str (Str.ofString "/claim/cut.py") 228), (.int (11) 0), (.int (3) 0), (.int (0) 0), (.int (0) 0), (.int (3) 0), (.ref 38), (.bool true), (.int (181) 0), (.ref 39), .none, (.ref 40), (.ref 41), (.ref 42), (.int (232) 0), (.int (11) 0), (.str (Str.ofString "/claim/cut.py") 233)]), List.toArray []⟩
noncomputable def k44 : Obj := ⟨(.type "function"), none, .func ⟨(Str.ofString "__init__"), (Str.ofString "PaperError.__init__"), fpar (meth 5 0), .stmts (fbody (meth 5 0)), fscope (meth 5 0), 3, [], (.ref 37), .none, .none, (.str (Str.ofString "paperhold.errors") 210), none, (.ref 43), .none, 0⟩, List.toArray []⟩
noncomputable def k45 : Obj := ⟨(.type "tuple"), none, .seq (List.toArray []) 0, List.toArray []⟩
noncomputable def k47 : Obj := ⟨(.type "tuple"), none, .seq (List.toArray [(.str (Str.ofString "self") 238)]) 0, List.toArray []⟩
noncomputable def k48 : Obj := ⟨(.type "tuple"), none, .seq (List.toArray []) 0, List.toArray []⟩
noncomputable def k50 : Obj := ⟨(.type "code"), none, .fields (List.toArray [(.str (Str.ofString "told") 235), (.str (Str.ofString "PaperError.told") 236), (.str (Str.ofString "/claim/cut.py") 237), (.int (16) 0), (.int (1) 0), (.int (0) 0), (.int (0) 0), (.int (3) 0), (.ref 45), (.bool true), (.int (181) 0), (.ref 46), .none, (.ref 47), (.ref 48), (.ref 49), (.int (239) 0), (.int (16) 0), (.str (Str.ofString "/claim/cut.py") 240)]), List.toArray []⟩
noncomputable def k51 : Obj := ⟨(.type "function"), none, .func ⟨(Str.ofString "told"), (Str.ofString "PaperError.told"), fpar (meth 5 1), .stmts (fbody (meth 5 1)), fscope (meth 5 1), 3, [], .none, .none, .none, (.str (Str.ofString "paperhold.errors") 210), none, (.ref 50), .none, 0⟩, List.toArray []⟩
noncomputable def k52 : Obj := ⟨(.type "tuple"), none, .seq (List.toArray [(.str (Str.ofString "at") 242), (.str (Str.ofString "what") 243)]) 0, List.toArray []⟩
noncomputable def k53 (P : Params) : Obj := ⟨(.type "dict"), none, .dict (List.toArray [en P (Str.ofString "__module__") 219 (.str (Str.ofString "paperhold.errors") 210), en P (Str.ofString "__firstlineno__") 223 (.int (9) 222), en P (Str.ofString "__init__") 234 (.ref 44), en P (Str.ofString "told") 241 (.ref 51), en P (Str.ofString "__static_attributes__") 244 (.ref 52), en P (Str.ofString "__weakref__") 246 (.ref 55), en P (Str.ofString "__doc__") 247 .none]) 3, List.toArray []⟩
noncomputable def k54 : Obj := ⟨(.type "type"), none, .cls ⟨(Str.ofString "PaperError"), [(.type "Exception")], [(.ref 54), (.type "Exception"), (.type "BaseException"), (.type "object")], 53, (Str.ofString "PaperError"), true, [], [(.ref 67)], false, none, false⟩, List.toArray [(some (.ref 30)), none, (some (.str (Str.ofString "PaperError") 212)), (some (.str (Str.ofString "PaperError") 220)), (some (.builtin "Exception.__new__")), (some (.bool true))]⟩
noncomputable def k55 : Obj := ⟨(.type "getset_descriptor"), none, .fields (List.toArray [(.str (Str.ofString "__weakref__") 245), (.ref 54), (.builtin "ExceptionGroup.__weakref__"), .none]), List.toArray []⟩
noncomputable def k58 : Obj := ⟨(.type "tuple"), none, .seq (List.toArray [(.ref 54)]) 0, List.toArray []⟩
noncomputable def k65 : Obj := ⟨(.type "tuple"), none, .seq (List.toArray []) 0, List.toArray []⟩
noncomputable def k66 (P : Params) : Obj := ⟨(.type "dict"), none, .dict (List.toArray [en P (Str.ofString "__module__") 259 (.str (Str.ofString "paperhold.errors") 210), en P (Str.ofString "__firstlineno__") 263 (.int (18) 262), en P (Str.ofString "__static_attributes__") 264 (.ref 65), en P (Str.ofString "__doc__") 265 .none]) 2, List.toArray []⟩
noncomputable def k67 : Obj := ⟨(.type "type"), none, .cls ⟨(Str.ofString "FilterFault"), [(.ref 54)], [(.ref 67), (.ref 54), (.type "Exception"), (.type "BaseException"), (.type "object")], 66, (Str.ofString "FilterFault"), true, [], [], false, none, false⟩, List.toArray [(some (.ref 58)), none, (some (.str (Str.ofString "FilterFault") 252)), (some (.str (Str.ofString "FilterFault") 260)), (some (.builtin "Exception.__new__")), (some (.bool true))]⟩
noncomputable def k70 : Obj := ⟨(.type "tuple"), none, .seq (List.toArray [(.int (0) 292)]) 0, List.toArray []⟩
noncomputable def k71 : Obj := ⟨(.type "tuple"), none, .seq (List.toArray []) 0, List.toArray []⟩
noncomputable def k73 : Obj := ⟨(.type "tuple"), none, .seq (List.toArray [(.str (Str.ofString "octets") 296), (.str (Str.ofString "width") 297), (.str (Str.ofString "marks") 298), (.str (Str.ofString "octet") 299), (.str (Str.ofString "figure") 300)]) 0, List.toArray []⟩
noncomputable def k74 : Obj := ⟨(.type "tuple"), none, .seq (List.toArray []) 0, List.toArray []⟩
noncomputable def k76 : Obj := ⟨(.type "code"), none, .fields (List.toArray [(.str (Str.ofString "hex_encoded") 293), (.str (Str.ofString "hex_encoded") 294), (.str (Str.ofString "/claim/cut.py") 295), (.int (30) 0), (.int (2) 0), (.int (0) 0), (.int (0) 0), (.int (3) 0), (.ref 71), (.bool true), (.int (181) 0), (.ref 72), .none, (.ref 73), (.ref 74), (.ref 75), (.int (301) 0), (.int (30) 0), (.str (Str.ofString "/claim/cut.py") 302)]), List.toArray []⟩
noncomputable def k77 : Obj := ⟨(.type "function"), none, .func ⟨(Str.ofString "hex_encoded"), (Str.ofString "hex_encoded"), fpar (top 17), .stmts (fbody (top 17)), fscope (top 17), 3, [], (.ref 70), .none, .none, (.str (Str.ofString "paperhold.asciis") 268), none, (.ref 76), .none, 0⟩, List.toArray []⟩
noncomputable def k78 : Obj := ⟨(.type "tuple"), none, .seq (List.toArray []) 0, List.toArray []⟩
noncomputable def k80 : Obj := ⟨(.type "tuple"), none, .seq (List.toArray [(.str (Str.ofString "code") 307)]) 0, List.toArray []⟩
noncomputable def k81 : Obj := ⟨(.type "tuple"), none, .seq (List.toArray []) 0, List.toArray []⟩
noncomputable def k83 : Obj := ⟨(.type "code"), none, .fields (List.toArray [(.str (Str.ofString "figure_worth") 304), (.str (Str.ofString "figure_worth") 305), (.str (Str.ofString "/claim/cut.py") 306), (.int (39) 0), (.int (1) 0), (.int (0) 0), (.int (0) 0), (.int (3) 0), (.ref 78), (.bool true), (.int (181) 0), (.ref 79), .none, (.ref 80), (.ref 81), (.ref 82), (.int (308) 0), (.int (39) 0), (.str (Str.ofString "/claim/cut.py") 309)]), List.toArray []⟩
noncomputable def k84 : Obj := ⟨(.type "function"), none, .func ⟨(Str.ofString "figure_worth"), (Str.ofString "figure_worth"), fpar (top 18), .stmts (fbody (top 18)), fscope (top 18), 3, [], .none, .none, .none, (.str (Str.ofString "paperhold.asciis") 268), none, (.ref 83), .none, 0⟩, List.toArray []⟩
noncomputable def k85 : Obj := ⟨(.type "tuple"), none, .seq (List.toArray []) 0, List.toArray []⟩
noncomputable def k88 : Obj := ⟨(.type "code"), none, .fields (List.toArray [(.str (Str.ofString "hex_decoded") 311), (.str (Str.ofString "hex_decoded") 312), (.str (Str.ofString "/claim/cut.py") 313), (.int (47) 0), (.int (1) 0), (.int (0) 0), (.int (0) 0), (.int (3) 0), (.ref 85), (.bool true), (.int (181) 0), (.ref 86), .none, .none, .none, (.ref 87), (.int (314) 0), (.int (47) 0), (.str (Str.ofString "/claim/cut.py") 315)]), List.toArray []⟩
noncomputable def k89 : Obj := ⟨(.type "function"), none, .func ⟨(Str.ofString "hex_decoded"), (Str.ofString "hex_decoded"), fpar (top 19), .stmts (fbody (top 19)), fscope (top 19), 3, [], .none, .none, .none, (.str (Str.ofString "paperhold.asciis") 268), none, (.ref 88), .none, 0⟩, List.toArray []⟩
noncomputable def k90 : Obj := ⟨(.type "tuple"), none, .seq (List.toArray []) 0, List.toArray []⟩
noncomputable def k92 : Obj := ⟨(.type "tuple"), none, .seq (List.toArray [(.str (Str.ofString "group") 320), (.str (Str.ofString "total") 321), (.str (Str.ofString "octet") 322), (.str (Str.ofString "signs") 323), (.str (Str.ofString "turn") 324)]) 0, List.toArray []⟩
noncomputable def k93 : Obj := ⟨(.type "tuple"), none, .seq (List.toArray []) 0, List.toArray []⟩
noncomputable def k95 : Obj := ⟨(.type "code"), none, .fields (List.toArray [(.str (Str.ofString "signs_of_group") 317), (.str (Str.ofString "signs_of_group") 318), (.str (Str.ofString "/claim/cut.py") 319), (.int (60) 0), (.int (1) 0), (.int (0) 0), (.int (0) 0), (.int (3) 0), (.ref 90), (.bool true), (.int (181) 0), (.ref 91), .none, (.ref 92), (.ref 93), (.ref 94), (.int (325) 0), (.int (60) 0), (.str (Str.ofString "/claim/cut.py") 326)]), List.toArray []⟩
noncomputable def k96 : Obj := ⟨(.type "function"), none, .func ⟨(Str.ofString "signs_of_group"), (Str.ofString "signs_of_group"), fpar (top 20), .stmts (fbody (top 20)), fscope (top 20), 3, [], .none, .none, .none, (.str (Str.ofString "paperhold.asciis") 268), none, (.ref 95), .none, 0⟩, List.toArray []⟩
noncomputable def k97 : Obj := ⟨(.type "tuple"), none, .seq (List.toArray []) 0, List.toArray []⟩
noncomputable def k100 : Obj := ⟨(.type "code"), none, .fields (List.toArray [(.str (Str.ofString "base85_encoded") 328), (.str (Str.ofString "base85_encoded") 329), (.str (Str.ofString "/claim/cut.py") 330), (.int (69) 0), (.int (1) 0), (.int (0) 0), (.int (0) 0), (.int (3) 0), (.ref 97), (.bool true), (.int (181) 0), (.ref 98), .none, .none, .none, (.ref 99), (.int (331) 0), (.int (69) 0), (.str (Str.ofString "/claim/cut.py") 332)]), List.toArray []⟩
noncomputable def k101 : Obj := ⟨(.type "function"), none, .func ⟨(Str.ofString "base85_encoded"), (Str.ofString "base85_encoded"), fpar (top 21), .stmts (fbody (top 21)), fscope (top 21), 3, [], .none, .none, .none, (.str (Str.ofString "paperhold.asciis") 268), none, (.ref 100), .none, 0⟩, List.toArray []⟩
noncomputable def k102 : Obj := ⟨(.type "tuple"), none, .seq (List.toArray []) 0, List.toArray []⟩
noncomputable def k104 : Obj := ⟨(.type "tuple"), none, .seq (List.toArray [(.str (Str.ofString "signs") 337), (.str (Str.ofString "at") 338), (.str (Str.ofString "missing") 339), (.str (Str.ofString "total") 340), (.str (Str.ofString "sign") 341), (.str (Str.ofString "octets") 342), (.str (Str.ofString "turn") 343)]) 0, List.toArray []⟩
noncomputable def k105 : Obj := ⟨(.type "tuple"), none, .seq (List.toArray []) 0, List.toArray []⟩
noncomputable def k107 : Obj := ⟨(.type "code"), none, .fields (List.toArray [(.str (Str.ofString "octets_of_group") 334), (.str (Str.ofString "octets_of_group") 335), (.str (Str.ofString "/claim/cut.py") 336), (.int (80) 0), (.int (2) 0), (.int (0) 0), (.int (0) 0), (.int (3) 0), (.ref 102), (.bool true), (.int (181) 0), (.ref 103), .none, (.ref 104), (.ref 105), (.ref 106), (.int (344) 0), (.int (80) 0), (.str (Str.ofString "/claim/cut.py") 345)]), List.toArray []⟩
noncomputable def k108 : Obj := ⟨(.type "function"), none, .func ⟨(Str.ofString "octets_of_group"), (Str.ofString "octets_of_group"), fpar (top 22), .stmts (fbody (top 22)), fscope (top 22), 3, [], .none, .none, .none, (.str (Str.ofString "paperhold.asciis") 268), none, (.ref 107), .none, 0⟩, List.toArray []⟩
noncomputable def k109 : Obj := ⟨(.type "tuple"), none, .seq (List.toArray []) 0, List.toArray []⟩
noncomputable def k111 : Obj := ⟨(.type "tuple"), none, .seq (List.toArray [(.str (Str.ofString "data") 350), (.str (Str.ofString "at") 351), (.str (Str.ofString "here") 352)]) 0, List.toArray []⟩
noncomputable def k112 : Obj := ⟨(.type "tuple"), none, .seq (List.toArray []) 0, List.toArray []⟩
noncomputable def k114 : Obj := ⟨(.type "code"), none, .fields (List.toArray [(.str (Str.ofString "is_end_at") 347), (.str (Str.ofString "is_end_at") 348), (.str (Str.ofString "/claim/cut.py") 349), (.int (92) 0), (.int (2) 0), (.int (0) 0), (.int (0) 0), (.int (3) 0), (.ref 109), (.bool true), (.int (181) 0), (.ref 110), .none, (.ref 111), (.ref 112), (.ref 113), (.int (353) 0), (.int (92) 0), (.str (Str.ofString "/claim/cut.py") 354)]), List.toArray []⟩
noncomputable def k115 : Obj := ⟨(.type "function"), none, .func ⟨(Str.ofString "is_end_at"), (Str.ofString "is_end_at"), fpar (top 23), .stmts (fbody (top 23)), fscope (top 23), 3, [], .none, .none, .none, (.str (Str.ofString "paperhold.asciis") 268), none, (.ref 114), .none, 0⟩, List.toArray []⟩
noncomputable def k116 : Obj := ⟨(.type "tuple"), none, .seq (List.toArray []) 0, List.toArray []⟩
noncomputable def k118 : Obj := ⟨(.type "tuple"), none, .seq (List.toArray [(.str (Str.ofString "data") 359), (.str (Str.ofString "octets") 360), (.str (Str.ofString "signs") 361), (.str (Str.ofString "last") 362), (.str (Str.ofString "at") 363), (.str (Str.ofString "code") 364)]) 0, List.toArray []⟩
noncomputable def k119 : Obj := ⟨(.type "tuple"), none, .seq (List.toArray []) 0, List.toArray []⟩
noncomputable def k121 : Obj := ⟨(.type "code"), none, .fields (List.toArray [(.str (Str.ofString "base85_decoded") 356), (.str (Str.ofString "base85_decoded") 357), (.str (Str.ofString "/claim/cut.py") 358), (.int (99) 0), (.int (1) 0), (.int (0) 0), (.int (0) 0), (.int (3) 0), (.ref 116), (.bool true), (.int (181) 0), (.ref 117), .none, (.ref 118), (.ref 119), (.ref 120), (.int (365) 0), (.int (99) 0), (.str (Str.ofString "/claim/cut.py") 366)]), List.toArray []⟩
noncomputable def k122 : Obj := ⟨(.type "function"), none, .func ⟨(Str.ofString "base85_decoded"), (Str.ofString "base85_decoded"), fpar (top 24), .stmts (fbody (top 24)), fscope (top 24), 3, [], .none, .none, .none, (.str (Str.ofString "paperhold.asciis") 268), none, (.ref 121), .none, 0⟩, List.toArray []⟩
noncomputable def k123 : Obj := ⟨(.type "tuple"), none, .seq (List.toArray []) 0, List.toArray []⟩
noncomputable def k125 : Obj := ⟨(.type "tuple"), none, .seq (List.toArray [(.str (Str.ofString "octets") 371), (.str (Str.ofString "at") 372), (.str (Str.ofString "count") 373)]) 0, List.toArray []⟩
noncomputable def k126 : Obj := ⟨(.type "tuple"), none, .seq (List.toArray []) 0, List.toArray []⟩
noncomputable def k128 : Obj := ⟨(.type "code"), none, .fields (List.toArray [(.str (Str.ofString "run_at") 368), (.str (Str.ofString "run_at") 369), (.str (Str.ofString "/claim/cut.py") 370), (.int (121) 0), (.int (2) 0), (.int (0) 0), (.int (0) 0), (.int (3) 0), (.ref 123), (.bool true), (.int (181) 0), (.ref 124), .none, (.ref 125), (.ref 126), (.ref 127), (.int (374) 0), (.int (121) 0), (.str (Str.ofString "/claim/cut.py") 375)]), List.toArray []⟩
noncomputable def k129 : Obj := ⟨(.type "function"), none, .func ⟨(Str.ofString "run_at"), (Str.ofString "run_at"), fpar (top 25), .stmts (fbody (top 25)), fscope (top 25), 3, [], .none, .none, .none, (.str (Str.ofString "paperhold.asciis") 268), none, (.ref 128), .none, 0⟩, List.toArray []⟩
noncomputable def k130 : Obj := ⟨(.type "tuple"), none, .seq (List.toArray []) 0, List.toArray []⟩
noncomputable def k132 : Obj := ⟨(.type "tuple"), none, .seq (List.toArray [(.str (Str.ofString "octets") 380), (.str (Str.ofString "codes") 381), (.str (Str.ofString "row") 382), (.str (Str.ofString "at") 383), (.str (Str.ofString "count") 384)]) 0, List.toArray []⟩
noncomputable def k133 : Obj := ⟨(.type "tuple"), none, .seq (List.toArray []) 0, List.toArray []⟩
noncomputable def k135 : Obj := ⟨(.type "code"), none, .fields (List.toArray [(.str (Str.ofString "run_encoded") 377), (.str (Str.ofString "run_encoded") 378), (.str (Str.ofString "/claim/cut.py") 379), (.int (126) 0), (.int (1) 0), (.int (0) 0), (.int (0) 0), (.int (3) 0), (.ref 130), (.bool true), (.int (181) 0), (.ref 131), .none, (.ref 132), (.ref 133), (.ref 134), (.int (385) 0), (.int (126) 0), (.str (Str.ofString "/claim/cut.py") 386)]), List.toArray []⟩
noncomputable def k136 : Obj := ⟨(.type "function"), none, .func ⟨(Str.ofString "run_encoded"), (Str.ofString "run_encoded"), fpar (top 26), .stmts (fbody (top 26)), fscope (top 26), 3, [], .none, .none, .none, (.str (Str.ofString "paperhold.asciis") 268), none, (.ref 135), .none, 0⟩, List.toArray []⟩
noncomputable def k137 : Obj := ⟨(.type "tuple"), none, .seq (List.toArray []) 0, List.toArray []⟩
noncomputable def k139 : Obj := ⟨(.type "tuple"), none, .seq (List.toArray [(.str (Str.ofString "row") 391)]) 0, List.toArray []⟩
noncomputable def k140 : Obj := ⟨(.type "tuple"), none, .seq (List.toArray []) 0, List.toArray []⟩
noncomputable def k142 : Obj := ⟨(.type "code"), none, .fields (List.toArray [(.str (Str.ofString "row_codes") 388), (.str (Str.ofString "row_codes") 389), (.str (Str.ofString "/claim/cut.py") 390), (.int (141) 0), (.int (1) 0), (.int (0) 0), (.int (0) 0), (.int (3) 0), (.ref 137), (.bool true), (.int (181) 0), (.ref 138), .none, (.ref 139), (.ref 140), (.ref 141), (.int (392) 0), (.int (141) 0), (.str (Str.ofString "/claim/cut.py") 393)]), List.toArray []⟩
noncomputable def k143 : Obj := ⟨(.type "function"), none, .func ⟨(Str.ofString "row_codes"), (Str.ofString "row_codes"), fpar (top 27), .stmts (fbody (top 27)), fscope (top 27), 3, [], .none, .none, .none, (.str (Str.ofString "paperhold.asciis") 268), none, (.ref 142), .none, 0⟩, List.toArray []⟩
noncomputable def k144 : Obj := ⟨(.type "tuple"), none, .seq (List.toArray []) 0, List.toArray []⟩
noncomputable def k146 : Obj := ⟨(.type "tuple"), none, .seq (List.toArray [(.str (Str.ofString "data") 398), (.str (Str.ofString "octets") 399), (.str (Str.ofString "at") 400), (.str (Str.ofString "length") 401), (.str (Str.ofString "row") 402)]) 0, List.toArray []⟩
noncomputable def k147 : Obj := ⟨(.type "tuple"), none, .seq (List.toArray []) 0, List.toArray []⟩
noncomputable def k149 : Obj := ⟨(.type "code"), none, .fields (List.toArray [(.str (Str.ofString "run_decoded") 395), (.str (Str.ofString "run_decoded") 396), (.str (Str.ofString "/claim/cut.py") 397), (.int (143) 0), (.int (1) 0), (.int (0) 0), (.int (0) 0), (.int (3) 0), (.ref 144), (.bool true), (.int (181) 0), (.ref 145), .none, (.ref 146), (.ref 147), (.ref 148), (.int (403) 0), (.int (143) 0), (.str (Str.ofString "/claim/cut.py") 404)]), List.toArray []⟩
noncomputable def k150 : Obj := ⟨(.type "function"), none, .func ⟨(Str.ofString "run_decoded"), (Str.ofString "run_decoded"), fpar (top 28), .stmts (fbody (top 28)), fscope (top 28), 3, [], .none, .none, .none, (.str (Str.ofString "paperhold.asciis") 268), none, (.ref 149), .none, 0⟩, List.toArray []⟩
noncomputable def k158 : Obj := ⟨(.type "tuple"), none, .seq (List.toArray []) 0, List.toArray []⟩
noncomputable def k160 : Obj := ⟨(.type "tuple"), none, .seq (List.toArray [(.str (Str.ofString "self") 425), (.str (Str.ofString "text") 426)]) 0, List.toArray []⟩
noncomputable def k161 : Obj := ⟨(.type "tuple"), none, .seq (List.toArray []) 0, List.toArray []⟩
noncomputable def k163 : Obj := ⟨(.type "code"), none, .fields (List.toArray [(.str (Str.ofString "__init__") 422), (.str (Str.ofString "Name.__init__") 423), (.str (Str.ofString "/claim/cut.py") 424), (.int (163) 0), (.int (2) 0), (.int (0) 0), (.int (0) 0), (.int (3) 0), (.ref 158), (.bool true), (.int (181) 0), (.ref 159), .none, (.ref 160), (.ref 161), (.ref 162), (.int (427) 0), (.int (163) 0), (.str (Str.ofString "/claim/cut.py") 428)]), List.toArray []⟩
noncomputable def k164 : Obj := ⟨(.type "function"), none, .func ⟨(Str.ofString "__init__"), (Str.ofString "Name.__init__"), fpar (meth 31 0), .stmts (fbody (meth 31 0)), fscope (meth 31 0), 3, [], .none, .none, .none, (.str (Str.ofString "paperhold.objects") 406), none, (.ref 163), .none, 0⟩, List.toArray []⟩
noncomputable def k165 : Obj := ⟨(.type "tuple"), none, .seq (List.toArray [(.str (Str.ofString "text") 430)]) 0, List.toArray []⟩
noncomputable def k166 (P : Params) : Obj := ⟨(.type "dict"), none, .dict (List.toArray [en P (Str.ofString "__module__") 417 (.str (Str.ofString "paperhold.objects") 406), en P (Str.ofString "__firstlineno__") 421 (.int (161) 420), en P (Str.ofString "__init__") 429 (.ref 164), en P (Str.ofString "__static_attributes__") 431 (.ref 165), en P (Str.ofString "__dict__") 433 (.ref 168), en P (Str.ofString "__weakref__") 435 (.ref 169), en P (Str.ofString "__doc__") 436 .none]) 4, List.toArray []⟩
noncomputable def k167 : Obj := ⟨(.type "type"), none, .cls ⟨(Str.ofString "Name"), [(.type "object")], [(.ref 167), (.type "object")], 166, (Str.ofString "Name"), true, [], [], false, none, false⟩, List.toArray [none, none, (some (.str (Str.ofString "Name") 410)), (some (.str (Str.ofString "Name") 418)), (some (.builtin "object.__new__")), (some (.bool true))]⟩
noncomputable def k168 : Obj := ⟨(.type "getset_descriptor"), none, .fields (List.toArray [(.str (Str.ofString "__dict__") 432), (.ref 167), (.builtin "function.__dict__"), (.builtin "function.__dict__#set")]), List.toArray []⟩
noncomputable def k169 : Obj := ⟨(.type "getset_descriptor"), none, .fields (List.toArray [(.str (Str.ofString "__weakref__") 434), (.ref 167), (.builtin "ExceptionGroup.__weakref__"), .none]), List.toArray []⟩
noncomputable def k179 : Obj := ⟨(.type "tuple"), none, .seq (List.toArray []) 0, List.toArray []⟩
noncomputable def k181 : Obj := ⟨(.type "tuple"), none, .seq (List.toArray [(.str (Str.ofString "self") 454), (.str (Str.ofString "number") 455), (.str (Str.ofString "generation") 456)]) 0, List.toArray []⟩
noncomputable def k182 : Obj := ⟨(.type "tuple"), none, .seq (List.toArray []) 0, List.toArray []⟩
noncomputable def k184 : Obj := ⟨(.type "code"), none, .fields (List.toArray [(.str (Str.ofString "__init__") 451), (.str (Str.ofString "Reference.__init__") 452), (.str (Str.ofString "/claim/cut.py") 453), (.int (167) 0), (.int (3) 0), (.int (0) 0), (.int (0) 0), (.int (3) 0), (.ref 179), (.bool true), (.int (181) 0), (.ref 180), .none, (.ref 181), (.ref 182), (.ref 183), (.int (457) 0), (.int (167) 0), (.str (Str.ofString "/claim/cut.py") 458)]), List.toArray []⟩
noncomputable def k185 : Obj := ⟨(.type "function"), none, .func ⟨(Str.ofString "__init__"), (Str.ofString "Reference.__init__"), fpar (meth 32 0), .stmts (fbody (meth 32 0)), fscope (meth 32 0), 3, [], .none, .none, .none, (.str (Str.ofString "paperhold.objects") 406), none, (.ref 184), .none, 0⟩, List.toArray []⟩
noncomputable def k186 : Obj := ⟨(.type "tuple"), none, .seq (List.toArray []) 0, List.toArray []⟩
noncomputable def k188 : Obj := ⟨(.type "tuple"), none, .seq (List.toArray [(.str (Str.ofString "self") 463)]) 0, List.toArray []⟩
noncomputable def k189 : Obj := ⟨(.type "tuple"), none, .seq (List.toArray []) 0, List.toArray []⟩
noncomputable def k191 : Obj := ⟨(.type "code"), none, .fields (List.toArray [(.str (Str.ofString "pair") 460), (.str (Str.ofString "Reference.pair") 461), (.str (Str.ofString "/claim/cut.py") 462), (.int (171) 0), (.int (1) 0), (.int (0) 0), (.int (0) 0), (.int (3) 0), (.ref 186), (.bool true), (.int (181) 0), (.ref 187), .none, (.ref 188), (.ref 189), (.ref 190), (.int (464) 0), (.int (171) 0), (.str (Str.ofString "/claim/cut.py") 465)]), List.toArray []⟩
noncomputable def k192 : Obj := ⟨(.type "function"), none, .func ⟨(Str.ofString "pair"), (Str.ofString "Reference.pair"), fpar (meth 32 1), .stmts (fbody (meth 32 1)), fscope (meth 32 1), 3, [], .none, .none, .none, (.str (Str.ofString "paperhold.objects") 406), none, (.ref 191), .none, 0⟩, List.toArray []⟩
noncomputable def k193 : Obj := ⟨(.type "tuple"), none, .seq (List.toArray [(.str (Str.ofString "generation") 467), (.str (Str.ofString "number") 468)]) 0, List.toArray []⟩
noncomputable def k194 (P : Params) : Obj := ⟨(.type "dict"), none, .dict (List.toArray [en P (Str.ofString "__module__") 446 (.str (Str.ofString "paperhold.objects") 406), en P (Str.ofString "__firstlineno__") 450 (.int (165) 449), en P (Str.ofString "__init__") 459 (.ref 185), en P (Str.ofString "pair") 466 (.ref 192), en P (Str.ofString "__static_attributes__") 469 (.ref 193), en P (Str.ofString "__dict__") 471 (.ref 196), en P (Str.ofString "__weakref__") 473 (.ref 197), en P (Str.ofString "__doc__") 474 .none]) 4, List.toArray []⟩
noncomputable def k195 : Obj := ⟨(.type "type"), none, .cls ⟨(Str.ofString "Reference"), [(.type "object")], [(.ref 195), (.type "object")], 194, (Str.ofString "Reference"), true, [], [], false, none, false⟩, List.toArray [none, none, (some (.str (Str.ofString "Reference") 439)), (some (.str (Str.ofString "Reference") 447)), (some (.builtin "object.__new__")), (some (.bool true))]⟩
noncomputable def k196 : Obj := ⟨(.type "getset_descriptor"), none, .fields (List.toArray [(.str (Str.ofString "__dict__") 470), (.ref 195), (.builtin "function.__dict__"), (.builtin "function.__dict__#set")]), List.toArray []⟩
noncomputable def k197 : Obj := ⟨(.type "getset_descriptor"), none, .fields (List.toArray [(.str (Str.ofString "__weakref__") 472), (.ref 195), (.builtin "ExceptionGroup.__weakref__"), .none]), List.toArray []⟩
noncomputable def k207 : Obj := ⟨(.type "tuple"), none, .seq (List.toArray [.none, .none]) 0, List.toArray []⟩
noncomputable def k208 : Obj := ⟨(.type "tuple"), none, .seq (List.toArray []) 0, List.toArray []⟩
noncomputable def k210 : Obj := ⟨(.type "tuple"), none, .seq (List.toArray [(.str (Str.ofString "self") 492), (.str (Str.ofString "table") 493), (.str (Str.ofString "trailer") 494)]) 0, List.toArray []⟩
noncomputable def k211 : Obj := ⟨(.type "tuple"), none, .seq (List.toArray []) 0, List.toArray []⟩
noncomputable def k213 : Obj := ⟨(.type "code"), none, .fields (List.toArray [(.str (Str.ofString "__init__") 489), (.str (Str.ofString "Lookup.__init__") 490), (.str (Str.ofString "/claim/cut.py") 491), (.int (175) 0), (.int (3) 0), (.int (0) 0), (.int (0) 0), (.int (3) 0), (.ref 208), (.bool true), (.int (181) 0), (.ref 209), .none, (.ref 210), (.ref 211), (.ref 212), (.int (495) 0), (.int (175) 0), (.str (Str.ofString "/claim/cut.py") 496)]), List.toArray []⟩
noncomputable def k214 : Obj := ⟨(.type "function"), none, .func ⟨(Str.ofString "__init__"), (Str.ofString "Lookup.__init__"), fpar (meth 33 0), .stmts (fbody (meth 33 0)), fscope (meth 33 0), 3, [], (.ref 207), .none, .none, (.str (Str.ofString "paperhold.objects") 406), none, (.ref 213), .none, 0⟩, List.toArray []⟩
noncomputable def k215 : Obj := ⟨(.type "tuple"), none, .seq (List.toArray []) 0, List.toArray []⟩
noncomputable def k217 : Obj := ⟨(.type "tuple"), none, .seq (List.toArray [(.str (Str.ofString "self") 501), (.str (Str.ofString "value") 502), (.str (Str.ofString "here") 503), (.str (Str.ofString "hop") 504), (.str (Str.ofString "generation") 505), (.str (Str.ofString "found") 506)]) 0, List.toArray []⟩
noncomputable def k218 : Obj := ⟨(.type "tuple"), none, .seq (List.toArray []) 0, List.toArray []⟩
noncomputable def k220 : Obj := ⟨(.type "code"), none, .fields (List.toArray [(.str (Str.ofString "fetch") 498), (.str (Str.ofString "Lookup.fetch") 499), (.str (Str.ofString "/claim/cut.py") 500), (.int (179) 0), (.int (2) 0), (.int (0) 0), (.int (0) 0), (.int (3) 0), (.ref 215), (.bool true), (.int (181) 0), (.ref 216), .none, (.ref 217), (.ref 218), (.ref 219), (.int (507) 0), (.int (179) 0), (.str (Str.ofString "/claim/cut.py") 508)]), List.toArray []⟩
noncomputable def k221 : Obj := ⟨(.type "function"), none, .func ⟨(Str.ofString "fetch"), (Str.ofString "Lookup.fetch"), fpar (meth 33 1), .stmts (fbody (meth 33 1)), fscope (meth 33 1), 3, [], .none, .none, .none, (.str (Str.ofString "paperhold.objects") 406), none, (.ref 220), .none, 0⟩, List.toArray []⟩
noncomputable def k222 : Obj := ⟨(.type "tuple"), none, .seq (List.toArray []) 0, List.toArray []⟩
noncomputable def k224 : Obj := ⟨(.type "tuple"), none, .seq (List.toArray [(.str (Str.ofString "self") 513), (.str (Str.ofString "head") 514), (.str (Str.ofString "key") 515)]) 0, List.toArray []⟩
noncomputable def k225 : Obj := ⟨(.type "tuple"), none, .seq (List.toArray []) 0, List.toArray []⟩
noncomputable def k227 : Obj := ⟨(.type "code"), none, .fields (List.toArray [(.str (Str.ofString "get") 510), (.str (Str.ofString "Lookup.get") 511), (.str (Str.ofString "/claim/cut.py") 512), (.int (190) 0), (.int (3) 0), (.int (0) 0), (.int (0) 0), (.int (3) 0), (.ref 222), (.bool true), (.int (181) 0), (.ref 223), .none, (.ref 224), (.ref 225), (.ref 226), (.int (516) 0), (.int (190) 0), (.str (Str.ofString "/claim/cut.py") 517)]), List.toArray []⟩
noncomputable def k228 : Obj := ⟨(.type "function"), none, .func ⟨(Str.ofString "get"), (Str.ofString "Lookup.get"), fpar (meth 33 2), .stmts (fbody (meth 33 2)), fscope (meth 33 2), 3, [], .none, .none, .none, (.str (Str.ofString "paperhold.objects") 406), none, (.ref 227), .none, 0⟩, List.toArray []⟩
noncomputable def k229 : Obj := ⟨(.type "tuple"), none, .seq (List.toArray [(.str (Str.ofString "table") 519), (.str (Str.ofString "trailer") 520)]) 0, List.toArray []⟩
noncomputable def k230 (P : Params) : Obj := ⟨(.type "dict"), none, .dict (List.toArray [en P (Str.ofString "__module__") 484 (.str (Str.ofString "paperhold.objects") 406), en P (Str.ofString "__firstlineno__") 488 (.int (173) 487), en P (Str.ofString "__init__") 497 (.ref 214), en P (Str.ofString "fetch") 509 (.ref 221), en P (Str.ofString "get") 518 (.ref 228), en P (Str.ofString "__static_attributes__") 521 (.ref 229), en P (Str.ofString "__dict__") 523 (.ref 232), en P (Str.ofString "__weakref__") 525 (.ref 233), en P (Str.ofString "__doc__") 526 .none]) 4, List.toArray []⟩
noncomputable def k231 : Obj := ⟨(.type "type"), none, .cls ⟨(Str.ofString "Lookup"), [(.type "object")], [(.ref 231), (.type "object")], 230, (Str.ofString "Lookup"), true, [], [], false, none, false⟩, List.toArray [none, none, (some (.str (Str.ofString "Lookup") 477)), (some (.str (Str.ofString "Lookup") 485)), (some (.builtin "object.__new__")), (some (.bool true))]⟩
noncomputable def k232 : Obj := ⟨(.type "getset_descriptor"), none, .fields (List.toArray [(.str (Str.ofString "__dict__") 522), (.ref 231), (.builtin "function.__dict__"), (.builtin "function.__dict__#set")]), List.toArray []⟩
noncomputable def k233 : Obj := ⟨(.type "getset_descriptor"), none, .fields (List.toArray [(.str (Str.ofString "__weakref__") 524), (.ref 231), (.builtin "ExceptionGroup.__weakref__"), .none]), List.toArray []⟩
noncomputable def k236 : Obj := ⟨(.type "tuple"), none, .seq (List.toArray []) 0, List.toArray []⟩
noncomputable def k238 : Obj := ⟨(.type "tuple"), none, .seq (List.toArray [(.str (Str.ofString "text") 534), (.str (Str.ofString "short") 535)]) 0, List.toArray []⟩
noncomputable def k239 : Obj := ⟨(.type "tuple"), none, .seq (List.toArray []) 0, List.toArray []⟩
noncomputable def k241 : Obj := ⟨(.type "code"), none, .fields (List.toArray [(.str (Str.ofString "full_name") 531), (.str (Str.ofString "full_name") 532), (.str (Str.ofString "/claim/cut.py") 533), (.int (193) 0), (.int (1) 0), (.int (0) 0), (.int (0) 0), (.int (3) 0), (.ref 236), (.bool true), (.int (181) 0), (.ref 237), .none, (.ref 238), (.ref 239), (.ref 240), (.int (536) 0), (.int (193) 0), (.str (Str.ofString "/claim/cut.py") 537)]), List.toArray []⟩
noncomputable def k242 : Obj := ⟨(.type "function"), none, .func ⟨(Str.ofString "full_name"), (Str.ofString "full_name"), fpar (top 35), .stmts (fbody (top 35)), fscope (top 35), 3, [], .none, .none, .none, (.str (Str.ofString "paperhold.filters") 529), none, (.ref 241), .none, 0⟩, List.toArray []⟩
noncomputable def k243 : Obj := ⟨(.type "tuple"), none, .seq (List.toArray []) 0, List.toArray []⟩
noncomputable def k245 : Obj := ⟨(.type "tuple"), none, .seq (List.toArray [(.str (Str.ofString "shelf") 542), (.str (Str.ofString "head") 543), (.str (Str.ofString "given") 544), (.str (Str.ofString "names") 545), (.str (Str.ofString "item") 546), (.str (Str.ofString "name") 547)]) 0, List.toArray []⟩
noncomputable def k246 : Obj := ⟨(.type "tuple"), none, .seq (List.toArray []) 0, List.toArray []⟩
noncomputable def k248 : Obj := ⟨(.type "code"), none, .fields (List.toArray [(.str (Str.ofString "filter_names") 539), (.str (Str.ofString "filter_names") 540), (.str (Str.ofString "/claim/cut.py") 541), (.int (196) 0), (.int (2) 0), (.int (0) 0), (.int (0) 0), (.int (3) 0), (.ref 243), (.bool true), (.int (181) 0), (.ref 244), .none, (.ref 245), (.ref 246), (.ref 247), (.int (548) 0), (.int (196) 0), (.str (Str.ofString "/claim/cut.py") 549)]), List.toArray []⟩
noncomputable def k249 : Obj := ⟨(.type "function"), none, .func ⟨(Str.ofString "filter_names"), (Str.ofString "filter_names"), fpar (top 36), .stmts (fbody (top 36)), fscope (top 36), 3, [], .none, .none, .none, (.str (Str.ofString "paperhold.filters") 529), none, (.ref 248), .none, 0⟩, List.toArray []⟩
noncomputable def k250 : Obj := ⟨(.type "tuple"), none, .seq (List.toArray []) 0, List.toArray []⟩
noncomputable def k253 : Obj := ⟨(.type "code"), none, .fields (List.toArray [(.str (Str.ofString "filter_parms") 551), (.str (Str.ofString "filter_parms") 552), (.str (Str.ofString "/claim/cut.py") 553), (.int (207) 0), (.int (3) 0), (.int (0) 0), (.int (0) 0), (.int (3) 0), (.ref 250), (.bool true), (.int (181) 0), (.ref 251), .none, .none, .none, (.ref 252), (.int (554) 0), (.int (207) 0), (.str (Str.ofString "/claim/cut.py") 555)]), List.toArray []⟩
noncomputable def k254 : Obj := ⟨(.type "function"), none, .func ⟨(Str.ofString "filter_parms"), (Str.ofString "filter_parms"), fpar (top 37), .stmts (fbody (top 37)), fscope (top 37), 3, [], .none, .none, .none, (.str (Str.ofString "paperhold.filters") 529), none, (.ref 253), .none, 0⟩, List.toArray []⟩
noncomputable def k255 : Obj := ⟨(.type "tuple"), none, .seq (List.toArray []) 0, List.toArray []⟩
noncomputable def k257 : Obj := ⟨(.type "tuple"), none, .seq (List.toArray [(.str (Str.ofString "parms") 560), (.str (Str.ofString "early") 561)]) 0, List.toArray []⟩
noncomputable def k258 : Obj := ⟨(.type "tuple"), none, .seq (List.toArray []) 0, List.toArray []⟩
noncomputable def k260 : Obj := ⟨(.type "code"), none, .fields (List.toArray [(.str (Str.ofString "early_of") 557), (.str (Str.ofString "early_of") 558), (.str (Str.ofString "/claim/cut.py") 559), (.int (223) 0), (.int (1) 0), (.int (0) 0), (.int (0) 0), (.int (3) 0), (.ref 255), (.bool true), (.int (181) 0), (.ref 256), .none, (.ref 257), (.ref 258), (.ref 259), (.int (562) 0), (.int (223) 0), (.str (Str.ofString "/claim/cut.py") 563)]), List.toArray []⟩
noncomputable def k261 : Obj := ⟨(.type "function"), none, .func ⟨(Str.ofString "early_of"), (Str.ofString "early_of"), fpar (top 38), .stmts (fbody (top 38)), fscope (top 38), 3, [], .none, .none, .none, (.str (Str.ofString "paperhold.filters") 529), none, (.ref 260), .none, 0⟩, List.toArray []⟩
noncomputable def k262 : Obj := ⟨(.type "tuple"), none, .seq (List.toArray []) 0, List.toArray []⟩
noncomputable def k264 : Obj := ⟨(.type "tuple"), none, .seq (List.toArray [(.str (Str.ofString "name") 568), (.str (Str.ofString "octets") 569)]) 0, List.toArray []⟩
noncomputable def k265 : Obj := ⟨(.type "tuple"), none, .seq (List.toArray []) 0, List.toArray []⟩
noncomputable def k267 : Obj := ⟨(.type "code"), none, .fields (List.toArray [(.str (Str.ofString "undo_plain") 565), (.str (Str.ofString "undo_plain") 566), (.str (Str.ofString "/claim/cut.py") 567), (.int (230) 0), (.int (2) 0), (.int (0) 0), (.int (0) 0), (.int (3) 0), (.ref 262), (.bool true), (.int (181) 0), (.ref 263), .none, (.ref 264), (.ref 265), (.ref 266), (.int (570) 0), (.int (230) 0), (.str (Str.ofString "/claim/cut.py") 571)]), List.toArray []⟩
noncomputable def k268 : Obj := ⟨(.type "function"), none, .func ⟨(Str.ofString "undo_plain"), (Str.ofString "undo_plain"), fpar (top 39), .stmts (fbody (top 39)), fscope (top 39), 3, [], .none, .none, .none, (.str (Str.ofString "paperhold.filters") 529), none, (.ref 267), .none, 0⟩, List.toArray []⟩
noncomputable def k269 : Obj := ⟨(.type "tuple"), none, .seq (List.toArray []) 0, List.toArray []⟩
noncomputable def k271 : Obj := ⟨(.type "tuple"), none, .seq (List.toArray [(.str (Str.ofString "name") 576), (.str (Str.ofString "octets") 577)]) 0, List.toArray []⟩
noncomputable def k272 : Obj := ⟨(.type "tuple"), none, .seq (List.toArray []) 0, List.toArray []⟩
noncomputable def k274 : Obj := ⟨(.type "code"), none, .fields (List.toArray [(.str (Str.ofString "apply_plain") 573), (.str (Str.ofString "apply_plain") 574), (.str (Str.ofString "/claim/cut.py") 575), (.int (236) 0), (.int (2) 0), (.int (0) 0), (.int (0) 0), (.int (3) 0), (.ref 269), (.bool true), (.int (181) 0), (.ref 270), .none, (.ref 271), (.ref 272), (.ref 273), (.int (578) 0), (.int (236) 0), (.str (Str.ofString "/claim/cut.py") 579)]), List.toArray []⟩
noncomputable def k275 : Obj := ⟨(.type "function"), none, .func ⟨(Str.ofString "apply_plain"), (Str.ofString "apply_plain"), fpar (top 40), .stmts (fbody (top 40)), fscope (top 40), 3, [], .none, .none, .none, (.str (Str.ofString "paperhold.filters") 529), none, (.ref 274), .none, 0⟩, List.toArray []⟩
noncomputable def k276 : Obj := ⟨(.type "tuple"), none, .seq (List.toArray []) 0, List.toArray []⟩
noncomputable def k279 : Obj := ⟨(.type "code"), none, .fields (List.toArray [(.str (Str.ofString "head_of") 581), (.str (Str.ofString "head_of") 582), (.str (Str.ofString "/claim/cut.py") 583), (.int (242) 0), (.int (3) 0), (.int (0) 0), (.int (0) 0), (.int (3) 0), (.ref 276), (.bool true), (.int (181) 0), (.ref 277), .none, .none, .none, (.ref 278), (.int (584) 0), (.int (242) 0), (.str (Str.ofString "/claim/cut.py") 585)]), List.toArray []⟩
noncomputable def k280 : Obj := ⟨(.type "function"), none, .func ⟨(Str.ofString "head_of"), (Str.ofString "head_of"), fpar (top 41), .stmts (fbody (top 41)), fscope (top 41), 3, [], .none, .none, .none, (.str (Str.ofString "paperhold.filters") 529), none, (.ref 279), .none, 0⟩, List.toArray []⟩
noncomputable def k281 : Obj := ⟨(.type "tuple"), none, .seq (List.toArray [(.str (Str.ofString "ASCIIHexDecode") 589), (.str (Str.ofString "AHx") 590)]) 0, List.toArray []⟩
noncomputable def k282 : Obj := ⟨(.type "tuple"), none, .seq (List.toArray [(.str (Str.ofString "ASCII85Decode") 591), (.str (Str.ofString "A85") 592)]) 0, List.toArray []⟩
noncomputable def k283 : Obj := ⟨(.type "tuple"), none, .seq (List.toArray [(.str (Str.ofString "RunLengthDecode") 593), (.str (Str.ofString "RL") 594)]) 0, List.toArray []⟩
noncomputable def k284 : Obj := ⟨(.type "tuple"), none, .seq (List.toArray [(.str (Str.ofString "FlateDecode") 595), (.str (Str.ofString "Fl") 596)]) 0, List.toArray []⟩
noncomputable def k285 : Obj := ⟨(.type "tuple"), none, .seq (List.toArray [(.str (Str.ofString "LZWDecode") 597), (.str (Str.ofString "LZW") 598)]) 0, List.toArray []⟩
noncomputable def k286 : Obj := ⟨(.type "tuple"), none, .seq (List.toArray [(.str (Str.ofString "CCITTFaxDecode") 599), (.str (Str.ofString "CCF") 600)]) 0, List.toArray []⟩
noncomputable def k287 : Obj := ⟨(.type "tuple"), none, .seq (List.toArray [(.str (Str.ofString "DCTDecode") 601), (.str (Str.ofString "DCT") 602)]) 0, List.toArray []⟩
noncomputable def k288 : Obj := ⟨(.type "tuple"), none, .seq (List.toArray [(.str (Str.ofString "JPXDecode") 603), (.str (Str.ofString "JPXDecode") 604)]) 0, List.toArray []⟩
noncomputable def k289 : Obj := ⟨(.type "tuple"), none, .seq (List.toArray [(.str (Str.ofString "fl") 605), (.str (Str.ofString "fl") 606)]) 0, List.toArray []⟩
noncomputable def k290 : Obj := ⟨(.type "tuple"), none, .seq (List.toArray [(.ref 281), (.ref 282), (.ref 283), (.ref 284), (.ref 285), (.ref 286), (.ref 287), (.ref 288), (.ref 289)]) 0, List.toArray []⟩
noncomputable def k291 : Obj := ⟨(.type "tuple"), none, .seq (List.toArray []) 0, List.toArray []⟩
noncomputable def k293 : Obj := ⟨(.type "tuple"), none, .seq (List.toArray [(.str (Str.ofString "pen") 611), (.str (Str.ofString "many") 612), (.str (Str.ofString "digit") 613), (.str (Str.ofString "spot") 614), (.str (Str.ofString "cell") 615), (.str (Str.ofString "great") 616)]) 0, List.toArray []⟩
noncomputable def k294 : Obj := ⟨(.type "tuple"), none, .seq (List.toArray []) 0, List.toArray []⟩
noncomputable def k296 : Obj := ⟨(.type "code"), none, .fields (List.toArray [(.str (Str.ofString "_law_draw") 608), (.str (Str.ofString "_law_draw") 609), (.str (Str.ofString "/claim/cut.py") 610), (.int (254) 0), (.int (2) 0), (.int (0) 0), (.int (0) 0), (.int (3) 0), (.ref 291), (.bool true), (.int (181) 0), (.ref 292), .none, (.ref 293), (.ref 294), (.ref 295), (.int (617) 0), (.int (254) 0), (.str (Str.ofString "/claim/cut.py") 618)]), List.toArray []⟩
noncomputable def k297 : Obj := ⟨(.type "function"), none, .func ⟨(Str.ofString "_law_draw"), (Str.ofString "_law_draw"), fpar (top 44), .stmts (fbody (top 44)), fscope (top 44), 3, [], .none, .none, .none, (.str (Str.ofString "law_nn0215_01") 587), none, (.ref 296), .none, 0⟩, List.toArray []⟩
noncomputable def k298 : Obj := ⟨(.type "tuple"), none, .seq (List.toArray []) 0, List.toArray []⟩
noncomputable def k300 : Obj := ⟨(.type "tuple"), none, .seq (List.toArray [(.str (Str.ofString "script") 623)]) 0, List.toArray []⟩
noncomputable def k301 : Obj := ⟨(.type "tuple"), none, .seq (List.toArray []) 0, List.toArray []⟩
noncomputable def k303 : Obj := ⟨(.type "code"), none, .fields (List.toArray [(.str (Str.ofString "_law_pen") 620), (.str (Str.ofString "_law_pen") 621), (.str (Str.ofString "/claim/cut.py") 622), (.int (269) 0), (.int (1) 0), (.int (0) 0), (.int (0) 0), (.int (3) 0), (.ref 298), (.bool true), (.int (181) 0), (.ref 299), .none, (.ref 300), (.ref 301), (.ref 302), (.int (624) 0), (.int (269) 0), (.str (Str.ofString "/claim/cut.py") 625)]), List.toArray []⟩
noncomputable def k304 : Obj := ⟨(.type "function"), none, .func ⟨(Str.ofString "_law_pen"), (Str.ofString "_law_pen"), fpar (top 45), .stmts (fbody (top 45)), fscope (top 45), 3, [], .none, .none, .none, (.str (Str.ofString "law_nn0215_01") 587), none, (.ref 303), .none, 0⟩, List.toArray []⟩
noncomputable def k305 : Obj := ⟨(.type "tuple"), none, .seq (List.toArray []) 0, List.toArray []⟩
noncomputable def k307 : Obj := ⟨(.type "tuple"), none, .seq (List.toArray [(.str (Str.ofString "pen") 630), (.str (Str.ofString "most") 631), (.str (Str.ofString "found") 632), (.str (Str.ofString "turn") 633), (.str (Str.ofString "way") 634)]) 0, List.toArray []⟩
noncomputable def k308 : Obj := ⟨(.type "tuple"), none, .seq (List.toArray []) 0, List.toArray []⟩
noncomputable def k310 : Obj := ⟨(.type "code"), none, .fields (List.toArray [(.str (Str.ofString "_law_octets") 627), (.str (Str.ofString "_law_octets") 628), (.str (Str.ofString "/claim/cut.py") 629), (.int (271) 0), (.int (2) 0), (.int (0) 0), (.int (0) 0), (.int (3) 0), (.ref 305), (.bool true), (.int (181) 0), (.ref 306), .none, (.ref 307), (.ref 308), (.ref 309), (.int (635) 0), (.int (271) 0), (.str (Str.ofString "/claim/cut.py") 636)]), List.toArray []⟩
noncomputable def k311 : Obj := ⟨(.type "function"), none, .func ⟨(Str.ofString "_law_octets"), (Str.ofString "_law_octets"), fpar (top 46), .stmts (fbody (top 46)), fscope (top 46), 3, [], .none, .none, .none, (.str (Str.ofString "law_nn0215_01") 587), none, (.ref 310), .none, 0⟩, List.toArray []⟩
noncomputable def k312 : Obj := ⟨(.type "tuple"), none, .seq (List.toArray []) 0, List.toArray []⟩
noncomputable def k314 : Obj := ⟨(.type "tuple"), none, .seq (List.toArray [(.str (Str.ofString "work") 641), (.str (Str.ofString "caught") 642), (.str (Str.ofString "found") 643), (.str (Str.ofString "error") 644)]) 0, List.toArray []⟩
noncomputable def k315 : Obj := ⟨(.type "tuple"), none, .seq (List.toArray []) 0, List.toArray []⟩
noncomputable def k317 : Obj := ⟨(.type "code"), none, .fields (List.toArray [(.str (Str.ofString "_law_heard") 638), (.str (Str.ofString "_law_heard") 639), (.str (Str.ofString "/claim/cut.py") 640), (.int (277) 0), (.int (1) 0), (.int (0) 0), (.int (0) 0), (.int (3) 0), (.ref 312), (.bool true), (.int (181) 0), (.ref 313), .none, (.ref 314), (.ref 315), (.ref 316), (.int (645) 0), (.int (277) 0), (.str (Str.ofString "/claim/cut.py") 646)]), List.toArray []⟩
noncomputable def k318 : Obj := ⟨(.type "function"), none, .func ⟨(Str.ofString "_law_heard"), (Str.ofString "_law_heard"), fpar (top 47), .stmts (fbody (top 47)), fscope (top 47), 3, [], .none, .none, .none, (.str (Str.ofString "law_nn0215_01") 587), none, (.ref 317), .none, 0⟩, List.toArray []⟩
noncomputable def k319 : Obj := ⟨(.type "tuple"), none, .seq (List.toArray []) 0, List.toArray []⟩
noncomputable def k321 : Obj := ⟨(.type "tuple"), none, .seq (List.toArray [(.str (Str.ofString "pen") 651), (.str (Str.ofString "value") 652), (.str (Str.ofString "table") 653), (.str (Str.ofString "turn") 654), (.str (Str.ofString "number") 655)]) 0, List.toArray []⟩
noncomputable def k322 : Obj := ⟨(.type "tuple"), none, .seq (List.toArray []) 0, List.toArray []⟩
noncomputable def k324 : Obj := ⟨(.type "code"), none, .fields (List.toArray [(.str (Str.ofString "_law_bent") 648), (.str (Str.ofString "_law_bent") 649), (.str (Str.ofString "/claim/cut.py") 650), (.int (284) 0), (.int (3) 0), (.int (0) 0), (.int (0) 0), (.int (3) 0), (.ref 319), (.bool true), (.int (181) 0), (.ref 320), .none, (.ref 321), (.ref 322), (.ref 323), (.int (656) 0), (.int (284) 0), (.str (Str.ofString "/claim/cut.py") 657)]), List.toArray []⟩
noncomputable def k325 : Obj := ⟨(.type "function"), none, .func ⟨(Str.ofString "_law_bent"), (Str.ofString "_law_bent"), fpar (top 48), .stmts (fbody (top 48)), fscope (top 48), 3, [], .none, .none, .none, (.str (Str.ofString "law_nn0215_01") 587), none, (.ref 324), .none, 0⟩, List.toArray []⟩
noncomputable def k326 : Obj := ⟨(.type "tuple"), none, .seq (List.toArray []) 0, List.toArray []⟩
noncomputable def k328 : Obj := ⟨(.type "tuple"), none, .seq (List.toArray [(.str (Str.ofString "pen") 662)]) 0, List.toArray []⟩
noncomputable def k329 : Obj := ⟨(.type "tuple"), none, .seq (List.toArray []) 0, List.toArray []⟩
noncomputable def k331 : Obj := ⟨(.type "code"), none, .fields (List.toArray [(.str (Str.ofString "_law_lost") 659), (.str (Str.ofString "_law_lost") 660), (.str (Str.ofString "/claim/cut.py") 661), (.int (290) 0), (.int (1) 0), (.int (0) 0), (.int (0) 0), (.int (3) 0), (.ref 326), (.bool true), (.int (181) 0), (.ref 327), .none, (.ref 328), (.ref 329), (.ref 330), (.int (663) 0), (.int (290) 0), (.str (Str.ofString "/claim/cut.py") 664)]), List.toArray []⟩
noncomputable def k332 : Obj := ⟨(.type "function"), none, .func ⟨(Str.ofString "_law_lost"), (Str.ofString "_law_lost"), fpar (top 49), .stmts (fbody (top 49)), fscope (top 49), 3, [], .none, .none, .none, (.str (Str.ofString "law_nn0215_01") 587), none, (.ref 331), .none, 0⟩, List.toArray []⟩
noncomputable def k333 : Obj := ⟨(.type "tuple"), none, .seq (List.toArray []) 0, List.toArray []⟩
noncomputable def k336 : Obj := ⟨(.type "code"), none, .fields (List.toArray [(.str (Str.ofString "law") 666), (.str (Str.ofString "law") 667), (.str (Str.ofString "/claim/cut.py") 668), (.int (292) 0), (.int (1) 0), (.int (0) 0), (.int (0) 0), (.int (3) 0), (.ref 333), (.bool true), (.int (181) 0), (.ref 334), .none, .none, .none, (.ref 335), (.int (669) 0), (.int (292) 0), (.str (Str.ofString "/claim/cut.py") 670)]), List.toArray []⟩
noncomputable def k337 : Obj := ⟨(.type "function"), none, .func ⟨(Str.ofString "law"), (Str.ofString "law"), fpar (top 50), .stmts (fbody (top 50)), fscope (top 50), 3, [], .none, .none, .none, (.str (Str.ofString "law_nn0215_01") 587), none, (.ref 336), .none, 0⟩, List.toArray []⟩
noncomputable def K0 (P : Params) : Frag := [(2, k2 P), (3, k3 P), (15, k15), (17, k17), (18, k18), (20, k20), (21, k21), (22, k22), (23, k23), (25, k25), (26, k26), (28, k28), (29, k29), (30, k30), (37, k37), (38, k38), (40, k40), (41, k41), (43, k43), (44, k44), (45, k45), (47, k47), (48, k48), (50, k50), (51, k51), (52, k52), (53, k53 P), (54, k54), (55, k55), (58, k58), (65, k65), (66, k66 P), (67, k67), (70, k70), (71, k71), (73, k73), (74, k74), (76, k76), (77, k77), (78, k78), (80, k80), (81, k81), (83, k83), (84, k84), (85, k85), (88, k88), (89, k89), (90, k90), (92, k92), (93, k93), (95, k95), (96, k96), (97, k97), (100, k100), (101, k101), (102, k102), (104, k104), (105, k105), (107, k107), (108, k108), (109, k109), (111, k111), (112, k112), (114, k114), (115, k115), (116, k116), (118, k118), (119, k119), (121, k121), (122, k122), (123, k123), (125, k125), (126, k126), (128, k128), (129, k129), (130, k130), (132, k132), (133, k133), (135, k135), (136, k136), (137, k137), (139, k139), (140, k140), (142, k142), (143, k143), (144, k144), (146, k146), (147, k147), (149, k149), (150, k150), (158, k158), (160, k160), (161, k161), (163, k163), (164, k164), (165, k165), (166, k166 P), (167, k167), (168, k168), (169, k169), (179, k179), (181, k181), (182, k182), (184, k184), (185, k185), (186, k186), (188, k188), (189, k189), (191, k191), (192, k192), (193, k193), (194, k194 P), (195, k195), (196, k196), (197, k197), (207, k207), (208, k208), (210, k210), (211, k211), (213, k213), (214, k214), (215, k215), (217, k217), (218, k218), (220, k220), (221, k221), (222, k222), (224, k224), (225, k225), (227, k227), (228, k228), (229, k229), (230, k230 P), (231, k231), (232, k232), (233, k233), (236, k236), (238, k238), (239, k239), (241, k241), (242, k242), (243, k243), (245, k245), (246, k246), (248, k248), (249, k249), (250, k250), (253, k253), (254, k254), (255, k255), (257, k257), (258, k258), (260, k260), (261, k261), (262, k262), (264, k264), (265, k265), (267, k267), (268, k268), (269, k269), (271, k271), (272, k272), (274, k274), (275, k275), (276, k276), (279, k279), (280, k280), (281, k281), (282, k282), (283, k283), (284, k284), (285, k285), (286, k286), (287, k287), (288, k288), (289, k289), (290, k290), (291, k291), (293, k293), (294, k294), (296, k296), (297, k297), (298, k298), (300, k300), (301, k301), (303, k303), (304, k304), (305, k305), (307, k307), (308, k308), (310, k310), (311, k311), (312, k312), (314, k314), (315, k315), (317, k317), (318, k318), (319, k319), (321, k321), (322, k322), (324, k324), (325, k325), (326, k326), (328, k328), (329, k329), (331, k331), (332, k332), (333, k333), (336, k336), (337, k337)]
noncomputable def as0 : List Addr := [2, 3, 15, 17, 18, 20, 21, 22, 23, 25, 26, 28, 29, 30, 37, 38, 40, 41, 43, 44, 45, 47, 48, 50, 51, 52, 53, 54, 55, 58, 65, 66, 67, 70, 71, 73, 74, 76, 77, 78, 80, 81, 83, 84, 85, 88, 89, 90, 92, 93, 95, 96, 97, 100, 101, 102, 104, 105, 107, 108, 109, 111, 112, 114, 115, 116, 118, 119, 121, 122, 123, 125, 126, 128, 129, 130, 132, 133, 135, 136, 137, 139, 140, 142, 143, 144, 146, 147, 149, 150, 158, 160, 161, 163, 164, 165, 166, 167, 168, 169, 179, 181, 182, 184, 185, 186, 188, 189, 191, 192, 193, 194, 195, 196, 197, 207, 208, 210, 211, 213, 214, 215, 217, 218, 220, 221, 222, 224, 225, 227, 228, 229, 230, 231, 232, 233, 236, 238, 239, 241, 242, 243, 245, 246, 248, 249, 250, 253, 254, 255, 257, 258, 260, 261, 262, 264, 265, 267, 268, 269, 271, 272, 274, 275, 276, 279, 280, 281, 282, 283, 284, 285, 286, 287, 288, 289, 290, 291, 293, 294, 296, 297, 298, 300, 301, 303, 304, 305, 307, 308, 310, 311, 312, 314, 315, 317, 318, 319, 321, 322, 324, 325, 326, 328, 329, 331, 332, 333, 336, 337]
structure Pg (G : Gd) : Prop where
  k : G.K = K0 G.w.params
noncomputable def fdOf (o : Obj) : FuncData := match o.data with
  | .func fd => fd
  | _ => default
section
variable {G : Gd} (H : Pg G)
include H
theorem Pg.at {a : Addr} {o : Obj} (e : (K0 G.w.params).lookup a = some o) : G.hT.get? a = some o := G.X a o (by rw [H.k]; exact e)
theorem Pg.code {cd : Value} {q : Str} (e : codeIn (K0 G.w.params) cd q = true) : G.hT.CodeRec cd q := codeRec_of G.X (by rw [H.k]; exact e)
noncomputable def findG (P : Params) (x : Str) : Option Value := match (k3 P).data with
  | .dict es _ => nsFind es x
  | _ => none
theorem Pg.mg (x : Str) : G.mg x = findG G.w.params x := by
  obtain ⟨o, es, ep, h1, h2, _, h4⟩ := G.T.g
  have h3 : G.hT.get? 3 = some (k3 G.w.params) := H.at (by kernel_rfl)
  rw [show mainGlobals = 3 from rfl] at h1
  rw [h3] at h1
  cases h1
  rw [← h4 x]
  unfold findG
  rw [h2]
theorem Pg.glob {x : Str} {v : V} {y : Value} (e : findG G.w.params x = some y) (r : VR v y) : G.glob x v := ⟨y, r, .inl ((H.mg x).trans e)⟩
theorem Pg.globB {x : Str} {v : V} {y : Value} (e : findG G.w.params x = none) (r : VR v y) (b : bootBuiltins x = some y) (h : x ≠ "__name__") : G.glob x v := ⟨y, r, .inr ⟨(H.mg x).trans e, h, b⟩⟩
end
section
open PySem PySem.W PyProof.Rows PySem.Calls PySem.Spec
/-! the head -/
noncomputable def keptAt : List Nat := [0, 2, 3, 5, 6, 8, 9, 10, 11, 12, 13, 14, 15, 16, 18, 19, 20, 21, 22, 23, 24, 25, 26, 27, 28, 30, 31, 32, 33, 35, 36, 37, 38, 39, 40, 41, 43, 44, 45, 46, 47, 48, 49, 50]
noncomputable def view0 : Program := { PySem.Challenge.pw_nn0215_01 with main := { PySem.Challenge.pw_nn0215_01.main with body := keptAt.map top } }
noncomputable def loose0 : List Str := [Str.ofString "PaperError", Str.ofString "MOST_GROUP", Str.ofString "hex_encoded"]
noncomputable def lv0 : List (Str × WData) := [(Str.ofString "MOST_GROUP", WData.int 4294967295)]
theorem as0_ok : ∀ P, as0 = (K0 P).map (·.1) := fun _ => by kernel_rfl
noncomputable def hook0 : Hook := kmHook K0 as0 as0_ok [334]
noncomputable def oa12 : Obj := ⟨.none, none, .fields (List.toArray []), List.toArray []⟩
noncomputable def oa13 : Obj := ⟨(.type "code"), none, .fields (List.toArray [(.str (Str.ofString "<module>") 182), (.str (Str.ofString "<module>") 183), (.str (Str.ofString "/claim/cut.py") 184), (.int (1) 0), (.int (0) 0), (.int (0) 0), (.int (0) 0), (.int (0) 0), (.ref 11), (.bool false), (.int (181) 0), (.ref 12), .none, .none, .none, .none, (.int (185) 0), (.int (1) 0), (.str (Str.ofString "/claim/cut.py") 186)]), List.toArray []⟩
noncomputable def oa14 : Obj := ⟨(.type "frame"), none, .plain, List.toArray [(some (.ref 13)), (some (.ref 3)), (some (.ref 3)), none, (some (.str (Str.ofString "__main__") 164)), none, (some (.ref 0))]⟩
noncomputable def o03 (P : Params) : Obj := ⟨(.type "dict"), none, .dict (List.toArray [en P (Str.ofString "__name__") 165 (.str (Str.ofString "paperhold.errors") 210), en P (Str.ofString "__doc__") 166 .none, en P (Str.ofString "__package__") 167 .none, en P (Str.ofString "__loader__") 168 (.builtin "__main__.__loader__#opaque"), en P (Str.ofString "__spec__") 169 .none, en P (Str.ofString "__annotations__") 170 (.ref 6), en P (Str.ofString "__builtins__") 171 (.ref 4), en P (Str.ofString "__file__") 173 (.str (Str.ofString "/claim/cut.py") 172), en P (Str.ofString "__cached__") 174 .none, en P (Str.ofString "_wall") 193 (.ref 21), en P (Str.ofString "WHITE") 202 (.ref 22), en P (Str.ofString "is_white") 209 (.ref 29), en P (Str.ofString "PaperError") 251 (.ref 54), en P (Str.ofString "FilterFault") 267 (.ref 67)]) 14, List.toArray []⟩
noncomputable def o012 : Obj := ⟨.none, none, .fields (List.toArray [(.int (1) 0), (.int (0) 0), (.ref 20), (.int (6) 0), (.int (0) 0), (.ref 28), (.int (9) 0), (.int (0) 0), (.ref 35), (.int (18) 0), (.int (0) 0), (.ref 63)]), List.toArray []⟩
noncomputable def o019 : Obj := ⟨.none, none, .func ⟨(Str.ofString "_wall"), (Str.ofString "_wall"), fpar (top 0), .stmts (fbody (top 0)), fscope (top 0), 0, [], .none, .none, .none, .none, none, .none, .none, 0⟩, List.toArray []⟩
noncomputable def o027 : Obj := ⟨.none, none, .func ⟨(Str.ofString "is_white"), (Str.ofString "is_white"), fpar (top 3), .stmts (fbody (top 3)), fscope (top 3), 0, [], .none, .none, .none, .none, none, .none, .none, 0⟩, List.toArray []⟩
noncomputable def o031 : Obj := ⟨(.type "builtin_function_or_method"), none, .fields (List.toArray [(.builtin "type.__prepare__"), (.type "type")]), List.toArray []⟩
noncomputable def o032 (P : Params) : Obj := ⟨(.type "dict"), none, .dict (List.toArray [en P (Str.ofString "__module__") 219 (.str (Str.ofString "paperhold.errors") 210), en P (Str.ofString "__qualname__") 221 (.str (Str.ofString "PaperError") 220), en P (Str.ofString "__firstlineno__") 223 (.int (9) 222), en P (Str.ofString "__init__") 234 (.ref 44), en P (Str.ofString "told") 241 (.ref 51), en P (Str.ofString "__static_attributes__") 244 (.ref 52)]) 6, List.toArray []⟩
noncomputable def o034 : Obj := ⟨.none, none, .fields (List.toArray [(.int (11) 0), (.int (4) 0), (.ref 43), (.int (16) 0), (.int (4) 0), (.ref 50)]), List.toArray []⟩
noncomputable def o035 : Obj := ⟨(.type "code"), none, .fields (List.toArray [(.str (Str.ofString "PaperError") 214), (.str (Str.ofString "PaperError") 215), (.str (Str.ofString "/claim/cut.py") 216), (.int (9) 0), (.int (0) 0), (.int (0) 0), (.int (0) 0), (.int (0) 0), (.ref 33), (.bool false), (.int (181) 0), (.ref 34), .none, .none, .none, .none, (.int (217) 0), (.int (9) 0), (.str (Str.ofString "/claim/cut.py") 218)]), List.toArray []⟩
noncomputable def o036 : Obj := ⟨(.type "frame"), none, .plain, List.toArray [(some (.ref 35)), (some (.ref 3)), (some (.ref 32)), none, (some (.str (Str.ofString "paperhold.errors") 210)), none, (some (.ref 0))]⟩
noncomputable def o042 : Obj := ⟨.none, none, .func ⟨(Str.ofString "__init__"), (Str.ofString "PaperError.__init__"), fpar (meth 5 0), .stmts (fbody (meth 5 0)), fscope (meth 5 0), 0, [], .none, .none, .none, .none, none, .none, .none, 0⟩, List.toArray []⟩
noncomputable def o049 : Obj := ⟨.none, none, .func ⟨(Str.ofString "told"), (Str.ofString "PaperError.told"), fpar (meth 5 1), .stmts (fbody (meth 5 1)), fscope (meth 5 1), 0, [], .none, .none, .none, .none, none, .none, .none, 0⟩, List.toArray []⟩
noncomputable def o056 : Obj := ⟨(.type "super"), none, .fields (List.toArray [(.ref 54), (.ref 54), (.ref 54)]), List.toArray []⟩
noncomputable def o057 : Obj := ⟨(.type "builtin_function_or_method"), none, .fields (List.toArray [(.builtin "object.__init_subclass__"), (.ref 54)]), List.toArray []⟩
noncomputable def o060 (P : Params) : Obj := ⟨(.type "dict"), none, .dict (List.toArray [en P (Str.ofString "__module__") 259 (.str (Str.ofString "paperhold.errors") 210), en P (Str.ofString "__qualname__") 261 (.str (Str.ofString "FilterFault") 260), en P (Str.ofString "__firstlineno__") 263 (.int (18) 262), en P (Str.ofString "__static_attributes__") 264 (.ref 65)]) 4, List.toArray []⟩
noncomputable def o063 : Obj := ⟨(.type "code"), none, .fields (List.toArray [(.str (Str.ofString "FilterFault") 254), (.str (Str.ofString "FilterFault") 255), (.str (Str.ofString "/claim/cut.py") 256), (.int (18) 0), (.int (0) 0), (.int (0) 0), (.int (0) 0), (.int (0) 0), (.ref 61), (.bool false), (.int (181) 0), (.ref 62), .none, .none, .none, .none, (.int (257) 0), (.int (18) 0), (.str (Str.ofString "/claim/cut.py") 258)]), List.toArray []⟩
noncomputable def o064 : Obj := ⟨(.type "frame"), none, .plain, List.toArray [(some (.ref 63)), (some (.ref 3)), (some (.ref 60)), none, (some (.str (Str.ofString "paperhold.errors") 210)), none, (some (.ref 0))]⟩
noncomputable def o068 : Obj := ⟨(.type "super"), none, .fields (List.toArray [(.ref 67), (.ref 67), (.ref 67)]), List.toArray []⟩
noncomputable def o069 : Obj := ⟨(.type "builtin_function_or_method"), none, .fields (List.toArray [(.builtin "object.__init_subclass__"), (.ref 67)]), List.toArray []⟩
noncomputable def o13 (P : Params) : Obj := ⟨(.type "dict"), none, .dict (List.toArray [en P (Str.ofString "__name__") 165 (.str (Str.ofString "paperhold.objects") 406), en P (Str.ofString "__doc__") 166 .none, en P (Str.ofString "__package__") 167 .none, en P (Str.ofString "__loader__") 168 (.builtin "__main__.__loader__#opaque"), en P (Str.ofString "__spec__") 169 .none, en P (Str.ofString "__annotations__") 170 (.ref 6), en P (Str.ofString "__builtins__") 171 (.ref 4), en P (Str.ofString "__file__") 173 (.str (Str.ofString "/claim/cut.py") 172), en P (Str.ofString "__cached__") 174 .none, en P (Str.ofString "_wall") 193 (.ref 21), en P (Str.ofString "WHITE") 202 (.ref 22), en P (Str.ofString "is_white") 209 (.ref 29), en P (Str.ofString "PaperError") 251 (.ref 54), en P (Str.ofString "FilterFault") 267 (.ref 67), en P (Str.ofString "FIGURES") 271 (.bytes (Array.mk [48, 49, 50, 51, 52, 53, 54, 55, 56, 57, 65, 66, 67, 68, 69, 70]) 270), en P (Str.ofString "HEX_END") 273 (.int (62) 272), en P (Str.ofString "TILDE") 275 (.int (126) 274), en P (Str.ofString "LEAST_SIGN") 277 (.int (33) 276), en P (Str.ofString "MOST_SIGN") 279 (.int (117) 278), en P (Str.ofString "FOUR_NOUGHTS") 281 (.int (122) 280), en P (Str.ofString "MOST_GROUP") 287 (.int (4294967295) 286), en P (Str.ofString "RUN_END") 289 (.int (128) 288), en P (Str.ofString "MOST_RUN") 291 (.int (128) 290), en P (Str.ofString "hex_encoded") 303 (.ref 77), en P (Str.ofString "figure_worth") 310 (.ref 84), en P (Str.ofString "hex_decoded") 316 (.ref 89), en P (Str.ofString "signs_of_group") 327 (.ref 96), en P (Str.ofString "base85_encoded") 333 (.ref 101), en P (Str.ofString "octets_of_group") 346 (.ref 108), en P (Str.ofString "is_end_at") 355 (.ref 115), en P (Str.ofString "base85_decoded") 367 (.ref 122), en P (Str.ofString "run_at") 376 (.ref 129), en P (Str.ofString "run_encoded") 387 (.ref 136), en P (Str.ofString "row_codes") 394 (.ref 143), en P (Str.ofString "run_decoded") 405 (.ref 150), en P (Str.ofString "MOST_HOPS") 409 (.int (30) 408)]) 36, List.toArray []⟩
noncomputable def o112 : Obj := ⟨.none, none, .fields (List.toArray [(.int (1) 0), (.int (0) 0), (.ref 20), (.int (6) 0), (.int (0) 0), (.ref 28), (.int (9) 0), (.int (0) 0), (.ref 35), (.int (18) 0), (.int (0) 0), (.ref 63), (.int (30) 0), (.int (0) 0), (.ref 76), (.int (39) 0), (.int (0) 0), (.ref 83), (.int (47) 0), (.int (0) 0), (.ref 88), (.int (60) 0), (.int (0) 0), (.ref 95), (.int (69) 0), (.int (0) 0), (.ref 100), (.int (80) 0), (.int (0) 0), (.ref 107), (.int (92) 0), (.int (0) 0), (.ref 114), (.int (99) 0), (.int (0) 0), (.ref 121), (.int (121) 0), (.int (0) 0), (.ref 128), (.int (126) 0), (.int (0) 0), (.ref 135), (.int (141) 0), (.int (0) 0), (.ref 142), (.int (143) 0), (.int (0) 0), (.ref 149)]), List.toArray []⟩
noncomputable def o175 : Obj := ⟨.none, none, .func ⟨(Str.ofString "hex_encoded"), (Str.ofString "hex_encoded"), fpar (top 17), .stmts (fbody (top 17)), fscope (top 17), 0, [], .none, .none, .none, .none, none, .none, .none, 0⟩, List.toArray []⟩
noncomputable def o182 : Obj := ⟨.none, none, .func ⟨(Str.ofString "figure_worth"), (Str.ofString "figure_worth"), fpar (top 18), .stmts (fbody (top 18)), fscope (top 18), 0, [], .none, .none, .none, .none, none, .none, .none, 0⟩, List.toArray []⟩
noncomputable def o187 : Obj := ⟨.none, none, .func ⟨(Str.ofString "hex_decoded"), (Str.ofString "hex_decoded"), fpar (top 19), .stmts (fbody (top 19)), fscope (top 19), 0, [], .none, .none, .none, .none, none, .none, .none, 0⟩, List.toArray []⟩
noncomputable def o194 : Obj := ⟨.none, none, .func ⟨(Str.ofString "signs_of_group"), (Str.ofString "signs_of_group"), fpar (top 20), .stmts (fbody (top 20)), fscope (top 20), 0, [], .none, .none, .none, .none, none, .none, .none, 0⟩, List.toArray []⟩
noncomputable def o199 : Obj := ⟨.none, none, .func ⟨(Str.ofString "base85_encoded"), (Str.ofString "base85_encoded"), fpar (top 21), .stmts (fbody (top 21)), fscope (top 21), 0, [], .none, .none, .none, .none, none, .none, .none, 0⟩, List.toArray []⟩
noncomputable def o1106 : Obj := ⟨.none, none, .func ⟨(Str.ofString "octets_of_group"), (Str.ofString "octets_of_group"), fpar (top 22), .stmts (fbody (top 22)), fscope (top 22), 0, [], .none, .none, .none, .none, none, .none, .none, 0⟩, List.toArray []⟩
noncomputable def o1113 : Obj := ⟨.none, none, .func ⟨(Str.ofString "is_end_at"), (Str.ofString "is_end_at"), fpar (top 23), .stmts (fbody (top 23)), fscope (top 23), 0, [], .none, .none, .none, .none, none, .none, .none, 0⟩, List.toArray []⟩
noncomputable def o1120 : Obj := ⟨.none, none, .func ⟨(Str.ofString "base85_decoded"), (Str.ofString "base85_decoded"), fpar (top 24), .stmts (fbody (top 24)), fscope (top 24), 0, [], .none, .none, .none, .none, none, .none, .none, 0⟩, List.toArray []⟩
noncomputable def o1127 : Obj := ⟨.none, none, .func ⟨(Str.ofString "run_at"), (Str.ofString "run_at"), fpar (top 25), .stmts (fbody (top 25)), fscope (top 25), 0, [], .none, .none, .none, .none, none, .none, .none, 0⟩, List.toArray []⟩
noncomputable def o1134 : Obj := ⟨.none, none, .func ⟨(Str.ofString "run_encoded"), (Str.ofString "run_encoded"), fpar (top 26), .stmts (fbody (top 26)), fscope (top 26), 0, [], .none, .none, .none, .none, none, .none, .none, 0⟩, List.toArray []⟩
noncomputable def o1141 : Obj := ⟨.none, none, .func ⟨(Str.ofString "row_codes"), (Str.ofString "row_codes"), fpar (top 27), .stmts (fbody (top 27)), fscope (top 27), 0, [], .none, .none, .none, .none, none, .none, .none, 0⟩, List.toArray []⟩
noncomputable def o1148 : Obj := ⟨.none, none, .func ⟨(Str.ofString "run_decoded"), (Str.ofString "run_decoded"), fpar (top 28), .stmts (fbody (top 28)), fscope (top 28), 0, [], .none, .none, .none, .none, none, .none, .none, 0⟩, List.toArray []⟩
noncomputable def o23 (P : Params) : Obj := ⟨(.type "dict"), none, .dict (List.toArray [en P (Str.ofString "__name__") 165 (.str (Str.ofString "paperhold.objects") 406), en P (Str.ofString "__doc__") 166 .none, en P (Str.ofString "__package__") 167 .none, en P (Str.ofString "__loader__") 168 (.builtin "__main__.__loader__#opaque"), en P (Str.ofString "__spec__") 169 .none, en P (Str.ofString "__annotations__") 170 (.ref 6), en P (Str.ofString "__builtins__") 171 (.ref 4), en P (Str.ofString "__file__") 173 (.str (Str.ofString "/claim/cut.py") 172), en P (Str.ofString "__cached__") 174 .none, en P (Str.ofString "_wall") 193 (.ref 21), en P (Str.ofString "WHITE") 202 (.ref 22), en P (Str.ofString "is_white") 209 (.ref 29), en P (Str.ofString "PaperError") 251 (.ref 54), en P (Str.ofString "FilterFault") 267 (.ref 67), en P (Str.ofString "FIGURES") 271 (.bytes (Array.mk [48, 49, 50, 51, 52, 53, 54, 55, 56, 57, 65, 66, 67, 68, 69, 70]) 270), en P (Str.ofString "HEX_END") 273 (.int (62) 272), en P (Str.ofString "TILDE") 275 (.int (126) 274), en P (Str.ofString "LEAST_SIGN") 277 (.int (33) 276), en P (Str.ofString "MOST_SIGN") 279 (.int (117) 278), en P (Str.ofString "FOUR_NOUGHTS") 281 (.int (122) 280), en P (Str.ofString "MOST_GROUP") 287 (.int (4294967295) 286), en P (Str.ofString "RUN_END") 289 (.int (128) 288), en P (Str.ofString "MOST_RUN") 291 (.int (128) 290), en P (Str.ofString "hex_encoded") 303 (.ref 77), en P (Str.ofString "figure_worth") 310 (.ref 84), en P (Str.ofString "hex_decoded") 316 (.ref 89), en P (Str.ofString "signs_of_group") 327 (.ref 96), en P (Str.ofString "base85_encoded") 333 (.ref 101), en P (Str.ofString "octets_of_group") 346 (.ref 108), en P (Str.ofString "is_end_at") 355 (.ref 115), en P (Str.ofString "base85_decoded") 367 (.ref 122), en P (Str.ofString "run_at") 376 (.ref 129), en P (Str.ofString "run_encoded") 387 (.ref 136), en P (Str.ofString "row_codes") 394 (.ref 143), en P (Str.ofString "run_decoded") 405 (.ref 150), en P (Str.ofString "MOST_HOPS") 409 (.int (30) 408), en P (Str.ofString "Name") 438 (.ref 167), en P (Str.ofString "Reference") 476 (.ref 195)]) 38, List.toArray []⟩
noncomputable def o212 : Obj := ⟨.none, none, .fields (List.toArray [(.int (1) 0), (.int (0) 0), (.ref 20), (.int (6) 0), (.int (0) 0), (.ref 28), (.int (9) 0), (.int (0) 0), (.ref 35), (.int (18) 0), (.int (0) 0), (.ref 63), (.int (30) 0), (.int (0) 0), (.ref 76), (.int (39) 0), (.int (0) 0), (.ref 83), (.int (47) 0), (.int (0) 0), (.ref 88), (.int (60) 0), (.int (0) 0), (.ref 95), (.int (69) 0), (.int (0) 0), (.ref 100), (.int (80) 0), (.int (0) 0), (.ref 107), (.int (92) 0), (.int (0) 0), (.ref 114), (.int (99) 0), (.int (0) 0), (.ref 121), (.int (121) 0), (.int (0) 0), (.ref 128), (.int (126) 0), (.int (0) 0), (.ref 135), (.int (141) 0), (.int (0) 0), (.ref 142), (.int (143) 0), (.int (0) 0), (.ref 149), (.int (161) 0), (.int (0) 0), (.ref 156), (.int (165) 0), (.int (0) 0), (.ref 177)]), List.toArray []⟩
noncomputable def o2153 (P : Params) : Obj := ⟨(.type "dict"), none, .dict (List.toArray [en P (Str.ofString "__module__") 417 (.str (Str.ofString "paperhold.objects") 406), en P (Str.ofString "__qualname__") 419 (.str (Str.ofString "Name") 418), en P (Str.ofString "__firstlineno__") 421 (.int (161) 420), en P (Str.ofString "__init__") 429 (.ref 164), en P (Str.ofString "__static_attributes__") 431 (.ref 165)]) 5, List.toArray []⟩
noncomputable def o2155 : Obj := ⟨.none, none, .fields (List.toArray [(.int (163) 0), (.int (4) 0), (.ref 163)]), List.toArray []⟩
noncomputable def o2156 : Obj := ⟨(.type "code"), none, .fields (List.toArray [(.str (Str.ofString "Name") 412), (.str (Str.ofString "Name") 413), (.str (Str.ofString "/claim/cut.py") 414), (.int (161) 0), (.int (0) 0), (.int (0) 0), (.int (0) 0), (.int (0) 0), (.ref 154), (.bool false), (.int (181) 0), (.ref 155), .none, .none, .none, .none, (.int (415) 0), (.int (161) 0), (.str (Str.ofString "/claim/cut.py") 416)]), List.toArray []⟩
noncomputable def o2157 : Obj := ⟨(.type "frame"), none, .plain, List.toArray [(some (.ref 156)), (some (.ref 3)), (some (.ref 153)), none, (some (.str (Str.ofString "paperhold.objects") 406)), none, (some (.ref 0))]⟩
noncomputable def o2162 : Obj := ⟨.none, none, .func ⟨(Str.ofString "__init__"), (Str.ofString "Name.__init__"), fpar (meth 31 0), .stmts (fbody (meth 31 0)), fscope (meth 31 0), 0, [], .none, .none, .none, .none, none, .none, .none, 0⟩, List.toArray []⟩
noncomputable def o2170 : Obj := ⟨(.type "super"), none, .fields (List.toArray [(.ref 167), (.ref 167), (.ref 167)]), List.toArray []⟩
noncomputable def o2171 : Obj := ⟨(.type "builtin_function_or_method"), none, .fields (List.toArray [(.builtin "object.__init_subclass__"), (.ref 167)]), List.toArray []⟩
noncomputable def o2174 (P : Params) : Obj := ⟨(.type "dict"), none, .dict (List.toArray [en P (Str.ofString "__module__") 446 (.str (Str.ofString "paperhold.objects") 406), en P (Str.ofString "__qualname__") 448 (.str (Str.ofString "Reference") 447), en P (Str.ofString "__firstlineno__") 450 (.int (165) 449), en P (Str.ofString "__init__") 459 (.ref 185), en P (Str.ofString "pair") 466 (.ref 192), en P (Str.ofString "__static_attributes__") 469 (.ref 193)]) 6, List.toArray []⟩
noncomputable def o2176 : Obj := ⟨.none, none, .fields (List.toArray [(.int (167) 0), (.int (4) 0), (.ref 184), (.int (171) 0), (.int (4) 0), (.ref 191)]), List.toArray []⟩
noncomputable def o2177 : Obj := ⟨(.type "code"), none, .fields (List.toArray [(.str (Str.ofString "Reference") 441), (.str (Str.ofString "Reference") 442), (.str (Str.ofString "/claim/cut.py") 443), (.int (165) 0), (.int (0) 0), (.int (0) 0), (.int (0) 0), (.int (0) 0), (.ref 175), (.bool false), (.int (181) 0), (.ref 176), .none, .none, .none, .none, (.int (444) 0), (.int (165) 0), (.str (Str.ofString "/claim/cut.py") 445)]), List.toArray []⟩
noncomputable def o2178 : Obj := ⟨(.type "frame"), none, .plain, List.toArray [(some (.ref 177)), (some (.ref 3)), (some (.ref 174)), none, (some (.str (Str.ofString "paperhold.objects") 406)), none, (some (.ref 0))]⟩
noncomputable def o2183 : Obj := ⟨.none, none, .func ⟨(Str.ofString "__init__"), (Str.ofString "Reference.__init__"), fpar (meth 32 0), .stmts (fbody (meth 32 0)), fscope (meth 32 0), 0, [], .none, .none, .none, .none, none, .none, .none, 0⟩, List.toArray []⟩
noncomputable def o2190 : Obj := ⟨.none, none, .func ⟨(Str.ofString "pair"), (Str.ofString "Reference.pair"), fpar (meth 32 1), .stmts (fbody (meth 32 1)), fscope (meth 32 1), 0, [], .none, .none, .none, .none, none, .none, .none, 0⟩, List.toArray []⟩
noncomputable def o2198 : Obj := ⟨(.type "super"), none, .fields (List.toArray [(.ref 195), (.ref 195), (.ref 195)]), List.toArray []⟩
noncomputable def o2199 : Obj := ⟨(.type "builtin_function_or_method"), none, .fields (List.toArray [(.builtin "object.__init_subclass__"), (.ref 195)]), List.toArray []⟩
noncomputable def oz12 : Obj := ⟨.none, none, .fields (List.toArray [(.int (1) 0), (.int (0) 0), (.ref 20), (.int (6) 0), (.int (0) 0), (.ref 28), (.int (9) 0), (.int (0) 0), (.ref 35), (.int (18) 0), (.int (0) 0), (.ref 63), (.int (30) 0), (.int (0) 0), (.ref 76), (.int (39) 0), (.int (0) 0), (.ref 83), (.int (47) 0), (.int (0) 0), (.ref 88), (.int (60) 0), (.int (0) 0), (.ref 95), (.int (69) 0), (.int (0) 0), (.ref 100), (.int (80) 0), (.int (0) 0), (.ref 107), (.int (92) 0), (.int (0) 0), (.ref 114), (.int (99) 0), (.int (0) 0), (.ref 121), (.int (121) 0), (.int (0) 0), (.ref 128), (.int (126) 0), (.int (0) 0), (.ref 135), (.int (141) 0), (.int (0) 0), (.ref 142), (.int (143) 0), (.int (0) 0), (.ref 149), (.int (161) 0), (.int (0) 0), (.ref 156), (.int (165) 0), (.int (0) 0), (.ref 177), (.int (173) 0), (.int (0) 0), (.ref 205), (.int (193) 0), (.int (0) 0), (.ref 241), (.int (196) 0), (.int (0) 0), (.ref 248), (.int (207) 0), (.int (0) 0), (.ref 253), (.int (223) 0), (.int (0) 0), (.ref 260), (.int (230) 0), (.int (0) 0), (.ref 267), (.int (236) 0), (.int (0) 0), (.ref 274), (.int (242) 0), (.int (0) 0), (.ref 279), (.int (254) 0), (.int (0) 0), (.ref 296), (.int (269) 0), (.int (0) 0), (.ref 303), (.int (271) 0), (.int (0) 0), (.ref 310), (.int (277) 0), (.int (0) 0), (.ref 317), (.int (284) 0), (.int (0) 0), (.ref 324), (.int (290) 0), (.int (0) 0), (.ref 331), (.int (292) 0), (.int (0) 0), (.ref 336)]), List.toArray []⟩
noncomputable def oz202 (P : Params) : Obj := ⟨(.type "dict"), none, .dict (List.toArray [en P (Str.ofString "__module__") 484 (.str (Str.ofString "paperhold.objects") 406), en P (Str.ofString "__qualname__") 486 (.str (Str.ofString "Lookup") 485), en P (Str.ofString "__firstlineno__") 488 (.int (173) 487), en P (Str.ofString "__init__") 497 (.ref 214), en P (Str.ofString "fetch") 509 (.ref 221), en P (Str.ofString "get") 518 (.ref 228), en P (Str.ofString "__static_attributes__") 521 (.ref 229)]) 7, List.toArray []⟩
noncomputable def oz204 : Obj := ⟨.none, none, .fields (List.toArray [(.int (175) 0), (.int (4) 0), (.ref 213), (.int (179) 0), (.int (4) 0), (.ref 220), (.int (190) 0), (.int (4) 0), (.ref 227)]), List.toArray []⟩
noncomputable def oz205 : Obj := ⟨(.type "code"), none, .fields (List.toArray [(.str (Str.ofString "Lookup") 479), (.str (Str.ofString "Lookup") 480), (.str (Str.ofString "/claim/cut.py") 481), (.int (173) 0), (.int (0) 0), (.int (0) 0), (.int (0) 0), (.int (0) 0), (.ref 203), (.bool false), (.int (181) 0), (.ref 204), .none, .none, .none, .none, (.int (482) 0), (.int (173) 0), (.str (Str.ofString "/claim/cut.py") 483)]), List.toArray []⟩
noncomputable def oz206 : Obj := ⟨(.type "frame"), none, .plain, List.toArray [(some (.ref 205)), (some (.ref 3)), (some (.ref 202)), none, (some (.str (Str.ofString "paperhold.objects") 406)), none, (some (.ref 0))]⟩
noncomputable def oz212 : Obj := ⟨.none, none, .func ⟨(Str.ofString "__init__"), (Str.ofString "Lookup.__init__"), fpar (meth 33 0), .stmts (fbody (meth 33 0)), fscope (meth 33 0), 0, [], .none, .none, .none, .none, none, .none, .none, 0⟩, List.toArray []⟩
noncomputable def oz219 : Obj := ⟨.none, none, .func ⟨(Str.ofString "fetch"), (Str.ofString "Lookup.fetch"), fpar (meth 33 1), .stmts (fbody (meth 33 1)), fscope (meth 33 1), 0, [], .none, .none, .none, .none, none, .none, .none, 0⟩, List.toArray []⟩
noncomputable def oz226 : Obj := ⟨.none, none, .func ⟨(Str.ofString "get"), (Str.ofString "Lookup.get"), fpar (meth 33 2), .stmts (fbody (meth 33 2)), fscope (meth 33 2), 0, [], .none, .none, .none, .none, none, .none, .none, 0⟩, List.toArray []⟩
noncomputable def oz234 : Obj := ⟨(.type "super"), none, .fields (List.toArray [(.ref 231), (.ref 231), (.ref 231)]), List.toArray []⟩
noncomputable def oz235 : Obj := ⟨(.type "builtin_function_or_method"), none, .fields (List.toArray [(.builtin "object.__init_subclass__"), (.ref 231)]), List.toArray []⟩
noncomputable def oz240 : Obj := ⟨.none, none, .func ⟨(Str.ofString "full_name"), (Str.ofString "full_name"), fpar (top 35), .stmts (fbody (top 35)), fscope (top 35), 0, [], .none, .none, .none, .none, none, .none, .none, 0⟩, List.toArray []⟩
noncomputable def oz247 : Obj := ⟨.none, none, .func ⟨(Str.ofString "filter_names"), (Str.ofString "filter_names"), fpar (top 36), .stmts (fbody (top 36)), fscope (top 36), 0, [], .none, .none, .none, .none, none, .none, .none, 0⟩, List.toArray []⟩
noncomputable def oz252 : Obj := ⟨.none, none, .func ⟨(Str.ofString "filter_parms"), (Str.ofString "filter_parms"), fpar (top 37), .stmts (fbody (top 37)), fscope (top 37), 0, [], .none, .none, .none, .none, none, .none, .none, 0⟩, List.toArray []⟩
noncomputable def oz259 : Obj := ⟨.none, none, .func ⟨(Str.ofString "early_of"), (Str.ofString "early_of"), fpar (top 38), .stmts (fbody (top 38)), fscope (top 38), 0, [], .none, .none, .none, .none, none, .none, .none, 0⟩, List.toArray []⟩
noncomputable def oz266 : Obj := ⟨.none, none, .func ⟨(Str.ofString "undo_plain"), (Str.ofString "undo_plain"), fpar (top 39), .stmts (fbody (top 39)), fscope (top 39), 0, [], .none, .none, .none, .none, none, .none, .none, 0⟩, List.toArray []⟩
noncomputable def oz273 : Obj := ⟨.none, none, .func ⟨(Str.ofString "apply_plain"), (Str.ofString "apply_plain"), fpar (top 40), .stmts (fbody (top 40)), fscope (top 40), 0, [], .none, .none, .none, .none, none, .none, .none, 0⟩, List.toArray []⟩
noncomputable def oz278 : Obj := ⟨.none, none, .func ⟨(Str.ofString "head_of"), (Str.ofString "head_of"), fpar (top 41), .stmts (fbody (top 41)), fscope (top 41), 0, [], .none, .none, .none, .none, none, .none, .none, 0⟩, List.toArray []⟩
noncomputable def oz295 : Obj := ⟨.none, none, .func ⟨(Str.ofString "_law_draw"), (Str.ofString "_law_draw"), fpar (top 44), .stmts (fbody (top 44)), fscope (top 44), 0, [], .none, .none, .none, .none, none, .none, .none, 0⟩, List.toArray []⟩
noncomputable def oz302 : Obj := ⟨.none, none, .func ⟨(Str.ofString "_law_pen"), (Str.ofString "_law_pen"), fpar (top 45), .stmts (fbody (top 45)), fscope (top 45), 0, [], .none, .none, .none, .none, none, .none, .none, 0⟩, List.toArray []⟩
noncomputable def oz309 : Obj := ⟨.none, none, .func ⟨(Str.ofString "_law_octets"), (Str.ofString "_law_octets"), fpar (top 46), .stmts (fbody (top 46)), fscope (top 46), 0, [], .none, .none, .none, .none, none, .none, .none, 0⟩, List.toArray []⟩
noncomputable def oz316 : Obj := ⟨.none, none, .func ⟨(Str.ofString "_law_heard"), (Str.ofString "_law_heard"), fpar (top 47), .stmts (fbody (top 47)), fscope (top 47), 0, [], .none, .none, .none, .none, none, .none, .none, 0⟩, List.toArray []⟩
noncomputable def oz323 : Obj := ⟨.none, none, .func ⟨(Str.ofString "_law_bent"), (Str.ofString "_law_bent"), fpar (top 48), .stmts (fbody (top 48)), fscope (top 48), 0, [], .none, .none, .none, .none, none, .none, .none, 0⟩, List.toArray []⟩
noncomputable def oz330 : Obj := ⟨.none, none, .func ⟨(Str.ofString "_law_lost"), (Str.ofString "_law_lost"), fpar (top 49), .stmts (fbody (top 49)), fscope (top 49), 0, [], .none, .none, .none, .none, none, .none, .none, 0⟩, List.toArray []⟩
noncomputable def oz335 : Obj := ⟨.none, none, .func ⟨(Str.ofString "law"), (Str.ofString "law"), fpar (top 50), .stmts (fbody (top 50)), fscope (top 50), 0, [], .none, .none, .none, .none, none, .none, .none, 0⟩, List.toArray []⟩
noncomputable def ha (P : Params) : Heap := ⟨Array.mk (boot_o_0 P :: boot_o_1 P :: boot_o_2 P :: boot_o_3 P :: boot_o_4 P :: boot_o_5 P :: boot_o_6 P :: boot_o_7 P :: boot_o_8 P :: boot_o_9 P :: boot_o_10 P :: k333 :: oa12 :: oa13 :: oa14 :: []), (boot_heap P).life⟩
noncomputable def hb (P : Params) : Heap := ⟨Array.mk (boot_o_0 P :: boot_o_1 P :: boot_o_2 P :: boot_o_3 P :: boot_o_4 P :: boot_o_5 P :: boot_o_6 P :: boot_o_7 P :: boot_o_8 P :: boot_o_9 P :: boot_o_10 P :: k333 :: oa12 :: oa13 :: oa14 :: []), (boot_heap P).life⟩
noncomputable def h0 (P : Params) : Heap := ⟨Array.mk (boot_o_0 P :: boot_o_1 P :: k2 P :: o03 P :: boot_o_4 P :: boot_o_5 P :: boot_o_6 P :: boot_o_7 P :: boot_o_8 P :: boot_o_9 P :: boot_o_10 P :: k333 :: o012 :: oa13 :: oa14 :: k333 :: oa12 :: k17 :: k333 :: o019 :: k20 :: k21 :: k22 :: k333 :: oa12 :: k25 :: k333 :: o027 :: k28 :: k29 :: k30 :: o031 :: o032 P :: k333 :: o034 :: o035 :: o036 :: k37 :: k333 :: oa12 :: k40 :: k333 :: o042 :: k43 :: k44 :: k333 :: oa12 :: k47 :: k333 :: o049 :: k50 :: k51 :: k52 :: k53 P :: k54 :: k55 :: o056 :: o057 :: k58 :: o031 :: o060 P :: k333 :: oa12 :: o063 :: o064 :: k333 :: k66 P :: k67 :: o068 :: o069 :: []), (boot_heap P).life⟩
noncomputable def h1 (P : Params) : Heap := ⟨Array.mk (boot_o_0 P :: boot_o_1 P :: k2 P :: o13 P :: boot_o_4 P :: boot_o_5 P :: boot_o_6 P :: boot_o_7 P :: boot_o_8 P :: boot_o_9 P :: boot_o_10 P :: k333 :: o112 :: oa13 :: oa14 :: k333 :: oa12 :: k17 :: k333 :: o019 :: k20 :: k21 :: k22 :: k333 :: oa12 :: k25 :: k333 :: o027 :: k28 :: k29 :: k30 :: o031 :: o032 P :: k333 :: o034 :: o035 :: o036 :: k37 :: k333 :: oa12 :: k40 :: k333 :: o042 :: k43 :: k44 :: k333 :: oa12 :: k47 :: k333 :: o049 :: k50 :: k51 :: k52 :: k53 P :: k54 :: k55 :: o056 :: o057 :: k58 :: o031 :: o060 P :: k333 :: oa12 :: o063 :: o064 :: k333 :: k66 P :: k67 :: o068 :: o069 :: k70 :: k333 :: oa12 :: k73 :: k333 :: o175 :: k76 :: k77 :: k333 :: oa12 :: k80 :: k333 :: o182 :: k83 :: k84 :: k333 :: oa12 :: o187 :: k88 :: k89 :: k333 :: oa12 :: k92 :: k333 :: o194 :: k95 :: k96 :: k333 :: oa12 :: o199 :: k100 :: k101 :: k333 :: oa12 :: k104 :: k333 :: o1106 :: k107 :: k108 :: k333 :: oa12 :: k111 :: k333 :: o1113 :: k114 :: k115 :: k333 :: oa12 :: k118 :: k333 :: o1120 :: k121 :: k122 :: k333 :: oa12 :: k125 :: k333 :: o1127 :: k128 :: k129 :: k333 :: oa12 :: k132 :: k333 :: o1134 :: k135 :: k136 :: k333 :: oa12 :: k139 :: k333 :: o1141 :: k142 :: k143 :: k333 :: oa12 :: k146 :: k333 :: o1148 :: k149 :: k150 :: []), (boot_heap P).life⟩
noncomputable def h2 (P : Params) : Heap := ⟨Array.mk (boot_o_0 P :: boot_o_1 P :: k2 P :: o23 P :: boot_o_4 P :: boot_o_5 P :: boot_o_6 P :: boot_o_7 P :: boot_o_8 P :: boot_o_9 P :: boot_o_10 P :: k333 :: o212 :: oa13 :: oa14 :: k333 :: oa12 :: k17 :: k333 :: o019 :: k20 :: k21 :: k22 :: k333 :: oa12 :: k25 :: k333 :: o027 :: k28 :: k29 :: k30 :: o031 :: o032 P :: k333 :: o034 :: o035 :: o036 :: k37 :: k333 :: oa12 :: k40 :: k333 :: o042 :: k43 :: k44 :: k333 :: oa12 :: k47 :: k333 :: o049 :: k50 :: k51 :: k52 :: k53 P :: k54 :: k55 :: o056 :: o057 :: k58 :: o031 :: o060 P :: k333 :: oa12 :: o063 :: o064 :: k333 :: k66 P :: k67 :: o068 :: o069 :: k70 :: k333 :: oa12 :: k73 :: k333 :: o175 :: k76 :: k77 :: k333 :: oa12 :: k80 :: k333 :: o182 :: k83 :: k84 :: k333 :: oa12 :: o187 :: k88 :: k89 :: k333 :: oa12 :: k92 :: k333 :: o194 :: k95 :: k96 :: k333 :: oa12 :: o199 :: k100 :: k101 :: k333 :: oa12 :: k104 :: k333 :: o1106 :: k107 :: k108 :: k333 :: oa12 :: k111 :: k333 :: o1113 :: k114 :: k115 :: k333 :: oa12 :: k118 :: k333 :: o1120 :: k121 :: k122 :: k333 :: oa12 :: k125 :: k333 :: o1127 :: k128 :: k129 :: k333 :: oa12 :: k132 :: k333 :: o1134 :: k135 :: k136 :: k333 :: oa12 :: k139 :: k333 :: o1141 :: k142 :: k143 :: k333 :: oa12 :: k146 :: k333 :: o1148 :: k149 :: k150 :: k333 :: o031 :: o2153 P :: k333 :: o2155 :: o2156 :: o2157 :: k333 :: oa12 :: k160 :: k333 :: o2162 :: k163 :: k164 :: k165 :: k166 P :: k167 :: k168 :: k169 :: o2170 :: o2171 :: k333 :: o031 :: o2174 P :: k333 :: o2176 :: o2177 :: o2178 :: k333 :: oa12 :: k181 :: k333 :: o2183 :: k184 :: k185 :: k333 :: oa12 :: k188 :: k333 :: o2190 :: k191 :: k192 :: k193 :: k194 P :: k195 :: k196 :: k197 :: o2198 :: o2199 :: []), (boot_heap P).life⟩
noncomputable def hz (P : Params) : Heap := ⟨Array.mk (boot_o_0 P :: boot_o_1 P :: k2 P :: k3 P :: boot_o_4 P :: boot_o_5 P :: boot_o_6 P :: boot_o_7 P :: boot_o_8 P :: boot_o_9 P :: boot_o_10 P :: k333 :: oz12 :: oa13 :: oa14 :: k333 :: oa12 :: k17 :: k333 :: o019 :: k20 :: k21 :: k22 :: k333 :: oa12 :: k25 :: k333 :: o027 :: k28 :: k29 :: k30 :: o031 :: o032 P :: k333 :: o034 :: o035 :: o036 :: k37 :: k333 :: oa12 :: k40 :: k333 :: o042 :: k43 :: k44 :: k333 :: oa12 :: k47 :: k333 :: o049 :: k50 :: k51 :: k52 :: k53 P :: k54 :: k55 :: o056 :: o057 :: k58 :: o031 :: o060 P :: k333 :: oa12 :: o063 :: o064 :: k333 :: k66 P :: k67 :: o068 :: o069 :: k70 :: k333 :: oa12 :: k73 :: k333 :: o175 :: k76 :: k77 :: k333 :: oa12 :: k80 :: k333 :: o182 :: k83 :: k84 :: k333 :: oa12 :: o187 :: k88 :: k89 :: k333 :: oa12 :: k92 :: k333 :: o194 :: k95 :: k96 :: k333 :: oa12 :: o199 :: k100 :: k101 :: k333 :: oa12 :: k104 :: k333 :: o1106 :: k107 :: k108 :: k333 :: oa12 :: k111 :: k333 :: o1113 :: k114 :: k115 :: k333 :: oa12 :: k118 :: k333 :: o1120 :: k121 :: k122 :: k333 :: oa12 :: k125 :: k333 :: o1127 :: k128 :: k129 :: k333 :: oa12 :: k132 :: k333 :: o1134 :: k135 :: k136 :: k333 :: oa12 :: k139 :: k333 :: o1141 :: k142 :: k143 :: k333 :: oa12 :: k146 :: k333 :: o1148 :: k149 :: k150 :: k333 :: o031 :: o2153 P :: k333 :: o2155 :: o2156 :: o2157 :: k333 :: oa12 :: k160 :: k333 :: o2162 :: k163 :: k164 :: k165 :: k166 P :: k167 :: k168 :: k169 :: o2170 :: o2171 :: k333 :: o031 :: o2174 P :: k333 :: o2176 :: o2177 :: o2178 :: k333 :: oa12 :: k181 :: k333 :: o2183 :: k184 :: k185 :: k333 :: oa12 :: k188 :: k333 :: o2190 :: k191 :: k192 :: k193 :: k194 P :: k195 :: k196 :: k197 :: o2198 :: o2199 :: k333 :: o031 :: oz202 P :: k333 :: oz204 :: oz205 :: oz206 :: k207 :: k333 :: oa12 :: k210 :: k333 :: oz212 :: k213 :: k214 :: k333 :: oa12 :: k217 :: k333 :: oz219 :: k220 :: k221 :: k333 :: oa12 :: k224 :: k333 :: oz226 :: k227 :: k228 :: k229 :: k230 P :: k231 :: k232 :: k233 :: oz234 :: oz235 :: k333 :: oa12 :: k238 :: k333 :: oz240 :: k241 :: k242 :: k333 :: oa12 :: k245 :: k333 :: oz247 :: k248 :: k249 :: k333 :: oa12 :: oz252 :: k253 :: k254 :: k333 :: oa12 :: k257 :: k333 :: oz259 :: k260 :: k261 :: k333 :: oa12 :: k264 :: k333 :: oz266 :: k267 :: k268 :: k333 :: oa12 :: k271 :: k333 :: oz273 :: k274 :: k275 :: k333 :: oa12 :: oz278 :: k279 :: k280 :: k281 :: k282 :: k283 :: k284 :: k285 :: k286 :: k287 :: k288 :: k289 :: k290 :: k333 :: oa12 :: k293 :: k333 :: oz295 :: k296 :: k297 :: k333 :: oa12 :: k300 :: k333 :: oz302 :: k303 :: k304 :: k333 :: oa12 :: k307 :: k333 :: oz309 :: k310 :: k311 :: k333 :: oa12 :: k314 :: k333 :: oz316 :: k317 :: k318 :: k333 :: oa12 :: k321 :: k333 :: oz323 :: k324 :: k325 :: k333 :: oa12 :: k328 :: k333 :: oz330 :: k331 :: k332 :: k333 :: oa12 :: oz335 :: k336 :: k337 :: []), (boot_heap P).life⟩
noncomputable def bd0 : List Stmt := behindTheImports PySem.Challenge.pw_nn0215_01
noncomputable def env0 : Env := { scope := PySem.Challenge.pw_nn0215_01.main.scope, locals := mainNs, globals := mainNs, cells := [], code := .ref 13, frame := some 14 }
noncomputable def cd0 : Code := .body bd0 env0
noncomputable def an0 : Option Value := (some (.ref 6))
noncomputable def po0 : Pos := ⟨0, 0, 0, 0⟩
noncomputable def sh0 (h : Params → Heap) (k : Nat) (w : World) (os : OsState) : Shared := ⟨h w.params, Array.mk [], ⟨0, 0, 0, 0⟩, k, os⟩
theorem run_a (w : World) (os : OsState) : topGo treeTable PySem.Challenge.pw_nn0215_01 w 11 an0 12 ⟨boot_heap w.params, Array.mk [], boot_drawn, boot_toks, os⟩ (topStub PySem.Challenge.pw_nn0215_01) = some (sh0 ha 187 w os, ⟨denote treeTable cd0, cd0, po0, [topFrame po0]⟩) := by kernel_rfl
theorem run_b (w : World) (os : OsState) : segRun treeTable PySem.Challenge.pw_nn0215_01 w 11 an0 1 1 (sh0 ha 187 w os) (blockOf bd0 env0 cd0 po0 [topFrame po0]) = some (.next, sh0 hb 187 w os, cd0, po0) := by kernel_rfl
theorem run_0 (w : World) (os : OsState) : segRun treeTable PySem.Challenge.pw_nn0215_01 w 11 an0 1 574 (sh0 hb 187 w os) (piecesOf (bd0.take 7) env0 cd0 po0 [topFrame po0]) = some (.next, sh0 h0 268 w os, cd0, (⟨18, 0, 19, 8⟩ : Pos)) := by kernel_rfl
theorem run_1 (w : World) (os : OsState) : segRun treeTable PySem.Challenge.pw_nn0215_01 w 11 an0 1 496 (sh0 h0 268 w os) (piecesOf ((bd0.drop 7).take 24) env0 cd0 (⟨18, 0, 19, 8⟩ : Pos) [topFrame po0]) = some (.next, sh0 h1 410 w os, cd0, (⟨160, 0, 160, 9⟩ : Pos)) := by kernel_rfl
theorem run_2 (w : World) (os : OsState) : segRun treeTable PySem.Challenge.pw_nn0215_01 w 11 an0 1 478 (sh0 h1 410 w os) (piecesOf ((bd0.drop 31).take 2) env0 cd0 (⟨160, 0, 160, 9⟩ : Pos) [topFrame po0]) = some (.next, sh0 h2 477 w os, cd0, (⟨165, 0, 172, 16⟩ : Pos)) := by kernel_rfl
theorem run_3 (w : World) (os : OsState) : segRun treeTable PySem.Challenge.pw_nn0215_01 w 11 an0 1 781 (sh0 h2 477 w os) (piecesOf (bd0.drop 33) env0 cd0 (⟨165, 0, 172, 16⟩ : Pos) [topFrame po0]) = some (.next, sh0 hz 672 w os, cd0, (⟨292, 0, 327, 92⟩ : Pos)) := by kernel_rfl
theorem run_z (w : World) (os : OsState) : topRun treeTable PySem.Challenge.pw_nn0215_01 w 11 an0 2 (sh0 hz 672 w os) ⟨doneF .next, cd0, (⟨292, 0, 327, 92⟩ : Pos), [topFrame po0]⟩ = some (sh0 hz 672 w os) := by kernel_rfl
theorem rest_4 (w : World) (os : OsState) : topRun treeTable PySem.Challenge.pw_nn0215_01 w 11 an0 2 (sh0 hz 672 w os) (restOf [] env0 cd0 (⟨292, 0, 327, 92⟩ : Pos) [topFrame po0]) = some (sh0 hz 672 w os) := piece_nil (run_z w os)
theorem rest_3 (w : World) (os : OsState) : topRun treeTable PySem.Challenge.pw_nn0215_01 w 11 an0 783 (sh0 h2 477 w os) (restOf (bd0.drop 33) env0 cd0 (⟨165, 0, 172, 16⟩ : Pos) [topFrame po0]) = some (sh0 hz 672 w os) := (List.append_nil (bd0.drop 33)) ▸ piece_app (run_3 w os) (rest_4 w os)
theorem rest_2 (w : World) (os : OsState) : topRun treeTable PySem.Challenge.pw_nn0215_01 w 11 an0 1261 (sh0 h1 410 w os) (restOf (bd0.drop 31) env0 cd0 (⟨160, 0, 160, 9⟩ : Pos) [topFrame po0]) = some (sh0 hz 672 w os) := by
  have e : (bd0.drop 31).take 2 ++ bd0.drop 33 = (bd0.drop 31) := by rw [show bd0.drop 33 = (bd0.drop 31).drop 2 by kernel_rfl, List.take_append_drop]
  have := piece_app (run_2 w os) (rest_3 w os)
  rw [e] at this
  exact this
theorem rest_1 (w : World) (os : OsState) : topRun treeTable PySem.Challenge.pw_nn0215_01 w 11 an0 1757 (sh0 h0 268 w os) (restOf (bd0.drop 7) env0 cd0 (⟨18, 0, 19, 8⟩ : Pos) [topFrame po0]) = some (sh0 hz 672 w os) := by
  have e : (bd0.drop 7).take 24 ++ bd0.drop 31 = (bd0.drop 7) := by rw [show bd0.drop 31 = (bd0.drop 7).drop 24 by kernel_rfl, List.take_append_drop]
  have := piece_app (run_1 w os) (rest_2 w os)
  rw [e] at this
  exact this
theorem rest_0 (w : World) (os : OsState) : topRun treeTable PySem.Challenge.pw_nn0215_01 w 11 an0 2331 (sh0 hb 187 w os) (restOf bd0 env0 cd0 po0 [topFrame po0]) = some (sh0 hz 672 w os) := by
  have e : bd0.take 7 ++ bd0.drop 7 = bd0 := by rw [show bd0.drop 7 = bd0.drop 7 by kernel_rfl, List.take_append_drop]
  have := piece_app (run_0 w os) (rest_1 w os)
  rw [e] at this
  exact this
theorem run_all (w : World) (os : OsState) : topRun treeTable PySem.Challenge.pw_nn0215_01 w 11 an0 2344 ⟨boot_heap w.params, Array.mk [], boot_drawn, boot_toks, os⟩ (topStub PySem.Challenge.pw_nn0215_01) = some (sh0 hz 672 w os) := go_top (run_a w os) (piece_block (run_b w os) (rest_0 w os))
theorem open_0 : ∀ w : World, (fencedOpening treeTable PySem.Challenge.pw_nn0215_01 w 4776).map (fun s => (s.heap, s.gens, s.drawn, s.toks)) = some (boot_heap w.params, Array.mk [], boot_drawn, boot_toks) := boot_open (by kernel_rfl) (by kernel_rfl) (fun s => by kernel_rfl)
theorem size_0 (w : World) : ((boot_heap w.params).isNs mainGlobals && (Array.mk [] : Array GenState).size == 0, (boot_heap w.params).objs.size, (boot_heap w.params).nsMap mainGlobals "__annotations__") = (true, 11, an0) := by kernel_rfl
noncomputable def xt0 (s : Shared) : Bool := xlAt view0 lv0 s && recOk PySem.Challenge.rw_nn0215_01.row.toRowW.records s
noncomputable def im0 : List Str := importedModules PySem.Challenge.pw_nn0215_01.main.body
theorem look_0 (w : World) (os : OsState) : (staticsOk im0 (boot_heap w.params) (hz w.params) && namesBound PySem.Challenge.pw_nn0215_01 (hz w.params) && gensDone (sh0 hz 672 w os) && laidKept (boot_heap w.params) (hz w.params)) = true := by kernel_rfl
theorem look_1 (w : World) (os : OsState) : (openSeen view0 loose0 im0 xt0 true (sh0 hz 672 w os)).1 = (openGood view0 loose0).1 := by kernel_rfl
theorem look_2 (w : World) (os : OsState) : (openSeen view0 loose0 im0 xt0 true (sh0 hz 672 w os)).2.1 = (openGood view0 loose0).2.1 := by kernel_rfl
theorem look_3 (w : World) (os : OsState) : (openSeen view0 loose0 im0 xt0 true (sh0 hz 672 w os)).2.2.1 = (openGood view0 loose0).2.2.1 := by kernel_rfl
theorem look_4 (w : World) (os : OsState) : (openSeen view0 loose0 im0 xt0 true (sh0 hz 672 w os)).2.2.2.1 = (openGood view0 loose0).2.2.2.1 := by kernel_rfl
theorem look_5 (w : World) (os : OsState) : (openSeen view0 loose0 im0 xt0 true (sh0 hz 672 w os)).2.2.2.2.1 = (openGood view0 loose0).2.2.2.2.1 := by kernel_rfl
theorem look_6 (w : World) (os : OsState) : (openSeen view0 loose0 im0 xt0 true (sh0 hz 672 w os)).2.2.2.2.2.1 = (openGood view0 loose0).2.2.2.2.2.1 := by kernel_rfl
theorem look_7 (w : World) (os : OsState) : (openSeen view0 loose0 im0 xt0 true (sh0 hz 672 w os)).2.2.2.2.2.2.1 = (openGood view0 loose0).2.2.2.2.2.2.1 := by kernel_rfl
theorem look_8 (w : World) (os : OsState) : (openSeen view0 loose0 im0 xt0 true (sh0 hz 672 w os)).2.2.2.2.2.2.2.1 = (openGood view0 loose0).2.2.2.2.2.2.2.1 := by kernel_rfl
theorem look_9 (w : World) (os : OsState) : (openSeen view0 loose0 im0 xt0 true (sh0 hz 672 w os)).2.2.2.2.2.2.2.2 = (openGood view0 loose0).2.2.2.2.2.2.2.2 := by kernel_rfl
theorem look_y (w : World) (os : OsState) : hook0.obs (sh0 hz 672 w os) = hook0.val w := by kernel_rfl
theorem left0 : LeftO PySem.Challenge.rw_nn0215_01.row.toRowW.prog view0 loose0 (fun s => xlAt view0 lv0 s && recOk PySem.Challenge.rw_nn0215_01.row.toRowW.records s) hook0.obs hook0.val 4776 :=
  LeftO.of_pieces (p := PySem.Challenge.pw_nn0215_01) (q := view0) (loose := loose0) (Xt := xt0) (Yf := hook0.obs) (Ya := hook0.val) (N := 4776) (g0 := true) (H₀ := boot_heap) (H₁ := hz) (gs₀ := Array.mk []) (gs₁ := Array.mk []) (d₀ := boot_drawn) (d₁ := ⟨0, 0, 0, 0⟩) (k₀ := boot_toks) (k₁ := 672) (m₀ := 11) (ann := an0) (M := 2344)
    open_0 size_0 run_all (by kernel_rfl) fun w => funext fun os => Prod.ext (look_0 w os) (Prod.ext (Prod.ext (look_1 w os) (Prod.ext (look_2 w os) (Prod.ext (look_3 w os) (Prod.ext (look_4 w os) (Prod.ext (look_5 w os) (Prod.ext (look_6 w os) (Prod.ext (look_7 w os) (Prod.ext (look_8 w os) (look_9 w os))))))))) (look_y w os))
theorem lk1 : (sreFenced PySem.Challenge.pw_nn0215_01.main && ((moduleNames PySem.Challenge.pw_nn0215_01.main.body).isEmpty || lookedIntoSs (moduleNames PySem.Challenge.pw_nn0215_01.main.body) PySem.Challenge.pw_nn0215_01.main.body)) = true := by kernel_rfl
theorem lk3 : namesResolve PySem.Challenge.pw_nn0215_01 = true := by kernel_rfl
theorem lk4 : PySem.Challenge.pw_nn0215_01.boundNames.all (fun n => !worldNames.contains n) = true := by kernel_rfl
theorem lk5 : noRoadLSs { strict := !(importedModules PySem.Challenge.pw_nn0215_01.main.body).all cThrough.contains, foot := none, bare := (["vars", "dir", "locals"] : List Str).filter (readsOut PySem.Challenge.pw_nn0215_01 PySem.Challenge.pw_nn0215_01.main.body) } PySem.Challenge.pw_nn0215_01.main.body = true := by kernel_rfl
theorem lk6 : namesMeet PySem.Challenge.pw_nn0215_01 PySem.Challenge.pw_nn0215_01.main.body (fun _ n => attrL n) = true := by kernel_rfl
theorem lk0 : looksOpen PySem.Challenge.pw_nn0215_01 = true := by
  unfold looksOpen
  exact look_both (look_both (look_both (look_both lk1 lk3) lk4) lk5) lk6
theorem said_p : PySem.Challenge.rw_nn0215_01.row.partSaid = true := by
  unfold OpenRow.partSaid
  iterate 13 (refine look_both ?_ (by kernel_rfl))
  exact lk0
theorem said_r : PySem.Challenge.rw_nn0215_01.row.wellSaid = true := by
  unfold OpenRow.wellSaid
  iterate 2 (refine look_both ?_ (by kernel_rfl))
  exact said_p
theorem sd1 : PySem.Challenge.rw_nn0215_01.footing.all footLine = true := by kernel_rfl
theorem sd2 : noClassBlock PySem.Challenge.pw_nn0215_01 PySem.Challenge.rw_nn0215_01.footing = true := by kernel_rfl
theorem sd3 : noRoadLSs { strict := true, foot := some PySem.Challenge.rw_nn0215_01.bound', writes := PySem.Challenge.rw_nn0215_01.writes, may := PySem.Challenge.rw_nn0215_01.may } PySem.Challenge.rw_nn0215_01.footing = true := by kernel_rfl
theorem sd4 : defStands PySem.Challenge.rw_nn0215_01.about PySem.Challenge.rw_nn0215_01.above = true := by kernel_rfl
theorem sd5 : PySem.Challenge.rw_nn0215_01.namesIt = true := by kernel_rfl
theorem said0 : PySem.Challenge.rw_nn0215_01.wellSaid = true := by
  unfold OpenLaw.wellSaid
  iterate 10 (refine look_both ?_ (by kernel_rfl))
  refine look_both (look_both (look_both ?_ sd3) sd4) sd5
  iterate 2 (refine look_both ?_ (by kernel_rfl))
  refine look_both (look_both ?_ sd1) sd2
  iterate 1 (refine look_both ?_ (by kernel_rfl))
  exact said_r
end
section
variable {G : Gd}
theorem g_WHITE (H : Pg G) : G.glob "WHITE" (.ref 22) := H.glob (y := (.ref 22)) (by kernel_rfl) (.ref _)
theorem g_is_white (H : Pg G) : G.glob "is_white" (.ref 29) := H.glob (y := (.ref 29)) (by kernel_rfl) (.ref _)
theorem g_FilterFault (H : Pg G) : G.glob "FilterFault" (.ref 67) := H.glob (y := (.ref 67)) (by kernel_rfl) (.ref _)
theorem g_FIGURES (H : Pg G) : G.glob "FIGURES" (.bytes (Array.mk [48, 49, 50, 51, 52, 53, 54, 55, 56, 57, 65, 66, 67, 68, 69, 70])) := H.glob (y := (.bytes (Array.mk [48, 49, 50, 51, 52, 53, 54, 55, 56, 57, 65, 66, 67, 68, 69, 70]) 270)) (by kernel_rfl) (.bytes _ _)
theorem g_HEX_END (H : Pg G) : G.glob "HEX_END" (.int 62) := H.glob (y := (.int (62) 272)) (by kernel_rfl) (.int _ _)
theorem g_TILDE (H : Pg G) : G.glob "TILDE" (.int 126) := H.glob (y := (.int (126) 274)) (by kernel_rfl) (.int _ _)
theorem g_LEAST_SIGN (H : Pg G) : G.glob "LEAST_SIGN" (.int 33) := H.glob (y := (.int (33) 276)) (by kernel_rfl) (.int _ _)
theorem g_MOST_SIGN (H : Pg G) : G.glob "MOST_SIGN" (.int 117) := H.glob (y := (.int (117) 278)) (by kernel_rfl) (.int _ _)
theorem g_FOUR_NOUGHTS (H : Pg G) : G.glob "FOUR_NOUGHTS" (.int 122) := H.glob (y := (.int (122) 280)) (by kernel_rfl) (.int _ _)
theorem g_MOST_GROUP (H : Pg G) : G.glob "MOST_GROUP" (.int 4294967295) := H.glob (y := (.int (4294967295) 286)) (by kernel_rfl) (.int _ _)
theorem g_RUN_END (H : Pg G) : G.glob "RUN_END" (.int 128) := H.glob (y := (.int (128) 288)) (by kernel_rfl) (.int _ _)
theorem g_MOST_RUN (H : Pg G) : G.glob "MOST_RUN" (.int 128) := H.glob (y := (.int (128) 290)) (by kernel_rfl) (.int _ _)
theorem g_hex_encoded (H : Pg G) : G.glob "hex_encoded" (.ref 77) := H.glob (y := (.ref 77)) (by kernel_rfl) (.ref _)
theorem g_figure_worth (H : Pg G) : G.glob "figure_worth" (.ref 84) := H.glob (y := (.ref 84)) (by kernel_rfl) (.ref _)
theorem g_hex_decoded (H : Pg G) : G.glob "hex_decoded" (.ref 89) := H.glob (y := (.ref 89)) (by kernel_rfl) (.ref _)
theorem g_signs_of_group (H : Pg G) : G.glob "signs_of_group" (.ref 96) := H.glob (y := (.ref 96)) (by kernel_rfl) (.ref _)
theorem g_base85_encoded (H : Pg G) : G.glob "base85_encoded" (.ref 101) := H.glob (y := (.ref 101)) (by kernel_rfl) (.ref _)
theorem g_octets_of_group (H : Pg G) : G.glob "octets_of_group" (.ref 108) := H.glob (y := (.ref 108)) (by kernel_rfl) (.ref _)
theorem g_is_end_at (H : Pg G) : G.glob "is_end_at" (.ref 115) := H.glob (y := (.ref 115)) (by kernel_rfl) (.ref _)
theorem g_base85_decoded (H : Pg G) : G.glob "base85_decoded" (.ref 122) := H.glob (y := (.ref 122)) (by kernel_rfl) (.ref _)
theorem g_run_at (H : Pg G) : G.glob "run_at" (.ref 129) := H.glob (y := (.ref 129)) (by kernel_rfl) (.ref _)
theorem g_run_encoded (H : Pg G) : G.glob "run_encoded" (.ref 136) := H.glob (y := (.ref 136)) (by kernel_rfl) (.ref _)
theorem g_row_codes (H : Pg G) : G.glob "row_codes" (.ref 143) := H.glob (y := (.ref 143)) (by kernel_rfl) (.ref _)
theorem g_run_decoded (H : Pg G) : G.glob "run_decoded" (.ref 150) := H.glob (y := (.ref 150)) (by kernel_rfl) (.ref _)
theorem g_MOST_HOPS (H : Pg G) : G.glob "MOST_HOPS" (.int 30) := H.glob (y := (.int (30) 408)) (by kernel_rfl) (.int _ _)
theorem g_Name (H : Pg G) : G.glob "Name" (.ref 167) := H.glob (y := (.ref 167)) (by kernel_rfl) (.ref _)
theorem g_Reference (H : Pg G) : G.glob "Reference" (.ref 195) := H.glob (y := (.ref 195)) (by kernel_rfl) (.ref _)
theorem g_Lookup (H : Pg G) : G.glob "Lookup" (.ref 231) := H.glob (y := (.ref 231)) (by kernel_rfl) (.ref _)
theorem g_full_name (H : Pg G) : G.glob "full_name" (.ref 242) := H.glob (y := (.ref 242)) (by kernel_rfl) (.ref _)
theorem g_filter_names (H : Pg G) : G.glob "filter_names" (.ref 249) := H.glob (y := (.ref 249)) (by kernel_rfl) (.ref _)
theorem g_filter_parms (H : Pg G) : G.glob "filter_parms" (.ref 254) := H.glob (y := (.ref 254)) (by kernel_rfl) (.ref _)
theorem g_early_of (H : Pg G) : G.glob "early_of" (.ref 261) := H.glob (y := (.ref 261)) (by kernel_rfl) (.ref _)
theorem g_undo_plain (H : Pg G) : G.glob "undo_plain" (.ref 268) := H.glob (y := (.ref 268)) (by kernel_rfl) (.ref _)
theorem g_apply_plain (H : Pg G) : G.glob "apply_plain" (.ref 275) := H.glob (y := (.ref 275)) (by kernel_rfl) (.ref _)
theorem g_head_of (H : Pg G) : G.glob "head_of" (.ref 280) := H.glob (y := (.ref 280)) (by kernel_rfl) (.ref _)
theorem g_law_names (H : Pg G) : G.glob "_law_names" (.ref 290) := H.glob (y := (.ref 290)) (by kernel_rfl) (.ref _)
theorem g_law_draw (H : Pg G) : G.glob "_law_draw" (.ref 297) := H.glob (y := (.ref 297)) (by kernel_rfl) (.ref _)
theorem g_law_pen (H : Pg G) : G.glob "_law_pen" (.ref 304) := H.glob (y := (.ref 304)) (by kernel_rfl) (.ref _)
theorem g_law_octets (H : Pg G) : G.glob "_law_octets" (.ref 311) := H.glob (y := (.ref 311)) (by kernel_rfl) (.ref _)
theorem g_law_heard (H : Pg G) : G.glob "_law_heard" (.ref 318) := H.glob (y := (.ref 318)) (by kernel_rfl) (.ref _)
theorem g_law_bent (H : Pg G) : G.glob "_law_bent" (.ref 325) := H.glob (y := (.ref 325)) (by kernel_rfl) (.ref _)
theorem g_law_lost (H : Pg G) : G.glob "_law_lost" (.ref 332) := H.glob (y := (.ref 332)) (by kernel_rfl) (.ref _)
theorem g_range (H : Pg G) : G.glob "range" (.typ "range") := H.globB (y := .type "range") (by kernel_rfl) (.typ _) (by kernel_rfl) (by decide)
theorem g_len (H : Pg G) : G.glob "len" (.blt "len") := H.globB (y := .builtin "len") (by kernel_rfl) (.blt _) (by kernel_rfl) (by decide)
theorem g_abs (H : Pg G) : G.glob "abs" (.blt "abs") := H.globB (y := .builtin "abs") (by kernel_rfl) (.blt _) (by kernel_rfl) (by decide)
theorem g_sum (H : Pg G) : G.glob "sum" (.blt "sum") := H.globB (y := .builtin "sum") (by kernel_rfl) (.blt _) (by kernel_rfl) (by decide)
theorem g_list (H : Pg G) : G.glob "list" (.typ "list") := H.globB (y := .type "list") (by kernel_rfl) (.typ _) (by kernel_rfl) (by decide)
theorem g_dict (H : Pg G) : G.glob "dict" (.typ "dict") := H.globB (y := .type "dict") (by kernel_rfl) (.typ _) (by kernel_rfl) (by decide)
theorem g_bytes (H : Pg G) : G.glob "bytes" (.typ "bytes") := H.globB (y := .type "bytes") (by kernel_rfl) (.typ _) (by kernel_rfl) (by decide)
theorem g_isinstance (H : Pg G) : G.glob "isinstance" (.blt "isinstance") := H.globB (y := .builtin "isinstance") (by kernel_rfl) (.blt _) (by kernel_rfl) (by decide)
theorem g_enumerate (H : Pg G) : G.glob "enumerate" (.typ "enumerate") := H.globB (y := .type "enumerate") (by kernel_rfl) (.typ _) (by kernel_rfl) (by decide)
theorem g_sorted (H : Pg G) : G.glob "sorted" (.blt "sorted") := H.globB (y := .builtin "sorted") (by kernel_rfl) (.blt _) (by kernel_rfl) (by decide)
end
/-! objects of the top that are only read -/
noncomputable def romL : List (Addr × O) := [(22, .tuple [.int 0, .int 9, .int 10, .int 12, .int 13, .int 32]), (281, .tuple [.str "ASCIIHexDecode", .str "AHx"]), (282, .tuple [.str "ASCII85Decode", .str "A85"]), (283, .tuple [.str "RunLengthDecode", .str "RL"]), (284, .tuple [.str "FlateDecode", .str "Fl"]), (285, .tuple [.str "LZWDecode", .str "LZW"]), (286, .tuple [.str "CCITTFaxDecode", .str "CCF"]), (287, .tuple [.str "DCTDecode", .str "DCT"]), (288, .tuple [.str "JPXDecode", .str "JPXDecode"]), (289, .tuple [.str "fl", .str "fl"]), (290, .tuple [.ref 281, .ref 282, .ref 283, .ref 284, .ref 285, .ref 286, .ref 287, .ref 288, .ref 289])]
noncomputable def rom0 (a : Addr) : Option O := romL.lookup a
theorem lookup_mem {l : List (Addr × O)} {a : Addr} {o : O} (h : l.lookup a = some o) : (a, o) ∈ l := by
  induction l with
  | nil => cases h
  | cons p r ih =>
    rw [List.lookup_cons] at h
    by_cases q : a = p.1
    · rw [q, beq_self_eq_true] at h; injection h with h; rw [q, ← h]; exact .head _
    · rw [beq_false_of_ne q] at h; exact .tail _ (ih h)
theorem romL_ok (P : Params) (prog : Program) (w : World) : ∀ p ∈ romL, ∃ ob, (K0 P).lookup p.1 = some ob ∧ OR prog w p.2 ob := by
  refine List.forall_mem_cons.2 ⟨⟨k22, by kernel_rfl, .tuple (.cons (.int _ _) (.cons (.int _ _) (.cons (.int _ _) (.cons (.int _ _) (.cons (.int _ _) (.cons (.int _ _) .nil))))))⟩, List.forall_mem_cons.2 ⟨⟨k281, by kernel_rfl, .tuple (.cons (.str _ _) (.cons (.str _ _) .nil))⟩, List.forall_mem_cons.2 ⟨⟨k282, by kernel_rfl, .tuple (.cons (.str _ _) (.cons (.str _ _) .nil))⟩, List.forall_mem_cons.2 ⟨⟨k283, by kernel_rfl, .tuple (.cons (.str _ _) (.cons (.str _ _) .nil))⟩, List.forall_mem_cons.2 ⟨⟨k284, by kernel_rfl, .tuple (.cons (.str _ _) (.cons (.str _ _) .nil))⟩, List.forall_mem_cons.2 ⟨⟨k285, by kernel_rfl, .tuple (.cons (.str _ _) (.cons (.str _ _) .nil))⟩, List.forall_mem_cons.2 ⟨⟨k286, by kernel_rfl, .tuple (.cons (.str _ _) (.cons (.str _ _) .nil))⟩, List.forall_mem_cons.2 ⟨⟨k287, by kernel_rfl, .tuple (.cons (.str _ _) (.cons (.str _ _) .nil))⟩, List.forall_mem_cons.2 ⟨⟨k288, by kernel_rfl, .tuple (.cons (.str _ _) (.cons (.str _ _) .nil))⟩, List.forall_mem_cons.2 ⟨⟨k289, by kernel_rfl, .tuple (.cons (.str _ _) (.cons (.str _ _) .nil))⟩, List.forall_mem_cons.2 ⟨⟨k290, by kernel_rfl, .tuple (.cons (.ref _) (.cons (.ref _) (.cons (.ref _) (.cons (.ref _) (.cons (.ref _) (.cons (.ref _) (.cons (.ref _) (.cons (.ref _) (.cons (.ref _) .nil)))))))))⟩, fun _ h => nomatch h⟩⟩⟩⟩⟩⟩⟩⟩⟩⟩⟩
theorem rom0_ok {K : Frag} {P : Params} {h : Heap} {prog : Program} {w : World} (hK : K = K0 P) (X : K.In h) : ∀ a o, rom0 a = some o → ∃ ob, h.get? a = some ob ∧ OR prog w o ob := by
  intro a o e
  obtain ⟨ob, h1, h2⟩ := romL_ok P prog w _ (lookup_mem e)
  exact ⟨ob, X a ob (by rw [hK]; exact h1), h2⟩
structure Pr (G : Gd) : Prop extends Pg G where
  r : G.rom = rom0
theorem Pr.rom {G : Gd} {σ : St} {h : Heap} (H : Pr G) (S : Sit G σ h) {a : Addr} {o : O} (e : rom0 a = some o) : G.look σ a = some o := by
  have e' : G.rom a = some o := by rw [H.r]; exact e
  obtain ⟨ob, h1, _⟩ := G.R a o e'
  unfold Gd.look
  rw [S.off a ob h1]
  exact e'
/-! a def of the top, called -/
theorem zip_paired {names : List Str} {vs : List V} {xs : List Value} (h : Paired VR vs xs) : Paired KV (names.zip vs) (names.zip xs) := by
  induction h generalizing names with
  | nil => cases names <;> exact .nil
  | cons h t ih => cases names with
    | nil => exact .nil
    | cons n r => exact .cons ⟨rfl, h⟩ ih
theorem code_top {G : Gd} {n : Nat} {σ : St} (H : Pr G) {f : Addr} {o : Obj} {st : Stmt} {names : List Str} {args : List V} {Q : V → St → Prop} (env : Addr → Env) (bl : List (Str × V)) (henv : env = fun L => callEnv (fdOf o) L f) (hbl : (names.zip args).reverse = bl)
    (ho : (K0 G.w.params).lookup f = some o) (hd : o.data = .func (fdOf o)) (hcd : codeIn (K0 G.w.params) (fdOf o).code (fdOf o).qualname = true) (hbody : (fdOf o).body = .stmts (fbody st))
    (hb : ∀ vs : List Value, vs.length = args.length → bindArgs (fdOf o) ⟨vs, []⟩ = pure (names.zip vs))
    (hloc : (names.all fun x => decide ((fdOf o).scope.names.lookup x = some .local)) = true) (hcell : ((fdOf o).scope.names.all fun x => decide (x.2 ≠ .cell)) = true)
    (hco : (fdOf o).scope.isCoroutine = false) (hgen : (fdOf o).scope.isGenerator = false) (hk : (fdOf o).scope.kind = .function) (hg1 : (fdOf o).globals = mainGlobals) (hg2 : (fdOf o).builtins = builtinsNs)
    (h : ∀ L, FnEnv (env L) → Ex G n (env L) (lvOf bl) σ (execs (fbody st) (env L)) fun r _ σ' => Q (retOf r) σ') : CodeV G (n + 1) σ (.ref f) args Q := by
  subst henv
  subst hbl
  replace h := fun L => h L ⟨hk, hg1, hg2⟩
  refine code_fn (H.at ho) hd (H.code hcd) hbody (binds := names.zip args) (fun vs hv s _ => ⟨names.zip vs, BindsTo.of_eq (hb vs hv.length.symm), zip_paired hv⟩) (fun x hx => ?_) (fun x hx => ?_) h hco hgen hk
  · exact of_decide_eq_true (List.all_eq_true.mp hloc _ (List.of_mem_zip hx).1)
  · exact of_decide_eq_true (List.all_eq_true.mp hcell _ hx)
theorem len1 {vs : List Value} (h : vs.length = 1) : ∃ a, vs = [a] := List.length_eq_one_iff.mp h
theorem len2 {vs : List Value} (h : vs.length = 2) : ∃ a b, vs = [a, b] := by
  rcases vs with _ | ⟨a, t⟩
  · cases h
  · obtain ⟨b, rfl⟩ := len1 (Nat.succ.inj h)
    exact ⟨a, b, rfl⟩
theorem len3 {vs : List Value} (h : vs.length = 3) : ∃ a b c, vs = [a, b, c] := by
  rcases vs with _ | ⟨a, t⟩
  · cases h
  · obtain ⟨b, c, rfl⟩ := len2 (Nat.succ.inj h)
    exact ⟨a, b, c, rfl⟩
theorem fn_callEnv {fd : FuncData} (L a : Addr) (h1 : fd.scope.kind = .function) (h2 : fd.globals = mainGlobals) (h3 : fd.builtins = builtinsNs) : FnEnv (callEnv fd L a) := ⟨h1, h2, h3⟩
/-! names of the block -/
theorem lv_hit {l : Lv} {x : Str} {v : V} : (Lv.set l x v) x = some v := by unfold Lv.set; rw [if_pos rfl]
theorem lv_miss {l : Lv} {x y : Str} {v u : V} (h : decide (y = x) = false) (e : l y = some u) : (Lv.set l x v) y = some u := by unfold Lv.set; rw [if_neg (of_decide_eq_false h)]; exact e
theorem lo_hit {r : List (Str × V)} {x : Str} {v : V} : lvOf ((x, v) :: r) x = some v := by unfold lvOf; rw [if_pos rfl]
theorem lo_miss {r : List (Str × V)} {x y : Str} {v u : V} (h : decide (y = x) = false) (e : lvOf r y = some u) : lvOf ((x, v) :: r) y = some u := by unfold lvOf; rw [if_neg (of_decide_eq_false h)]; exact e
/-! the defs, one by one: who keeps, how a call begins -/
section
variable {G : Gd} {n : Nat} {σ : St} {Q : V → St → Prop}
noncomputable def e_is_white (L : Addr) : Env := callEnv (fdOf k29) L 29
theorem kp_is_white (H : Pr G) : Kp G (.ref 29) := kp_fn (o := k29) (fd := fdOf k29) (H.at (by kernel_rfl)) (by kernel_rfl)
theorem in_is_white (H : Pr G) {a0 : V} (h : ∀ L, FnEnv (e_is_white L) → Ex G n (e_is_white L) (lvOf [("code", a0)]) σ (execs (fbody (top 3)) (e_is_white L)) fun r _ σ' => Q (retOf r) σ') : CodeV G (n + 1) σ (.ref 29) [a0] Q :=
  code_top H (o := k29) (st := top 3) (names := ["code"]) e_is_white [("code", a0)] rfl rfl (by kernel_rfl) (by kernel_rfl) (by kernel_rfl) (by kernel_rfl) (fun vs hv => by obtain ⟨y0, rfl⟩ := len1 hv; kernel_rfl) (by kernel_rfl) (by kernel_rfl) (by kernel_rfl) (by kernel_rfl) (by kernel_rfl) (by kernel_rfl) (by kernel_rfl) fun L hf => h L hf
noncomputable def e_figure_worth (L : Addr) : Env := callEnv (fdOf k84) L 84
theorem kp_figure_worth (H : Pr G) : Kp G (.ref 84) := kp_fn (o := k84) (fd := fdOf k84) (H.at (by kernel_rfl)) (by kernel_rfl)
theorem in_figure_worth (H : Pr G) {a0 : V} (h : ∀ L, FnEnv (e_figure_worth L) → Ex G n (e_figure_worth L) (lvOf [("code", a0)]) σ (execs (fbody (top 18)) (e_figure_worth L)) fun r _ σ' => Q (retOf r) σ') : CodeV G (n + 1) σ (.ref 84) [a0] Q :=
  code_top H (o := k84) (st := top 18) (names := ["code"]) e_figure_worth [("code", a0)] rfl rfl (by kernel_rfl) (by kernel_rfl) (by kernel_rfl) (by kernel_rfl) (fun vs hv => by obtain ⟨y0, rfl⟩ := len1 hv; kernel_rfl) (by kernel_rfl) (by kernel_rfl) (by kernel_rfl) (by kernel_rfl) (by kernel_rfl) (by kernel_rfl) (by kernel_rfl) fun L hf => h L hf
noncomputable def e_signs_of_group (L : Addr) : Env := callEnv (fdOf k96) L 96
theorem kp_signs_of_group (H : Pr G) : Kp G (.ref 96) := kp_fn (o := k96) (fd := fdOf k96) (H.at (by kernel_rfl)) (by kernel_rfl)
theorem in_signs_of_group (H : Pr G) {a0 : V} (h : ∀ L, FnEnv (e_signs_of_group L) → Ex G n (e_signs_of_group L) (lvOf [("group", a0)]) σ (execs (fbody (top 20)) (e_signs_of_group L)) fun r _ σ' => Q (retOf r) σ') : CodeV G (n + 1) σ (.ref 96) [a0] Q :=
  code_top H (o := k96) (st := top 20) (names := ["group"]) e_signs_of_group [("group", a0)] rfl rfl (by kernel_rfl) (by kernel_rfl) (by kernel_rfl) (by kernel_rfl) (fun vs hv => by obtain ⟨y0, rfl⟩ := len1 hv; kernel_rfl) (by kernel_rfl) (by kernel_rfl) (by kernel_rfl) (by kernel_rfl) (by kernel_rfl) (by kernel_rfl) (by kernel_rfl) fun L hf => h L hf
noncomputable def e_base85_encoded (L : Addr) : Env := callEnv (fdOf k101) L 101
theorem kp_base85_encoded (H : Pr G) : Kp G (.ref 101) := kp_fn (o := k101) (fd := fdOf k101) (H.at (by kernel_rfl)) (by kernel_rfl)
theorem in_base85_encoded (H : Pr G) {a0 : V} (h : ∀ L, FnEnv (e_base85_encoded L) → Ex G n (e_base85_encoded L) (lvOf [("octets", a0)]) σ (execs (fbody (top 21)) (e_base85_encoded L)) fun r _ σ' => Q (retOf r) σ') : CodeV G (n + 1) σ (.ref 101) [a0] Q :=
  code_top H (o := k101) (st := top 21) (names := ["octets"]) e_base85_encoded [("octets", a0)] rfl rfl (by kernel_rfl) (by kernel_rfl) (by kernel_rfl) (by kernel_rfl) (fun vs hv => by obtain ⟨y0, rfl⟩ := len1 hv; kernel_rfl) (by kernel_rfl) (by kernel_rfl) (by kernel_rfl) (by kernel_rfl) (by kernel_rfl) (by kernel_rfl) (by kernel_rfl) fun L hf => h L hf
noncomputable def e_octets_of_group (L : Addr) : Env := callEnv (fdOf k108) L 108
theorem kp_octets_of_group (H : Pr G) : Kp G (.ref 108) := kp_fn (o := k108) (fd := fdOf k108) (H.at (by kernel_rfl)) (by kernel_rfl)
theorem in_octets_of_group (H : Pr G) {a0 a1 : V} (h : ∀ L, FnEnv (e_octets_of_group L) → Ex G n (e_octets_of_group L) (lvOf [("at", a1), ("signs", a0)]) σ (execs (fbody (top 22)) (e_octets_of_group L)) fun r _ σ' => Q (retOf r) σ') : CodeV G (n + 1) σ (.ref 108) [a0, a1] Q :=
  code_top H (o := k108) (st := top 22) (names := ["signs", "at"]) e_octets_of_group [("at", a1), ("signs", a0)] rfl rfl (by kernel_rfl) (by kernel_rfl) (by kernel_rfl) (by kernel_rfl) (fun vs hv => by obtain ⟨y0, y1, rfl⟩ := len2 hv; kernel_rfl) (by kernel_rfl) (by kernel_rfl) (by kernel_rfl) (by kernel_rfl) (by kernel_rfl) (by kernel_rfl) (by kernel_rfl) fun L hf => h L hf
noncomputable def e_is_end_at (L : Addr) : Env := callEnv (fdOf k115) L 115
theorem kp_is_end_at (H : Pr G) : Kp G (.ref 115) := kp_fn (o := k115) (fd := fdOf k115) (H.at (by kernel_rfl)) (by kernel_rfl)
theorem in_is_end_at (H : Pr G) {a0 a1 : V} (h : ∀ L, FnEnv (e_is_end_at L) → Ex G n (e_is_end_at L) (lvOf [("at", a1), ("data", a0)]) σ (execs (fbody (top 23)) (e_is_end_at L)) fun r _ σ' => Q (retOf r) σ') : CodeV G (n + 1) σ (.ref 115) [a0, a1] Q :=
  code_top H (o := k115) (st := top 23) (names := ["data", "at"]) e_is_end_at [("at", a1), ("data", a0)] rfl rfl (by kernel_rfl) (by kernel_rfl) (by kernel_rfl) (by kernel_rfl) (fun vs hv => by obtain ⟨y0, y1, rfl⟩ := len2 hv; kernel_rfl) (by kernel_rfl) (by kernel_rfl) (by kernel_rfl) (by kernel_rfl) (by kernel_rfl) (by kernel_rfl) (by kernel_rfl) fun L hf => h L hf
noncomputable def e_base85_decoded (L : Addr) : Env := callEnv (fdOf k122) L 122
theorem kp_base85_decoded (H : Pr G) : Kp G (.ref 122) := kp_fn (o := k122) (fd := fdOf k122) (H.at (by kernel_rfl)) (by kernel_rfl)
theorem in_base85_decoded (H : Pr G) {a0 : V} (h : ∀ L, FnEnv (e_base85_decoded L) → Ex G n (e_base85_decoded L) (lvOf [("data", a0)]) σ (execs (fbody (top 24)) (e_base85_decoded L)) fun r _ σ' => Q (retOf r) σ') : CodeV G (n + 1) σ (.ref 122) [a0] Q :=
  code_top H (o := k122) (st := top 24) (names := ["data"]) e_base85_decoded [("data", a0)] rfl rfl (by kernel_rfl) (by kernel_rfl) (by kernel_rfl) (by kernel_rfl) (fun vs hv => by obtain ⟨y0, rfl⟩ := len1 hv; kernel_rfl) (by kernel_rfl) (by kernel_rfl) (by kernel_rfl) (by kernel_rfl) (by kernel_rfl) (by kernel_rfl) (by kernel_rfl) fun L hf => h L hf
noncomputable def e_run_at (L : Addr) : Env := callEnv (fdOf k129) L 129
theorem kp_run_at (H : Pr G) : Kp G (.ref 129) := kp_fn (o := k129) (fd := fdOf k129) (H.at (by kernel_rfl)) (by kernel_rfl)
theorem in_run_at (H : Pr G) {a0 a1 : V} (h : ∀ L, FnEnv (e_run_at L) → Ex G n (e_run_at L) (lvOf [("at", a1), ("octets", a0)]) σ (execs (fbody (top 25)) (e_run_at L)) fun r _ σ' => Q (retOf r) σ') : CodeV G (n + 1) σ (.ref 129) [a0, a1] Q :=
  code_top H (o := k129) (st := top 25) (names := ["octets", "at"]) e_run_at [("at", a1), ("octets", a0)] rfl rfl (by kernel_rfl) (by kernel_rfl) (by kernel_rfl) (by kernel_rfl) (fun vs hv => by obtain ⟨y0, y1, rfl⟩ := len2 hv; kernel_rfl) (by kernel_rfl) (by kernel_rfl) (by kernel_rfl) (by kernel_rfl) (by kernel_rfl) (by kernel_rfl) (by kernel_rfl) fun L hf => h L hf
noncomputable def e_run_encoded (L : Addr) : Env := callEnv (fdOf k136) L 136
theorem kp_run_encoded (H : Pr G) : Kp G (.ref 136) := kp_fn (o := k136) (fd := fdOf k136) (H.at (by kernel_rfl)) (by kernel_rfl)
theorem in_run_encoded (H : Pr G) {a0 : V} (h : ∀ L, FnEnv (e_run_encoded L) → Ex G n (e_run_encoded L) (lvOf [("octets", a0)]) σ (execs (fbody (top 26)) (e_run_encoded L)) fun r _ σ' => Q (retOf r) σ') : CodeV G (n + 1) σ (.ref 136) [a0] Q :=
  code_top H (o := k136) (st := top 26) (names := ["octets"]) e_run_encoded [("octets", a0)] rfl rfl (by kernel_rfl) (by kernel_rfl) (by kernel_rfl) (by kernel_rfl) (fun vs hv => by obtain ⟨y0, rfl⟩ := len1 hv; kernel_rfl) (by kernel_rfl) (by kernel_rfl) (by kernel_rfl) (by kernel_rfl) (by kernel_rfl) (by kernel_rfl) (by kernel_rfl) fun L hf => h L hf
noncomputable def e_row_codes (L : Addr) : Env := callEnv (fdOf k143) L 143
theorem kp_row_codes (H : Pr G) : Kp G (.ref 143) := kp_fn (o := k143) (fd := fdOf k143) (H.at (by kernel_rfl)) (by kernel_rfl)
theorem in_row_codes (H : Pr G) {a0 : V} (h : ∀ L, FnEnv (e_row_codes L) → Ex G n (e_row_codes L) (lvOf [("row", a0)]) σ (execs (fbody (top 27)) (e_row_codes L)) fun r _ σ' => Q (retOf r) σ') : CodeV G (n + 1) σ (.ref 143) [a0] Q :=
  code_top H (o := k143) (st := top 27) (names := ["row"]) e_row_codes [("row", a0)] rfl rfl (by kernel_rfl) (by kernel_rfl) (by kernel_rfl) (by kernel_rfl) (fun vs hv => by obtain ⟨y0, rfl⟩ := len1 hv; kernel_rfl) (by kernel_rfl) (by kernel_rfl) (by kernel_rfl) (by kernel_rfl) (by kernel_rfl) (by kernel_rfl) (by kernel_rfl) fun L hf => h L hf
noncomputable def e_run_decoded (L : Addr) : Env := callEnv (fdOf k150) L 150
theorem kp_run_decoded (H : Pr G) : Kp G (.ref 150) := kp_fn (o := k150) (fd := fdOf k150) (H.at (by kernel_rfl)) (by kernel_rfl)
theorem in_run_decoded (H : Pr G) {a0 : V} (h : ∀ L, FnEnv (e_run_decoded L) → Ex G n (e_run_decoded L) (lvOf [("data", a0)]) σ (execs (fbody (top 28)) (e_run_decoded L)) fun r _ σ' => Q (retOf r) σ') : CodeV G (n + 1) σ (.ref 150) [a0] Q :=
  code_top H (o := k150) (st := top 28) (names := ["data"]) e_run_decoded [("data", a0)] rfl rfl (by kernel_rfl) (by kernel_rfl) (by kernel_rfl) (by kernel_rfl) (fun vs hv => by obtain ⟨y0, rfl⟩ := len1 hv; kernel_rfl) (by kernel_rfl) (by kernel_rfl) (by kernel_rfl) (by kernel_rfl) (by kernel_rfl) (by kernel_rfl) (by kernel_rfl) fun L hf => h L hf
noncomputable def e_name_init (L : Addr) : Env := callEnv (fdOf k164) L 164
theorem in_name_init (H : Pr G) {a0 a1 : V} (h : ∀ L, FnEnv (e_name_init L) → Ex G n (e_name_init L) (lvOf [("text", a1), ("self", a0)]) σ (execs (fbody (meth 31 0)) (e_name_init L)) fun r _ σ' => Q (retOf r) σ') : CodeV G (n + 1) σ (.ref 164) [a0, a1] Q :=
  code_top H (o := k164) (st := meth 31 0) (names := ["self", "text"]) e_name_init [("text", a1), ("self", a0)] rfl rfl (by kernel_rfl) (by kernel_rfl) (by kernel_rfl) (by kernel_rfl) (fun vs hv => by obtain ⟨y0, y1, rfl⟩ := len2 hv; kernel_rfl) (by kernel_rfl) (by kernel_rfl) (by kernel_rfl) (by kernel_rfl) (by kernel_rfl) (by kernel_rfl) (by kernel_rfl) fun L hf => h L hf
noncomputable def e_ref_init (L : Addr) : Env := callEnv (fdOf k185) L 185
theorem in_ref_init (H : Pr G) {a0 a1 a2 : V} (h : ∀ L, FnEnv (e_ref_init L) → Ex G n (e_ref_init L) (lvOf [("generation", a2), ("number", a1), ("self", a0)]) σ (execs (fbody (meth 32 0)) (e_ref_init L)) fun r _ σ' => Q (retOf r) σ') : CodeV G (n + 1) σ (.ref 185) [a0, a1, a2] Q :=
  code_top H (o := k185) (st := meth 32 0) (names := ["self", "number", "generation"]) e_ref_init [("generation", a2), ("number", a1), ("self", a0)] rfl rfl (by kernel_rfl) (by kernel_rfl) (by kernel_rfl) (by kernel_rfl) (fun vs hv => by obtain ⟨y0, y1, y2, rfl⟩ := len3 hv; kernel_rfl) (by kernel_rfl) (by kernel_rfl) (by kernel_rfl) (by kernel_rfl) (by kernel_rfl) (by kernel_rfl) (by kernel_rfl) fun L hf => h L hf
noncomputable def e_fetch (L : Addr) : Env := callEnv (fdOf k221) L 221
theorem kp_fetch (H : Pr G) : Kp G (.ref 221) := kp_fn (o := k221) (fd := fdOf k221) (H.at (by kernel_rfl)) (by kernel_rfl)
theorem in_fetch (H : Pr G) {a0 a1 : V} (h : ∀ L, FnEnv (e_fetch L) → Ex G n (e_fetch L) (lvOf [("value", a1), ("self", a0)]) σ (execs (fbody (meth 33 1)) (e_fetch L)) fun r _ σ' => Q (retOf r) σ') : CodeV G (n + 1) σ (.ref 221) [a0, a1] Q :=
  code_top H (o := k221) (st := meth 33 1) (names := ["self", "value"]) e_fetch [("value", a1), ("self", a0)] rfl rfl (by kernel_rfl) (by kernel_rfl) (by kernel_rfl) (by kernel_rfl) (fun vs hv => by obtain ⟨y0, y1, rfl⟩ := len2 hv; kernel_rfl) (by kernel_rfl) (by kernel_rfl) (by kernel_rfl) (by kernel_rfl) (by kernel_rfl) (by kernel_rfl) (by kernel_rfl) fun L hf => h L hf
noncomputable def e_get (L : Addr) : Env := callEnv (fdOf k228) L 228
theorem kp_get (H : Pr G) : Kp G (.ref 228) := kp_fn (o := k228) (fd := fdOf k228) (H.at (by kernel_rfl)) (by kernel_rfl)
theorem in_get (H : Pr G) {a0 a1 a2 : V} (h : ∀ L, FnEnv (e_get L) → Ex G n (e_get L) (lvOf [("key", a2), ("head", a1), ("self", a0)]) σ (execs (fbody (meth 33 2)) (e_get L)) fun r _ σ' => Q (retOf r) σ') : CodeV G (n + 1) σ (.ref 228) [a0, a1, a2] Q :=
  code_top H (o := k228) (st := meth 33 2) (names := ["self", "head", "key"]) e_get [("key", a2), ("head", a1), ("self", a0)] rfl rfl (by kernel_rfl) (by kernel_rfl) (by kernel_rfl) (by kernel_rfl) (fun vs hv => by obtain ⟨y0, y1, y2, rfl⟩ := len3 hv; kernel_rfl) (by kernel_rfl) (by kernel_rfl) (by kernel_rfl) (by kernel_rfl) (by kernel_rfl) (by kernel_rfl) (by kernel_rfl) fun L hf => h L hf
noncomputable def e_full_name (L : Addr) : Env := callEnv (fdOf k242) L 242
theorem kp_full_name (H : Pr G) : Kp G (.ref 242) := kp_fn (o := k242) (fd := fdOf k242) (H.at (by kernel_rfl)) (by kernel_rfl)
theorem in_full_name (H : Pr G) {a0 : V} (h : ∀ L, FnEnv (e_full_name L) → Ex G n (e_full_name L) (lvOf [("text", a0)]) σ (execs (fbody (top 35)) (e_full_name L)) fun r _ σ' => Q (retOf r) σ') : CodeV G (n + 1) σ (.ref 242) [a0] Q :=
  code_top H (o := k242) (st := top 35) (names := ["text"]) e_full_name [("text", a0)] rfl rfl (by kernel_rfl) (by kernel_rfl) (by kernel_rfl) (by kernel_rfl) (fun vs hv => by obtain ⟨y0, rfl⟩ := len1 hv; kernel_rfl) (by kernel_rfl) (by kernel_rfl) (by kernel_rfl) (by kernel_rfl) (by kernel_rfl) (by kernel_rfl) (by kernel_rfl) fun L hf => h L hf
noncomputable def e_filter_names (L : Addr) : Env := callEnv (fdOf k249) L 249
theorem kp_filter_names (H : Pr G) : Kp G (.ref 249) := kp_fn (o := k249) (fd := fdOf k249) (H.at (by kernel_rfl)) (by kernel_rfl)
theorem in_filter_names (H : Pr G) {a0 a1 : V} (h : ∀ L, FnEnv (e_filter_names L) → Ex G n (e_filter_names L) (lvOf [("head", a1), ("shelf", a0)]) σ (execs (fbody (top 36)) (e_filter_names L)) fun r _ σ' => Q (retOf r) σ') : CodeV G (n + 1) σ (.ref 249) [a0, a1] Q :=
  code_top H (o := k249) (st := top 36) (names := ["shelf", "head"]) e_filter_names [("head", a1), ("shelf", a0)] rfl rfl (by kernel_rfl) (by kernel_rfl) (by kernel_rfl) (by kernel_rfl) (fun vs hv => by obtain ⟨y0, y1, rfl⟩ := len2 hv; kernel_rfl) (by kernel_rfl) (by kernel_rfl) (by kernel_rfl) (by kernel_rfl) (by kernel_rfl) (by kernel_rfl) (by kernel_rfl) fun L hf => h L hf
noncomputable def e_early_of (L : Addr) : Env := callEnv (fdOf k261) L 261
theorem kp_early_of (H : Pr G) : Kp G (.ref 261) := kp_fn (o := k261) (fd := fdOf k261) (H.at (by kernel_rfl)) (by kernel_rfl)
theorem in_early_of (H : Pr G) {a0 : V} (h : ∀ L, FnEnv (e_early_of L) → Ex G n (e_early_of L) (lvOf [("parms", a0)]) σ (execs (fbody (top 38)) (e_early_of L)) fun r _ σ' => Q (retOf r) σ') : CodeV G (n + 1) σ (.ref 261) [a0] Q :=
  code_top H (o := k261) (st := top 38) (names := ["parms"]) e_early_of [("parms", a0)] rfl rfl (by kernel_rfl) (by kernel_rfl) (by kernel_rfl) (by kernel_rfl) (fun vs hv => by obtain ⟨y0, rfl⟩ := len1 hv; kernel_rfl) (by kernel_rfl) (by kernel_rfl) (by kernel_rfl) (by kernel_rfl) (by kernel_rfl) (by kernel_rfl) (by kernel_rfl) fun L hf => h L hf
noncomputable def e_undo_plain (L : Addr) : Env := callEnv (fdOf k268) L 268
theorem kp_undo_plain (H : Pr G) : Kp G (.ref 268) := kp_fn (o := k268) (fd := fdOf k268) (H.at (by kernel_rfl)) (by kernel_rfl)
theorem in_undo_plain (H : Pr G) {a0 a1 : V} (h : ∀ L, FnEnv (e_undo_plain L) → Ex G n (e_undo_plain L) (lvOf [("octets", a1), ("name", a0)]) σ (execs (fbody (top 39)) (e_undo_plain L)) fun r _ σ' => Q (retOf r) σ') : CodeV G (n + 1) σ (.ref 268) [a0, a1] Q :=
  code_top H (o := k268) (st := top 39) (names := ["name", "octets"]) e_undo_plain [("octets", a1), ("name", a0)] rfl rfl (by kernel_rfl) (by kernel_rfl) (by kernel_rfl) (by kernel_rfl) (fun vs hv => by obtain ⟨y0, y1, rfl⟩ := len2 hv; kernel_rfl) (by kernel_rfl) (by kernel_rfl) (by kernel_rfl) (by kernel_rfl) (by kernel_rfl) (by kernel_rfl) (by kernel_rfl) fun L hf => h L hf
noncomputable def e_apply_plain (L : Addr) : Env := callEnv (fdOf k275) L 275
theorem kp_apply_plain (H : Pr G) : Kp G (.ref 275) := kp_fn (o := k275) (fd := fdOf k275) (H.at (by kernel_rfl)) (by kernel_rfl)
theorem in_apply_plain (H : Pr G) {a0 a1 : V} (h : ∀ L, FnEnv (e_apply_plain L) → Ex G n (e_apply_plain L) (lvOf [("octets", a1), ("name", a0)]) σ (execs (fbody (top 40)) (e_apply_plain L)) fun r _ σ' => Q (retOf r) σ') : CodeV G (n + 1) σ (.ref 275) [a0, a1] Q :=
  code_top H (o := k275) (st := top 40) (names := ["name", "octets"]) e_apply_plain [("octets", a1), ("name", a0)] rfl rfl (by kernel_rfl) (by kernel_rfl) (by kernel_rfl) (by kernel_rfl) (fun vs hv => by obtain ⟨y0, y1, rfl⟩ := len2 hv; kernel_rfl) (by kernel_rfl) (by kernel_rfl) (by kernel_rfl) (by kernel_rfl) (by kernel_rfl) (by kernel_rfl) (by kernel_rfl) fun L hf => h L hf
noncomputable def e_head_of (L : Addr) : Env := callEnv (fdOf k280) L 280
theorem kp_head_of (H : Pr G) : Kp G (.ref 280) := kp_fn (o := k280) (fd := fdOf k280) (H.at (by kernel_rfl)) (by kernel_rfl)
theorem in_head_of (H : Pr G) {a0 a1 a2 : V} (h : ∀ L, FnEnv (e_head_of L) → Ex G n (e_head_of L) (lvOf [("length", a2), ("rows", a1), ("names", a0)]) σ (execs (fbody (top 41)) (e_head_of L)) fun r _ σ' => Q (retOf r) σ') : CodeV G (n + 1) σ (.ref 280) [a0, a1, a2] Q :=
  code_top H (o := k280) (st := top 41) (names := ["names", "rows", "length"]) e_head_of [("length", a2), ("rows", a1), ("names", a0)] rfl rfl (by kernel_rfl) (by kernel_rfl) (by kernel_rfl) (by kernel_rfl) (fun vs hv => by obtain ⟨y0, y1, y2, rfl⟩ := len3 hv; kernel_rfl) (by kernel_rfl) (by kernel_rfl) (by kernel_rfl) (by kernel_rfl) (by kernel_rfl) (by kernel_rfl) (by kernel_rfl) fun L hf => h L hf
noncomputable def e_law_draw (L : Addr) : Env := callEnv (fdOf k297) L 297
theorem kp_law_draw (H : Pr G) : Kp G (.ref 297) := kp_fn (o := k297) (fd := fdOf k297) (H.at (by kernel_rfl)) (by kernel_rfl)
theorem in_law_draw (H : Pr G) {a0 a1 : V} (h : ∀ L, FnEnv (e_law_draw L) → Ex G n (e_law_draw L) (lvOf [("many", a1), ("pen", a0)]) σ (execs (fbody (top 44)) (e_law_draw L)) fun r _ σ' => Q (retOf r) σ') : CodeV G (n + 1) σ (.ref 297) [a0, a1] Q :=
  code_top H (o := k297) (st := top 44) (names := ["pen", "many"]) e_law_draw [("many", a1), ("pen", a0)] rfl rfl (by kernel_rfl) (by kernel_rfl) (by kernel_rfl) (by kernel_rfl) (fun vs hv => by obtain ⟨y0, y1, rfl⟩ := len2 hv; kernel_rfl) (by kernel_rfl) (by kernel_rfl) (by kernel_rfl) (by kernel_rfl) (by kernel_rfl) (by kernel_rfl) (by kernel_rfl) fun L hf => h L hf
noncomputable def e_law_pen (L : Addr) : Env := callEnv (fdOf k304) L 304
theorem kp_law_pen (H : Pr G) : Kp G (.ref 304) := kp_fn (o := k304) (fd := fdOf k304) (H.at (by kernel_rfl)) (by kernel_rfl)
theorem in_law_pen (H : Pr G) {a0 : V} (h : ∀ L, FnEnv (e_law_pen L) → Ex G n (e_law_pen L) (lvOf [("script", a0)]) σ (execs (fbody (top 45)) (e_law_pen L)) fun r _ σ' => Q (retOf r) σ') : CodeV G (n + 1) σ (.ref 304) [a0] Q :=
  code_top H (o := k304) (st := top 45) (names := ["script"]) e_law_pen [("script", a0)] rfl rfl (by kernel_rfl) (by kernel_rfl) (by kernel_rfl) (by kernel_rfl) (fun vs hv => by obtain ⟨y0, rfl⟩ := len1 hv; kernel_rfl) (by kernel_rfl) (by kernel_rfl) (by kernel_rfl) (by kernel_rfl) (by kernel_rfl) (by kernel_rfl) (by kernel_rfl) fun L hf => h L hf
noncomputable def e_law_octets (L : Addr) : Env := callEnv (fdOf k311) L 311
theorem kp_law_octets (H : Pr G) : Kp G (.ref 311) := kp_fn (o := k311) (fd := fdOf k311) (H.at (by kernel_rfl)) (by kernel_rfl)
theorem in_law_octets (H : Pr G) {a0 a1 : V} (h : ∀ L, FnEnv (e_law_octets L) → Ex G n (e_law_octets L) (lvOf [("most", a1), ("pen", a0)]) σ (execs (fbody (top 46)) (e_law_octets L)) fun r _ σ' => Q (retOf r) σ') : CodeV G (n + 1) σ (.ref 311) [a0, a1] Q :=
  code_top H (o := k311) (st := top 46) (names := ["pen", "most"]) e_law_octets [("most", a1), ("pen", a0)] rfl rfl (by kernel_rfl) (by kernel_rfl) (by kernel_rfl) (by kernel_rfl) (fun vs hv => by obtain ⟨y0, y1, rfl⟩ := len2 hv; kernel_rfl) (by kernel_rfl) (by kernel_rfl) (by kernel_rfl) (by kernel_rfl) (by kernel_rfl) (by kernel_rfl) (by kernel_rfl) fun L hf => h L hf
noncomputable def e_law_bent (L : Addr) : Env := callEnv (fdOf k325) L 325
theorem kp_law_bent (H : Pr G) : Kp G (.ref 325) := kp_fn (o := k325) (fd := fdOf k325) (H.at (by kernel_rfl)) (by kernel_rfl)
theorem in_law_bent (H : Pr G) {a0 a1 a2 : V} (h : ∀ L, FnEnv (e_law_bent L) → Ex G n (e_law_bent L) (lvOf [("table", a2), ("value", a1), ("pen", a0)]) σ (execs (fbody (top 48)) (e_law_bent L)) fun r _ σ' => Q (retOf r) σ') : CodeV G (n + 1) σ (.ref 325) [a0, a1, a2] Q :=
  code_top H (o := k325) (st := top 48) (names := ["pen", "value", "table"]) e_law_bent [("table", a2), ("value", a1), ("pen", a0)] rfl rfl (by kernel_rfl) (by kernel_rfl) (by kernel_rfl) (by kernel_rfl) (fun vs hv => by obtain ⟨y0, y1, y2, rfl⟩ := len3 hv; kernel_rfl) (by kernel_rfl) (by kernel_rfl) (by kernel_rfl) (by kernel_rfl) (by kernel_rfl) (by kernel_rfl) (by kernel_rfl) fun L hf => h L hf
noncomputable def e_law_lost (L : Addr) : Env := callEnv (fdOf k332) L 332
theorem kp_law_lost (H : Pr G) : Kp G (.ref 332) := kp_fn (o := k332) (fd := fdOf k332) (H.at (by kernel_rfl)) (by kernel_rfl)
theorem in_law_lost (H : Pr G) {a0 : V} (h : ∀ L, FnEnv (e_law_lost L) → Ex G n (e_law_lost L) (lvOf [("pen", a0)]) σ (execs (fbody (top 49)) (e_law_lost L)) fun r _ σ' => Q (retOf r) σ') : CodeV G (n + 1) σ (.ref 332) [a0] Q :=
  code_top H (o := k332) (st := top 49) (names := ["pen"]) e_law_lost [("pen", a0)] rfl rfl (by kernel_rfl) (by kernel_rfl) (by kernel_rfl) (by kernel_rfl) (fun vs hv => by obtain ⟨y0, rfl⟩ := len1 hv; kernel_rfl) (by kernel_rfl) (by kernel_rfl) (by kernel_rfl) (by kernel_rfl) (by kernel_rfl) (by kernel_rfl) (by kernel_rfl) fun L hf => h L hf
end
/-! a def with defaults, all its arguments given -/
theorem code_topD {G : Gd} {n : Nat} {σ : St} (H : Pr G) {f : Addr} {o : Obj} {st : Stmt} {args : List V} {binds : List Value → List (Str × Value)} {bindsV : List (Str × V)} {Q : V → St → Prop}
    (ho : (K0 G.w.params).lookup f = some o) (hd : o.data = .func (fdOf o)) (hcd : codeIn (K0 G.w.params) (fdOf o).code (fdOf o).qualname = true) (hbody : (fdOf o).body = .stmts (fbody st))
    (hb : ∀ vs : List Value, Paired VR args vs → (∀ s : Shared, (∀ b o, G.hT.get? b = some o → s.heap.get? b = some o) → BindsTo s (fdOf o) ⟨vs, []⟩ (binds vs)) ∧ Paired KV bindsV (binds vs))
    (hloc : (bindsV.all fun x => decide ((fdOf o).scope.names.lookup x.1 = some .local)) = true) (hcell : ((fdOf o).scope.names.all fun x => decide (x.2 ≠ .cell)) = true)
    (hco : (fdOf o).scope.isCoroutine = false) (hgen : (fdOf o).scope.isGenerator = false) (hk : (fdOf o).scope.kind = .function)
    (h : ∀ L, Ex G n (callEnv (fdOf o) L f) (lvOf bindsV.reverse) σ (execs (fbody st) (callEnv (fdOf o) L f)) fun r _ σ' => Q (retOf r) σ') : CodeV G (n + 1) σ (.ref f) args Q := by
  refine code_fn (H.at ho) hd (H.code hcd) hbody (binds := bindsV) (fun vs hv s hs => ⟨binds vs, (hb vs hv).1 s hs, (hb vs hv).2⟩) (fun x hx => ?_) (fun x hx => ?_) h hco hgen hk
  · exact of_decide_eq_true (List.all_eq_true.mp hloc _ hx)
  · exact of_decide_eq_true (List.all_eq_true.mp hcell _ hx)
section
variable {G : Gd} {n : Nat} {σ : St} {Q : V → St → Prop}
noncomputable def e_look_init (L : Addr) : Env := callEnv (fdOf k214) L 214
theorem in_look_init (H : Pr G) {a0 a1 a2 : V} (h : ∀ L, FnEnv (e_look_init L) → Ex G n (e_look_init L) (lvOf [("trailer", a2), ("table", a1), ("self", a0)]) σ (execs (fbody (meth 33 0)) (e_look_init L)) fun r _ σ' => Q (retOf r) σ') : CodeV G (n + 1) σ (.ref 214) [a0, a1, a2] Q :=
  code_topD H (o := k214) (st := meth 33 0) (binds := fun vs => (["self", "table", "trailer"] : List Str).zip vs) (bindsV := [("self", a0), ("table", a1), ("trailer", a2)]) (by kernel_rfl) (by kernel_rfl) (by kernel_rfl) (by kernel_rfl)
    (fun vs hv => by
      obtain ⟨y0, y1, y2, rfl, h0, h1, h2⟩ := pair3 hv
      refine ⟨fun s hs => BindsTo.of_defaults (T := 207) (o := k207) (items := #[.none, .none]) (n := 0) (by kernel_rfl) (hs _ _ (H.at (by kernel_rfl))) (by kernel_rfl) rfl rfl, ?_⟩
      exact .cons ⟨rfl, h0⟩ (.cons ⟨rfl, h1⟩ (.cons ⟨rfl, h2⟩ .nil)))
    (by kernel_rfl) (by kernel_rfl) (by kernel_rfl) (by kernel_rfl) (by kernel_rfl) fun L => h L (fn_callEnv L 214 (by kernel_rfl) (by kernel_rfl) (by kernel_rfl))
noncomputable def e_hex_encoded (L : Addr) : Env := callEnv (fdOf k77) L 77
theorem kp_hex_encoded (H : Pr G) : Kp G (.ref 77) := kp_fn (o := k77) (fd := fdOf k77) (H.at (by kernel_rfl)) (by kernel_rfl)
theorem in_hex_encoded (H : Pr G) {a0 : V} (h : ∀ L, FnEnv (e_hex_encoded L) → Ex G n (e_hex_encoded L) (lvOf [("width", .int 0), ("octets", a0)]) σ (execs (fbody (top 17)) (e_hex_encoded L)) fun r _ σ' => Q (retOf r) σ') : CodeV G (n + 1) σ (.ref 77) [a0] Q :=
  code_topD H (o := k77) (st := top 17) (binds := fun vs => (["octets"] : List Str).zip vs ++ ([(("width" : Str), Value.int 0 292)] : List (Str × Value))) (bindsV := [("octets", a0), ("width", .int 0)]) (by kernel_rfl) (by kernel_rfl) (by kernel_rfl) (by kernel_rfl)
    (fun vs hv => by
      have hl := hv.length
      obtain ⟨y0, rfl⟩ := len1 hl.symm
      cases hv with
      | cons h0 _ =>
      refine ⟨fun s hs => BindsTo.of_defaults (T := 70) (o := k70) (items := #[.int 0 292]) (n := 0) (by kernel_rfl) (hs _ _ (H.at (by kernel_rfl))) (by kernel_rfl) rfl rfl, ?_⟩
      exact .cons ⟨rfl, h0⟩ (.cons ⟨rfl, .int _ _⟩ .nil))
    (by kernel_rfl) (by kernel_rfl) (by kernel_rfl) (by kernel_rfl) (by kernel_rfl) fun L => h L (fn_callEnv L 77 (by kernel_rfl) (by kernel_rfl) (by kernel_rfl))
end
/-! steps -/
section
variable {G : Gd} {n : Nat} {env : Env} {lv : Lv} {σ : St}
theorem Run.sit {α β : Type} {Pre : St → Heap → Prop} {R : β → α → Prop} {t : Sem α} {Q : β → St → Prop} (h : (∃ h, Sit G σ h) → Run G n Pre R σ t Q) : Run G n Pre R σ t Q := .mk fun A s Φ E hA hS hP k => h ⟨_, hS⟩ A s Φ E hA hS hP k
theorem item_rom (H : Pr G) {a : Addr} {xs : List V} {i : Int} {v : V} {Q : V → St → Prop} (hl : rom0 a = some (.tuple xs)) (h0 : 0 ≤ i) (hf : i < 2 ^ 63) (hx : xs[i.toNat]? = some v) (h : Q v σ) : ItemV G n σ (.ref a) (.int i) Q := by
  intro ox ix hox hix
  refine ⟨"tuple", _, slot_tuple_getitem.lookup, fun s hS => ?_, Run.sit fun ⟨_, S⟩ => ?_⟩
  · cases hox
    obtain ⟨vs, hp, _⟩ := tup_of hS (H.rom hS hl); exact IsTup.typeIs hp
  · exact (item_tuple (n := n) (H.rom S hl) h0 hf hx h ox ix hox hix).elim fun _ z => z.elim fun _ z => z.2.2
theorem cmp_in_rom (H : Pr G) {t : Addr} {ns : List Int} {i : Int} {Q : V → St → Prop} (ht : rom0 t = some (.tuple (ns.map V.int))) (h : Q (.bool (decide (i ∈ ns))) σ) : Cmp G n σ .In (.int i) (.ref t) Q :=
  fun x y hx hy => Run.sit fun ⟨_, S⟩ => cmp_in_ints (H.rom S ht) h x y hx hy
theorem St.upd {σ : St} {a b : Addr} {o x : O} (h : b ≠ a) (hb : σ b = some x) : (σ.set a o) b = some x := by rw [St.set_ne σ o h]; exact hb
theorem St.updN {σ : St} {a b : Addr} {o : O} (h : b ≠ a) (hb : σ b = none) : (σ.set a o) b = none := by rw [St.set_ne σ o h]; exact hb
theorem ne_of_some_none {σ : St} {a b : Addr} {x : O} (ha : σ a = some x) (hb : σ b = none) : a ≠ b := fun e => by rw [e, hb] at ha; cases ha
theorem ev_local' {x : Str} {pos : Pos} {v : V} {Q : V → St → Prop} (hf : FnEnv env) (hk : decide (env.kindOf x = some .local) = true) (hd : (x == ("__debug__" : Str)) = false) (hv : lv x = some v) (h : Q v σ) : Ev G n env lv σ (.Name x pos) Q := ev_local hf (of_decide_eq_true hk) hv h hd
theorem ev_glob' {x : Str} {pos : Pos} {v : V} {Q : V → St → Prop} (hf : FnEnv env) (hk : decide (env.kindOf x = some .globalImplicit) = true) (hd : (x == ("__debug__" : Str)) = false) (hv : G.glob x v) (h : Q v σ) : Ev G n env lv σ (.Name x pos) Q := ev_glob hf (of_decide_eq_true hk) hv h hd
theorem sto_local {x : Str} {v : V} {Q : Lv → St → Prop} (hk : decide (env.kindOf x = some .local) = true) (h : Q (lv.set x v) σ) : Sto env lv σ x v Q := .inl ⟨of_decide_eq_true hk, h⟩
theorem sto_cell {x : Str} {v : V} {c : Addr} {v₀ : Option V} {Q : Lv → St → Prop} (hk : decide (env.kindOf x = some .cell) = true) (hc : env.cells.lookup x = some c) (hσ : σ c = some (.cell v₀)) (h : Q lv (σ.set c (.cell (some v)))) : Sto env lv σ x v Q := .inr ⟨of_decide_eq_true hk, c, v₀, hc, hσ, h⟩
theorem ev_cell' {x : Str} {pos : Pos} {c : Addr} {v : V} {Q : V → St → Prop} (hf : FnEnv env) (hk : decide (env.kindOf x = some .cell) = true) (hd : (x == ("__debug__" : Str)) = false) (hc : env.cells.lookup x = some c) (hv : σ c = some (.cell (some v))) (h : Q v σ) : Ev G n env lv σ (.Name x pos) Q := ev_cell hf (of_decide_eq_true hk) hc hv h hd
theorem ev_globP {x : Str} {pos : Pos} {v : V} {Q : V → St → Prop} (H : Pr G) (hf : FnEnv env) (hk : decide (env.kindOf x = some .globalImplicit) = true) (hd : (x == ("__debug__" : Str)) = false) (hv : Pg G → G.glob x v) (h : Q v σ) : Ev G n env lv σ (.Name x pos) Q := ev_glob hf (of_decide_eq_true hk) (hv H.toPg) h hd
theorem ev_free' {x : Str} {pos : Pos} {c : Addr} {v : V} {Q : V → St → Prop} (hf : FnEnv env) (hk : decide (env.kindOf x = some .free) = true) (hd : (x == ("__debug__" : Str)) = false) (hn : (x == ("__classdict__" : Str)) = false) (hc : env.cells.lookup x = some c) (hv : σ c = some (.cell (some v))) (h : Q v σ) : Ev G n env lv σ (.Name x pos) Q := ev_free hf (of_decide_eq_true hk) hc hv h hd hn
/-! the walk's steps, their premises found where they are used -/
theorem nm_l {x : Str} {pos : Pos} {v : V} {Q : V → St → Prop} (h : Q v σ) (hf : FnEnv env := by assumption) (hk : decide (env.kindOf x = some .local) = true := by kernel_rfl!) (hd : (x == ("__debug__" : Str)) = false := by kernel_rfl!) (hv : lv x = some v := by with_unfolding_all walk_at "m_lv") : Ev G n env lv σ (.Name x pos) Q := ev_local' hf hk hd hv h
theorem nm_g {x : Str} {pos : Pos} {v : V} {Q : V → St → Prop} (h : Q v σ) (H : Pr G := by assumption) (hf : FnEnv env := by assumption) (hk : decide (env.kindOf x = some .globalImplicit) = true := by kernel_rfl!) (hd : (x == ("__debug__" : Str)) = false := by kernel_rfl!) (hv : Pg G → G.glob x v := by walk_at "m_glob") : Ev G n env lv σ (.Name x pos) Q := ev_globP H hf hk hd hv h
theorem nm_c {x : Str} {pos : Pos} {c : Addr} {v : V} {Q : V → St → Prop} (h : Q v σ) (hf : FnEnv env := by assumption) (hk : decide (env.kindOf x = some .cell) = true := by kernel_rfl!) (hd : (x == ("__debug__" : Str)) = false := by kernel_rfl!) (hc : env.cells.lookup x = some c := by with_unfolding_all walk_at "m_cell") (hv : σ c = some (.cell (some v)) := by with_unfolding_all walk_at "m_s") : Ev G n env lv σ (.Name x pos) Q := ev_cell' hf hk hd hc hv h
theorem tgt_l {x : Str} {pos : Pos} {v : V} {Q : Lv → St → Prop} (h : Q (lv.set x v) σ) (hf : FnEnv env := by assumption) (hk : decide (env.kindOf x = some .local) = true := by kernel_rfl!) : Tgt G n env lv σ (.Name x pos) v Q := tgt_name hf (sto_local hk h)
theorem tgt_c {x : Str} {pos : Pos} {v : V} {c : Addr} {v₀ : Option V} {Q : Lv → St → Prop} (h : Q lv (σ.set c (.cell (some v)))) (hf : FnEnv env := by assumption) (hk : decide (env.kindOf x = some .cell) = true := by kernel_rfl!) (hc : env.cells.lookup x = some c := by with_unfolding_all walk_at "m_cell") (hσ : σ c = some (.cell v₀) := by with_unfolding_all walk_at "m_s") : Tgt G n env lv σ (.Name x pos) v Q := tgt_name hf (sto_cell hk hc hσ h)
theorem tgt_t {ts : List Expr} {kd : Nat} {pos : Pos} {a : Addr} {xs : List V} {Q : Lv → St → Prop} (h : Tgts G n env lv σ ts xs Q) (e : σ a = some (.tuple xs) := by with_unfolding_all walk_at "m_s") (hl : ts.length = xs.length := by with_unfolding_all rfl)
    (hm : assignEach ts env = ts.map (fun t => (false, assign t env)) := by with_unfolding_all rfl) : Tgt G n env lv σ (.Tuple ts kd pos) (.ref a) Q := tgt_tuple (Gd.look_of e) hl h hm
theorem ts_p {e : Expr} {Q : Bool → St → Prop} (h : Ev G n env lv σ e (TruthK G n Q)) (he : isTrue e env (eval e env) = (do let v ← eval e env; standAt e.pos; holding [v] (truthy v)) := by with_unfolding_all rfl) : Ts G n env lv σ e Q := ts_plain he h
theorem cmp_isn {a : V} {Q : V → St → Prop} (h : Q (.bool a.isNone) σ) (hp : a.plain = true := by with_unfolding_all rfl) : Cmp G n σ .Is a .none Q := cmp_is_none hp h
theorem cmp_isnn {a : V} {Q : V → St → Prop} (h : Q (.bool (!a.isNone)) σ) (hp : a.plain = true := by with_unfolding_all rfl) : Cmp G n σ .IsNot a .none Q := cmp_isNot_none hp h
theorem kp_t {x : String} {vs : List V} {Q : V → St → Prop} (h : CallV G n σ (.typ x) vs Q) : Kp G (.typ x) ∧ CallV G n σ (.typ x) vs Q := ⟨kp_typ x, h⟩
theorem kp_b {x : String} {vs : List V} {Q : V → St → Prop} (h : CallV G n σ (.blt x) vs Q) : Kp G (.blt x) ∧ CallV G n σ (.blt x) vs Q := ⟨kp_blt x, h⟩
noncomputable def Ext (σ σ' : St) : Prop := ∀ b o, σ b = some o → σ' b = some o
theorem Ext.refl (σ : St) : Ext σ σ := fun _ _ e => e
theorem Ext.trans {a b c : St} (x : Ext a b) (y : Ext b c) : Ext a c := fun i o e => y i o (x i o e)
theorem Ext.new {σ : St} {a : Addr} {o : O} (h : σ a = none) : Ext σ (σ.set a o) := fun _ _ e => St.set_new h e
theorem Ext.more {σ₀ σ : St} {a : Addr} {o : O} (x : Ext σ₀ σ) (h : σ a = none) : Ext σ₀ (σ.set a o) := x.trans (Ext.new h)
/-- an object that was made meanwhile is turned -/
theorem Ext.upd {σ₀ σ : St} {a : Addr} {o : O} (x : Ext σ₀ σ) (h : σ₀ a = none) : Ext σ₀ (σ.set a o) := fun b o' e => St.upd (fun q => by rw [q, h] at e; cases e) (x b o' e)
theorem Ext.no {σ σ' : St} {a : Addr} (x : Ext σ σ') (h : σ' a = none) : σ a = none := by
  cases e : σ a with
  | none => rfl
  | some o => rw [x a o e] at h; cases h
theorem lv_hitI {l : Lv} {x : Str} {a b : Int} (h : a = b) : (Lv.set l x (.int a)) x = some (.int b) := by rw [h]; exact lv_hit
theorem if_dec {p : Prop} [Decidable p] {A B : Prop} (h1 : p → A) (h2 : ¬ p → B) : if decide p = true then A else B := by
  by_cases h : p
  · rw [if_pos (decide_eq_true h)]; exact h1 h
  · rw [if_neg (by simpa using h)]; exact h2 h
theorem if_bool {b : Bool} {A B : Prop} (h1 : b = true → A) (h2 : b = false → B) : if b = true then A else B := by
  cases b
  · exact h2 rfl
  · exact h1 rfl
theorem if_tt {A B : Prop} (h : A) : if true = true then A else B := h
theorem if_nf {A B : Prop} (h : A) : if (!false) = true then A else B := h
theorem if_nt {A B : Prop} (h : B) : if (!true) = true then A else B := h
theorem if_ff {A B : Prop} (h : B) : if false = true then A else B := h
theorem ex_swap' {ts : List Expr} {kd : Nat} {tp : Pos} {value : Expr} {pos : Pos} {Q : Fl → Lv → St → Prop} (names : List Str)
    (h : Ev G n env lv σ value fun v σ₁ => ∃ a xs, v = .ref a ∧ σ₁ a = some (.tuple xs) ∧ names.length = xs.length ∧ ∀ lv', lv' = List.foldl (fun l p => l.set p.1 p.2) lv (names.reverse.zip xs.reverse) → Q .next lv' σ₁)
    (hf : FnEnv env) (hl : (names.all fun x => decide (env.kindOf x = some .local)) = true)
    (hs : swapsWithSole [.Tuple ts kd tp] value pos.line env = pure false := by rfl) (hw : swappedStores [.Tuple ts kd tp] value env = pure (some names) := by rfl) :
    Ex G n env lv σ (exec (.Assign [.Tuple ts kd tp] value pos) env) Q :=
  ex_swap (names := names) (h.mono fun v σ₁ ⟨a, xs, h1, h2, h3, h4⟩ => ⟨a, xs, h1, Gd.look_of h2, h3, h4 _ rfl⟩) hf (fun x hx => of_decide_eq_true (List.all_eq_true.mp hl x hx)) hs hw
theorem ne_of_diff {σ : St} {a b : Addr} {x y : O} (ha : σ a = some x) (hb : σ b = some y) (h : x ≠ y) : a ≠ b := fun e => by rw [e] at ha; rw [ha] at hb; exact h (Option.some.inj hb)
abbrev TgtsK (G : Gd) (n : Nat) (env : Env) (ts : List Expr) (vs : List V) (Q : Lv → St → Prop) : Lv → St → Prop := fun lv σ => Tgts G n env lv σ ts vs Q
theorem tgts_cons {t : Expr} {ts : List Expr} {v : V} {vs : List V} {Q : Lv → St → Prop} (h : Tgt G n env lv σ t v (TgtsK G n env ts vs Q)) : Tgts G n env lv σ (t :: ts) (v :: vs) Q := h
theorem tgts_nil {Q : Lv → St → Prop} (h : Q lv σ) : Tgts G n env lv σ [] [] Q := h
theorem then_ret {rest : List Stmt} {v : V} {Q : Fl → Lv → St → Prop} (h : Q (.ret v) lv σ) : Then G n env rest Q (.ret v) lv σ := h
theorem then_next {rest : List Stmt} {Q : Fl → Lv → St → Prop} (h : Ex G n env lv σ (execs rest env) Q) : Then G n env rest Q .next lv σ := h
theorem then_brk {rest : List Stmt} {Q : Fl → Lv → St → Prop} (h : Q .brk lv σ) : Then G n env rest Q .brk lv σ := h
theorem then_cont {rest : List Stmt} {Q : Fl → Lv → St → Prop} (h : Q .cont lv σ) : Then G n env rest Q .cont lv σ := h
theorem loop_next {J : Lv → St → Prop} {Q : Fl → Lv → St → Prop} (h : J lv σ) : LoopQ J Q .next lv σ := h
theorem loop_cont {J : Lv → St → Prop} {Q : Fl → Lv → St → Prop} (h : J lv σ) : LoopQ J Q .cont lv σ := h
theorem loop_brk {J : Lv → St → Prop} {Q : Fl → Lv → St → Prop} (h : Q .next lv σ) : LoopQ J Q .brk lv σ := h
theorem loop_ret {J : Lv → St → Prop} {v : V} {Q : Fl → Lv → St → Prop} (h : Q (.ret v) lv σ) : LoopQ J Q (.ret v) lv σ := h
end
section
local macro_rules | `(tactic| walk_at "m_lv") => `(tactic| first | with_reducible assumption | with_reducible exact lv_hit | with_reducible exact lo_hit | (with_reducible refine lv_hitI ?mlv; (case mlv => omega)) | ((with_reducible show Lv.set _ _ _ _ = _); with_reducible exact lv_miss (by kernel_rfl!) (by walk_at "m_lv")) | ((with_reducible show lvOf (_ :: _) _ = _); with_reducible exact lo_miss (by kernel_rfl!) (by walk_at "m_lv")))
local macro_rules | `(tactic| walk_at "m_glob") => do
  let ts ← ("WHITE is_white FilterFault FIGURES HEX_END TILDE LEAST_SIGN MOST_SIGN FOUR_NOUGHTS MOST_GROUP RUN_END MOST_RUN hex_encoded figure_worth hex_decoded signs_of_group base85_encoded octets_of_group is_end_at base85_decoded run_at run_encoded row_codes run_decoded MOST_HOPS Name Reference Lookup full_name filter_names filter_parms early_of undo_plain apply_plain head_of law_names law_draw law_pen law_octets law_heard law_bent law_lost range len abs sum list dict bytes isinstance enumerate sorted".splitOn " ").toArray.mapM fun n => `(Lean.Parser.Tactic.tacticSeq| exact $(Lean.mkIdent (.mkSimple ("g_" ++ n))):ident)
  `(tactic| with_reducible first $[| $ts]*)
local macro_rules | `(tactic| walk_at "m_cell") => `(tactic| first | with_reducible assumption | rfl)
local macro_rules | `(tactic| walk_at "m_s") => `(tactic| first
  | with_reducible assumption
  | with_reducible exact St.set_same _ _ _
  | ((with_reducible show Gd.look _ _ _ = _); with_reducible exact Gd.look_of (by walk_at "m_s"))
  | ((with_reducible show St.set _ _ _ _ = _); first | with_reducible exact St.set_new (by with_reducible assumption) (by walk_at "m_s") | with_reducible exact St.upd (by walk_at "m_ne") (by walk_at "m_s")))
local macro_rules | `(tactic| walk_at "m_ne") => `(tactic| first | with_reducible assumption | (with_reducible refine Ne.symm ?_; with_reducible assumption) | (refine ne_of_some_none ?_ ?_ <;> with_reducible assumption) | (refine Ne.symm (ne_of_some_none ?_ ?_) <;> with_reducible assumption))
local macro_rules | `(tactic| walk_at "m_no") => `(tactic| first | with_reducible assumption | with_reducible exact St.updN (by walk_at "m_ne") (by walk_at "m_no"))
local macro_rules | `(tactic| walk_at "m_red") => do
  let ts ← ("ev_int ev_str ev_none ev_bool ev_bin ev_if ev_neg ev_dict0 evs_nil evs_cons ep_none ep_some ts_not ts_boolop al_and_nil al_or_nil al_and al_or truth_bool bin_add bin_sub cmp_eq_int cmp_ne_int cmp_lt_int cmp_gt_int cmp_le_int cmp_ge_int cmp_eq_str tgts_cons tgts_nil tgt_item tgt_attr ex_nil ex_return ex_break ex_continue then_ret then_next then_brk then_cont loop_next loop_cont loop_brk loop_ret if_tt if_ff if_nf if_nt kp_t kp_b".splitOn " ").toArray.mapM fun n => `(Lean.Parser.Tactic.tacticSeq| refine $(Lean.mkIdent (.mkSimple n)):ident ?_)
  `(tactic| with_reducible first $[| $ts]*)
local macro_rules | `(tactic| walk_at "m_grd") => do
  let u ← `(_)
  let ts ← #["Ev _ _ _ _ _ Expr.Name/2 _;nm_l nm_g nm_c", "Ev _ _ _ _ _ Expr.Compare/4 _;ev_cmp", "Ev _ _ _ _ _ Expr.Call/4 _;ev_meth ev_call", "Ev _ _ _ _ _ Expr.Subscript/3 _;ev_slice ev_item", "Ev _ _ _ _ _ Expr.List/2 _;ev_list", "Ev _ _ _ _ _ Expr.Tuple/3 _;ev_tuple", "Ev _ _ _ _ _ Expr.Attribute/3 _;ev_attr", "Ts _ _ _ _ _ Expr.Compare/4 _;ts_cmp ts_cmp2", "Ts _ _ _ _ _ _ _;ts_p", "Cmp _ _ _ CmpOp.Is _ V.none _;cmp_isn", "Cmp _ _ _ CmpOp.IsNot _ V.none _;cmp_isnn", "Tgt _ _ _ _ _ Expr.Name/2 _ _;tgt_l tgt_c", "Tgt _ _ _ _ _ Expr.Tuple/3 _ _;tgt_t"].mapM fun g => do
    let p := g.splitOn ";"
    let w := p.head!.splitOn " "
    let as := w.tail.toArray.map fun t =>
      if t == "_" then u else
        let q := t.splitOn "/"
        let i := Lean.mkIdent q.head!.toName
        if q.length == 1 then i else Lean.Syntax.mkApp i (Array.replicate q.getLast!.toNat! u)
    let rs ← (p.getLast!.splitOn " ").toArray.mapM fun n => `(Lean.Parser.Tactic.tacticSeq| refine $(Lean.mkIdent (.mkSimple n)):ident ?_)
    let h := Lean.Syntax.mkApp (Lean.mkIdent w.head!.toName) as
    `(Lean.Parser.Tactic.tacticSeq| ((with_reducible show $h); with_reducible first $[| $rs]*))
  `(tactic| first $[| $ts]*)
local macro_rules | `(tactic| walk_at "m_ev") => `(tactic| first
  | walk_at "m_red"
  | walk_at "m_grd"
  | ((with_reducible show Ex _ _ _ _ _ (execs _ _) _); refine ex_cons ?_)
  | ((with_reducible show Ex _ _ _ _ _ (exec (Stmt.Assign _ _ _) _) _); refine ex_assign ?_)
  | ((with_reducible show Ex _ _ _ _ _ (exec (Stmt.Expr _ _) _) _); refine ex_expr ?_))
local macro_rules | `(tactic| walk_at "m_append") => `(tactic| (refine ⟨_, _, getm_append (Gd.look_of (by walk_at "m_s")), ?_⟩; walk_at "m"; refine call_append (by walk_at "m_s") ?msz ⟨rfl, ?_⟩))
local macro_rules | `(tactic| walk_at "m") => `(tactic| repeat' first | walk_at "m_ev" | ((with_reducible show Ex _ _ _ _ _ (exec (Stmt.If _ _ _ _) _) _); refine ex_if ?_))
local macro_rules | `(tactic| walk_at "mi") => `(tactic| repeat' walk_at "m_ev")
set_option hygiene false
section
variable {G : Gd} {n : Nat} {σ : St} {Q : V → St → Prop}
theorem c_is_white (H : Pr G) {c : Int} (h : Q (.bool (decide (c ∈ [0, 9, 10, 12, 13, 32]))) σ) : Kp G (.ref 29) ∧ CallV G (n + 1) σ (.ref 29) [.int c] Q := by
  refine ⟨kp_is_white H, (in_is_white H fun L hf => ?_).call⟩
  walk_at "m"
  refine cmp_in_rom H (ns := [0, 9, 10, 12, 13, 32]) (by kernel_rfl) ?_
  walk_at "m"
  exact h
noncomputable def worth (c : Int) : Int := if 48 ≤ c ∧ c ≤ 57 then c - 48 else if 65 ≤ c ∧ c ≤ 70 then c - 55 else if 97 ≤ c ∧ c ≤ 102 then c - 87 else -1
theorem c_figure_worth (H : Pr G) {c : Int} (h : Q (.int (worth c)) σ) : Kp G (.ref 84) ∧ CallV G (n + 1) σ (.ref 84) [.int c] Q := by
  refine ⟨kp_figure_worth H, (in_figure_worth H fun L hf => ?_).call⟩
  have fin : ∀ k, worth c = k → Q (.int k) σ := fun k e => e ▸ h
  repeat' first | walk_at "m_ev" | refine ex_if ?_ | refine if_dec (fun _ => ?_) fun _ => ?_
  all_goals exact fin _ (by unfold worth; (repeat' split) <;> lia)
theorem sz {k : Nat} (h : k ≤ 1000000) : k ≤ sizeLine := by rw [sizeLine_eq]; lia
noncomputable def rowCodes (ns : List Int) : List Int := if ns.isEmpty then [] else ((ns.length : Int) - 1) :: ns
theorem c_row_codes (H : Pr G) {a : Addr} {ns : List Int} (ha : σ a = some (.list (ns.map V.int))) (hl : ns.length ≤ 1000) (h : ∀ r σ', Ext σ σ' → σ r = none → σ' r = some (.list ((rowCodes ns).map V.int)) → Q (.ref r) σ') : Kp G (.ref 143) ∧ CallV G (n + 1) σ (.ref 143) [.ref a] Q := by
  refine ⟨kp_row_codes H, (in_row_codes H fun L hf => ?_).call⟩
  walk_at "m"
  refine ⟨sz (by simp), fun r1 h1 => ?_⟩
  refine cmp_ne_nil (by walk_at "m_s") (by walk_at "m_s") ?_
  walk_at "m"
  refine if_bool (fun hb => ?_) fun hb => ?_
  · walk_at "m"
    refine call_len_list (by walk_at "m_s") (sz (by simp; lia)) ?_
    walk_at "m"
    refine ⟨sz (by simp), fun r2 h2 => ?_⟩
    walk_at "m"
    refine bin_concat (by walk_at "m_s") (by walk_at "m_s") (sz (by simp; lia)) fun r3 h3 => ?_
    walk_at "m"
    refine h _ _ (((Ext.refl _).more h1).more h2 |>.more h3) ?_ ?_
    · exact (((Ext.refl _).more h1).more h2).no h3
    · rw [St.set_same]
      have : ns.isEmpty = false := by cases ns <;> simp_all
      simp [rowCodes, this]
  · walk_at "m"
    refine ⟨sz (by simp), fun r2 h2 => ?_⟩
    refine h _ _ (((Ext.refl _).more h1).more h2) (((Ext.refl _).more h1).no h2) ?_
    rw [St.set_same]
    have : ns.isEmpty = true := by cases ns <;> simp_all
    simp [rowCodes, this]
inductive RaJ (b : Array UInt8) (i : Nat) (σ : St) (k : Nat) (lv : Lv) (σ' : St) : Prop where
  | mk (h0 : σ' = σ) (h1 : lv "at" = some (.int i)) (h2 : lv "octets" = some (.bytes b)) (c : Nat) (h3 : lv "count" = some (.int c)) (h4 : k = 200 - c) (h5 : 1 ≤ c) (h6 : c ≤ 128) (h7 : i + c ≤ b.size) (h8 : ∀ j, j < c → b[i + j]? = b[i]?) : RaJ b i σ k lv σ'
theorem c_run_at (H : Pr G) {b : Array UInt8} {i : Nat} (hi : i < b.size) (hs : b.size ≤ 1000) (h : ∀ k : Nat, 1 ≤ k → k ≤ 128 → i + k ≤ b.size → (∀ j, j < k → b[i + j]? = b[i]?) → Q (.int k) σ) : Kp G (.ref 129) ∧ CallV G (n + 1) σ (.ref 129) [.bytes b, .int i] Q := by
  refine ⟨kp_run_at H, (in_run_at H fun L hf => ?_).call⟩
  walk_at "m"
  obtain ⟨x, hx⟩ : ∃ x, b[i]? = some x := ⟨_, Array.getElem?_eq_getElem hi⟩
  refine ex_while (RaJ b i σ) 199
    ⟨rfl, by walk_at "m_lv", by walk_at "m_lv", 1, by walk_at "m_lv", rfl, by lia, by lia, by lia, fun j hj => by rw [show j = 0 by lia]; rfl⟩ ?_
  rintro k lv₂ _ ⟨rfl, l1, l2, c, l3, hk, c1, c2, c3, c4⟩
  walk_at "m"
  refine if_dec (fun h1 => ?_) fun h1 => ?_
  · walk_at "m"
    refine call_len_bytes (by lia) ?_
    walk_at "m"
    refine if_dec (fun h2 => ?_) fun h2 => ?_
    · walk_at "m"
      have hic : i + c < b.size := by lia
      obtain ⟨y, hy⟩ : ∃ y, b[i + c]? = some y := ⟨_, Array.getElem?_eq_getElem hic⟩
      refine item_bytes (c := y) (by lia) (by lia) (by rw [show ((i : Int) + c).toNat = i + c by lia]; exact hy) ?_
      walk_at "m"
      refine item_bytes (c := x) (by lia) (by lia) (by rw [Int.toNat_natCast]; exact hx) ?_
      walk_at "m"
      refine if_bool (fun h3 => ?_) fun h3 => ?_
      · walk_at "m"
        refine ⟨k - 1, by lia, rfl, by walk_at "m_lv", by walk_at "m_lv", c + 1, by walk_at "m_lv", by lia, by lia, by lia, by lia, fun j hj => ?_⟩
        by_cases hjc : j = c
        · subst hjc
          have h4 : (y.toNat : Int) = x.toNat := of_decide_eq_true h3
          rw [hx, hy, UInt8.toNat_inj.mp (Int.ofNat.inj h4)]
        · exact c4 j (by lia)
      · walk_at "m"
        exact h c c1 c2 c3 c4
    · walk_at "m"
      exact h c c1 c2 c3 c4
  · walk_at "m"
    exact h c c1 c2 c3 c4
end
set_option hygiene false
section
variable {G : Gd} {n : Nat} {env : Env} {lv : Lv} {σ : St} {Q : Fl → Lv → St → Prop}
abbrev TurnK (G : Gd) (n : Nat) (env : Env) (body : List Stmt) (J : Lv → St → Prop) (Q : Fl → Lv → St → Prop) : Lv → St → Prop := fun lv σ => Ex G n env lv σ (execs body env) (LoopQ J Q)
inductive ForB (G : Gd) (n : Nat) (env : Env) (lv : Lv) (target : Expr) (body : List Stmt) (Q : Fl → Lv → St → Prop) (v : V) (σ₁ : St) : Prop where
  | mk (b : Array UInt8) (J : Nat → Lv → St → Prop) (h0 : v = .bytes b) (h1 : J 0 lv σ₁) (h2 : (∀ i c lv₂ σ₂, J i lv₂ σ₂ → b[i]? = some c → Tgt G n env lv₂ σ₂ target (.int (c.toNat : Int)) (TurnK G n env body (J (i + 1)) Q))) (h3 : ∀ lv₂ σ₂, J b.size lv₂ σ₂ → Q .next lv₂ σ₂) : ForB G n env lv target body Q v σ₁
inductive ForR (G : Gd) (n : Nat) (env : Env) (lv : Lv) (target : Expr) (body : List Stmt) (Q : Fl → Lv → St → Prop) (v : V) (σ₁ : St) : Prop where
  | mk (r : Addr) (a b c : Int) (m : Nat) (J : Nat → Lv → St → Prop) (h0 : v = .ref r) (h1 : σ₁ r = some (.rng a b c)) (h2 : Builtin.Range.small a b c = true) (h3 : Builtin.Range.rangeSize a b c = m) (h4 : J 0 lv σ₁) (h5 : (∀ i lv₂ σ₂, i < m → J i lv₂ σ₂ → Tgt G n env lv₂ σ₂ target (.int (a + i * c)) (TurnK G n env body (J (i + 1)) Q))) (h6 : ∀ lv₂ σ₂, J m lv₂ σ₂ → Q .next lv₂ σ₂) : ForR G n env lv target body Q v σ₁
inductive ForL (G : Gd) (n : Nat) (env : Env) (lv : Lv) (target : Expr) (body : List Stmt) (Q : Fl → Lv → St → Prop) (v : V) (σ₁ : St) : Prop where
  | mk (r : Addr) (xs : List V) (J : Nat → Lv → St → Prop) (h0 : v = .ref r) (h1 : (∀ i lv₂ σ₂, J i lv₂ σ₂ → σ₂ r = some (.list xs))) (h2 : σ₁ r = some (.list xs)) (h3 : J 0 lv σ₁) (h4 : (∀ i x lv₂ σ₂, xs[i]? = some x → J i lv₂ σ₂ → Tgt G n env lv₂ σ₂ target x (TurnK G n env body (J (i + 1)) Q))) (h5 : ∀ lv₂ σ₂, J xs.length lv₂ σ₂ → Q .next lv₂ σ₂) : ForL G n env lv target body Q v σ₁
inductive ForT (G : Gd) (n : Nat) (env : Env) (lv : Lv) (target : Expr) (body : List Stmt) (Q : Fl → Lv → St → Prop) (v : V) (σ₁ : St) : Prop where
  | mk (r : Addr) (xs : List V) (J : Nat → Lv → St → Prop) (h0 : v = .ref r) (h1 : (∀ i lv₂ σ₂, J i lv₂ σ₂ → σ₂ r = some (.tuple xs))) (h2 : σ₁ r = some (.tuple xs)) (h3 : J 0 lv σ₁) (h4 : (∀ i x lv₂ σ₂, xs[i]? = some x → J i lv₂ σ₂ → Tgt G n env lv₂ σ₂ target x (TurnK G n env body (J (i + 1)) Q))) (h5 : ∀ lv₂ σ₂, J xs.length lv₂ σ₂ → Q .next lv₂ σ₂) : ForT G n env lv target body Q v σ₁
theorem for_bytes {target iter : Expr} {body : List Stmt} {pos : Pos}
    (h : Ev G n env lv σ iter (ForB G n env lv target body Q))
    (hs : ∀ x, foldedSetIterable iter env x = pure x := by intro _; rfl) (ht : ∀ it v, letOwnedTupleGo target it v = pure () := by intro _ _; rfl) : Ex G n env lv σ (exec (.For target iter body [] pos) env) Q := by
  refine ex_for (h.mono fun v σ₁ hq => ?_) hs ht
  obtain ⟨b, J, rfl, h0, hb, he⟩ := hq
  refine ⟨_, _, _, b.size, fun i lv σ => i ≤ b.size ∧ J i lv σ, iter_bytes, ⟨Nat.zero_le _, h0⟩, fun i lv₂ σ₂ ⟨hi, hj⟩ => ⟨hi, ?_⟩⟩
  by_cases hlt : i < b.size
  · refine .inl ⟨hlt, ?_⟩
    rintro v σ₃ ⟨rfl, c, hc, rfl⟩
    intro y hy
    refine ExR.mono (hb i c lv₂ _ hj hc y hy) fun _ lv₄ σ₄ hx => ExR.mono hx fun f lv₅ σ₅ hq => ?_
    cases f with
    | next => exact ⟨hlt, hq⟩
    | cont => exact ⟨hlt, hq⟩
    | brk => exact hq
    | ret v => exact hq
  · have : i = b.size := by lia
    subst this
    exact .inr ⟨Nat.le_refl _, ex_nil (he _ _ hj)⟩
theorem for_range {target iter : Expr} {body : List Stmt} {pos : Pos}
    (h : Ev G n env lv σ iter (ForR G n env lv target body Q))
    (hs : ∀ x, foldedSetIterable iter env x = pure x := by intro _; rfl) (ht : ∀ it v, letOwnedTupleGo target it v = pure () := by intro _ _; rfl) : Ex G n env lv σ (exec (.For target iter body [] pos) env) Q := by
  refine ex_for (h.mono fun v σ₁ hq => ?_) hs ht
  obtain ⟨r, a, b, c, m, J, rfl, hr, hsm, hm, h0, hb, he⟩ := hq
  refine ⟨_, _, _, m, fun i lv σ => i ≤ m ∧ J i lv σ, iter_range (Gd.look_of hr) hsm hm, ⟨Nat.zero_le _, h0⟩, fun i lv₂ σ₂ ⟨hi, hj⟩ => ⟨hi, ?_⟩⟩
  by_cases hlt : i < m
  · refine .inl ⟨hlt, ?_⟩
    rintro v σ₃ ⟨rfl, rfl⟩
    intro y hy
    refine ExR.mono (hb i lv₂ _ hlt hj y hy) fun _ lv₄ σ₄ hx => ExR.mono hx fun f lv₅ σ₅ hq => ?_
    cases f with
    | next => exact ⟨hlt, hq⟩
    | cont => exact ⟨hlt, hq⟩
    | brk => exact hq
    | ret v => exact hq
  · have : i = m := by lia
    subst this
    exact .inr ⟨Nat.le_refl _, ex_nil (he _ _ hj)⟩
theorem for_list {target iter : Expr} {body : List Stmt} {pos : Pos}
    (h : Ev G n env lv σ iter (ForL G n env lv target body Q))
    (hs : ∀ x, foldedSetIterable iter env x = pure x := by intro _; rfl) (ht : ∀ it v, letOwnedTupleGo target it v = pure () := by intro _ _; rfl) : Ex G n env lv σ (exec (.For target iter body [] pos) env) Q := by
  refine ex_for (h.mono fun v σ₁ hq => ?_) hs ht
  obtain ⟨r, xs, J, rfl, hr, hr1, h0, hb, he⟩ := hq
  refine ⟨_, _, _, xs.length, fun i lv σ => i ≤ xs.length ∧ J i lv σ, iter_list (Gd.look_of hr1), ⟨Nat.zero_le _, h0⟩, fun i lv₂ σ₂ ⟨hi, hj⟩ => ⟨hi, ?_⟩⟩
  have hl := Gd.look_of (G := G) (hr i lv₂ σ₂ hj)
  by_cases hlt : i < xs.length
  · refine .inl ⟨⟨xs, hl, hlt⟩, ?_⟩
    rintro v σ₃ ⟨rfl, ys, hy, hv⟩
    rw [hl] at hy
    cases hy
    intro y hy
    refine ExR.mono (hb i v lv₂ _ hv hj y hy) fun _ lv₄ σ₄ hx => ExR.mono hx fun f lv₅ σ₅ hq => ?_
    cases f with
    | next => exact ⟨hlt, hq⟩
    | cont => exact ⟨hlt, hq⟩
    | brk => exact hq
    | ret v => exact hq
  · have : i = xs.length := by lia
    subst this
    exact .inr ⟨⟨xs, hl, Nat.le_refl _⟩, ex_nil (he _ _ hj)⟩
theorem for_tuple {target iter : Expr} {body : List Stmt} {pos : Pos}
    (h : Ev G n env lv σ iter (ForT G n env lv target body Q))
    (hs : ∀ x, foldedSetIterable iter env x = pure x := by intro _; rfl) (ht : ∀ it v, letOwnedTupleGo target it v = pure () := by intro _ _; rfl) : Ex G n env lv σ (exec (.For target iter body [] pos) env) Q := by
  refine ex_for (h.mono fun v σ₁ hq => ?_) hs ht
  obtain ⟨r, xs, J, rfl, hr, hr1, h0, hb, he⟩ := hq
  refine ⟨_, _, _, xs.length, fun i lv σ => i ≤ xs.length ∧ J i lv σ, iter_tuple (Gd.look_of hr1), ⟨Nat.zero_le _, h0⟩, fun i lv₂ σ₂ ⟨hi, hj⟩ => ⟨hi, ?_⟩⟩
  have hl := Gd.look_of (G := G) (hr i lv₂ σ₂ hj)
  by_cases hlt : i < xs.length
  · refine .inl ⟨⟨xs, hl, hlt⟩, ?_⟩
    rintro v σ₃ ⟨rfl, ys, hy, hv⟩
    rw [hl] at hy
    cases hy
    intro y hy
    refine ExR.mono (hb i v lv₂ _ hv hj y hy) fun _ lv₄ σ₄ hx => ExR.mono hx fun f lv₅ σ₅ hq => ?_
    cases f with
    | next => exact ⟨hlt, hq⟩
    | cont => exact ⟨hlt, hq⟩
    | brk => exact hq
    | ret v => exact hq
  · have : i = xs.length := by lia
    subst this
    exact .inr ⟨⟨xs, hl, Nat.le_refl _⟩, ex_nil (he _ _ hj)⟩
end
set_option hygiene false
theorem bInts_get {b : Array UInt8} {i : Nat} {c : UInt8} (h : b[i]? = some c) : (bInts b)[i]? = some (c.toNat : Int) := by
  unfold bInts
  rw [List.getElem?_map, Array.getElem?_toList, h]; rfl
theorem bInts_len (b : Array UInt8) : (bInts b).length = b.size := by simp [bInts]
theorem take_snoc {α : Type} {l : List α} {i : Nat} {x : α} (h : l[i]? = some x) : l.take (i + 1) = l.take i ++ [x] := by
  rw [List.take_add_one, h]; rfl
theorem u8_lt (c : UInt8) : (c.toNat : Int) < 256 := by have := c.toNat_lt; lia
/-! hexadecimal -/
noncomputable def fig (d : Int) : Int := if d < 10 then 48 + d else 55 + d
noncomputable def hexEnc (l : List Int) : List Int := l.flatMap fun o => [fig (o.fdiv 16), fig (o.fmod 16)]
theorem hexEnc_snoc (l : List Int) (c : Int) : hexEnc (l ++ [c]) = hexEnc l ++ [fig (c.fdiv 16)] ++ [fig (c.fmod 16)] := by simp [hexEnc]
theorem hexEnc_len (l : List Int) : (hexEnc l).length = 2 * l.length := by
  induction l with
  | nil => rfl
  | cons x r ih => simp [hexEnc] at ih ⊢; lia
theorem fig_at : ∀ d : Nat, d < 16 → ∃ u : UInt8, (#[48, 49, 50, 51, 52, 53, 54, 55, 56, 57, 65, 66, 67, 68, 69, 70] : Array UInt8)[d]? = some u ∧ (u.toNat : Int) = fig d := by
  intro d hd
  have : ∀ d : Fin 16, ∃ u : UInt8, (#[48, 49, 50, 51, 52, 53, 54, 55, 56, 57, 65, 66, 67, 68, 69, 70] : Array UInt8)[d.val]? = some u ∧ (u.toNat : Int) = fig (d.val : Int) := by decide
  exact this ⟨d, hd⟩
theorem fin_all {m : Nat} {P : Int → Prop} (h : ∀ k : Fin m, P (k.val : Int)) {o : Int} (h0 : 0 ≤ o) (h1 : o < (m : Int)) : P o := by
  have := h ⟨o.toNat, (Int.toNat_lt h0).2 h1⟩
  rwa [Int.toNat_of_nonneg h0] at this
theorem fig_range {d : Int} (h0 : 0 ≤ d) (h1 : d < 16) : 48 ≤ fig d ∧ fig d ≤ 70 ∧ worth (fig d) = d :=
  fin_all (m := 16) (P := fun d => 48 ≤ fig d ∧ fig d ≤ 70 ∧ worth (fig d) = d) (by decide +kernel) h0 h1
theorem nibs {o : Int} (h : 0 ≤ o ∧ o < 256) : (0 ≤ o.fdiv 16 ∧ o.fdiv 16 < 16) ∧ 0 ≤ o.fmod 16 ∧ o.fmod 16 < 16 :=
  fin_all (m := 256) (P := fun o => (0 ≤ o.fdiv 16 ∧ o.fdiv 16 < 16) ∧ 0 ≤ o.fmod 16 ∧ o.fmod 16 < 16) (by decide +kernel) h.1 h.2
theorem hexEnc_range {l : List Int} (h : ∀ k ∈ l, 0 ≤ k ∧ k < 256) : ∀ k ∈ hexEnc l, 0 ≤ k ∧ k < 256 := by
  intro k hk
  obtain ⟨o, ho, hm⟩ := List.mem_flatMap.mp hk
  have d := nibs (h o ho)
  have w : ∀ {d : Int}, 0 ≤ d → d < 16 → 0 ≤ fig d ∧ fig d < 256 := fun h0 h1 => ⟨Int.le_trans (by decide) (fig_range h0 h1).1, Int.lt_of_le_of_lt (fig_range h0 h1).2.1 (by decide)⟩
  rcases List.mem_cons.1 hm with rfl | hm
  · exact w d.1.1 d.1.2
  · rw [List.mem_singleton.1 hm]
    exact w d.2.1 d.2.2
theorem bInts_range (b : Array UInt8) : ∀ k ∈ bInts b, 0 ≤ k ∧ k < 256 := by
  intro k hk
  obtain ⟨c, _, rfl⟩ := List.mem_map.mp hk
  exact ⟨by lia, u8_lt c⟩
theorem map_snoc {α β : Type} (f : α → β) (l : List α) (x : α) : l.map f ++ [f x] = (l ++ [x]).map f := by simp
section
variable {G : Gd} {n : Nat} {σ : St} {Q : V → St → Prop}
theorem c_hex_encoded (H : Pr G) {b : Array UInt8} (hs : b.size ≤ 1000) (h : ∀ σ', Ext σ σ' → Q (.bytes (byteArr (hexEnc (bInts b) ++ [62]))) σ') : Kp G (.ref 77) ∧ CallV G (n + 1) σ (.ref 77) [.bytes b] Q := by
  refine ⟨kp_hex_encoded H, (in_hex_encoded H fun L hf => ?_).call⟩
  walk_at "m"
  refine ⟨sz (by simp), fun m hm => ?_⟩
  walk_at "m"
  have bl := bInts_len b
  refine for_bytes ?_
  walk_at "m"
  refine ⟨b, fun i lv σ' => lv "marks" = some (.ref m) ∧ lv "width" = some (.int 0) ∧ σ' m = some (.list ((hexEnc ((bInts b).take i)).map .int)) ∧ Ext σ σ', rfl, ⟨by walk_at "m_lv", by walk_at "m_lv", St.set_same σ m (.list []), (Ext.refl _).more hm⟩, ?_, ?_⟩
  · rintro i c lv₂ σ₂ ⟨l1, l2, s1, x1⟩ hc
    have hc' := bInts_get hc
    have hi : i < b.size := by
      rcases Nat.lt_or_ge i b.size with q | q
      · exact q
      · rw [Array.getElem?_eq_none q] at hc; cases hc
    have hu := u8_lt c
    have hl := hexEnc_len ((bInts b).take i)
    rw [List.length_take, bl] at hl
    have d1 : 0 ≤ (c.toNat : Int).fdiv 16 ∧ (c.toNat : Int).fdiv 16 < 16 := by rw [Int.fdiv_eq_ediv_of_nonneg _ (by decide)]; lia
    have d2 : 0 ≤ (c.toNat : Int).fmod 16 ∧ (c.toNat : Int).fmod 16 < 16 := by rw [Int.fmod_eq_emod_of_nonneg _ (by decide)]; lia
    obtain ⟨u1, f1, g1⟩ := fig_at ((c.toNat : Int).fdiv 16).toNat (by lia)
    obtain ⟨u2, f2, g2⟩ := fig_at ((c.toNat : Int).fmod 16).toNat (by lia)
    rw [Int.toNat_of_nonneg d1.1] at g1
    rw [Int.toNat_of_nonneg d2.1] at g2
    walk_at "m"
    refine for_tuple ?_
    walk_at "m"
    refine bin_floordiv (by decide) (by decide) ?_
    walk_at "m"
    refine item_bytes (c := u1) d1.1 (by decide) f1 ?_
    walk_at "m"
    refine bin_mod (by decide) ?_
    walk_at "m"
    refine item_bytes (c := u2) d2.1 (by decide) f2 ?_
    walk_at "m"
    refine ⟨sz (by simp), fun t ht => ?_⟩
    refine ⟨t, [.int u1.toNat, .int u2.toNat], fun j lv σ' => lv "marks" = some (.ref m) ∧ lv "width" = some (.int 0) ∧ σ' m = some (.list ((hexEnc ((bInts b).take i) ++ [(u1.toNat : Int), (u2.toNat : Int)].take j).map .int)) ∧ Ext σ σ' ∧ σ' t = some (.tuple [.int u1.toNat, .int u2.toNat]), rfl,
      fun j lv₂ σ₂ hj => hj.2.2.2.2, by walk_at "m_s", ⟨by walk_at "m_lv", by walk_at "m_lv", by rw [List.take_zero, List.append_nil]; walk_at "m_s", x1.more ht, by walk_at "m_s"⟩, ?_, ?_⟩
    · rintro j x lv₃ σ₃ hx ⟨l3, l4, s3, x3, t3⟩
      have hxj : ∃ k : Int, x = .int k ∧ [(u1.toNat : Int), (u2.toNat : Int)][j]? = some k ∧ j < 2 := by
        rcases j with _ | _ | j
        · exact ⟨_, by simpa using hx.symm, rfl, by lia⟩
        · exact ⟨_, by simpa using hx.symm, rfl, by lia⟩
        · simp at hx
      obtain ⟨k, rfl, hk, hj2⟩ := hxj
      have hmt : m ≠ t := fun e => by rw [e] at s3; rw [s3] at t3; cases t3
      walk_at "m"
      walk_at "m_append"
      case msz => exact sz (by rw [List.length_map, List.length_append, List.length_take]; simp; lia)
      rw [map_snoc, List.append_assoc, ← take_snoc hk]
      walk_at "m"
      refine if_dec (fun q => absurd q (by decide)) fun _ => ?_
      walk_at "m"
      refine ⟨by walk_at "m_lv", by walk_at "m_lv", by walk_at "m_s", x3.upd hm, by walk_at "m_s"⟩
    · rintro lv₃ σ₃ ⟨l3, l4, s3, x3, t3⟩
      walk_at "m"
      refine ⟨l3, l4, ?_, x3⟩
      rw [take_snoc hc', hexEnc_snoc, ← g1, ← g2]
      simpa using s3
  · rintro lv₂ σ₂ ⟨l1, l2, s1, x1⟩
    rw [List.take_of_length_le (by lia)] at s1
    walk_at "m"
    walk_at "m_append"
    case msz => exact sz (by rw [List.length_map, hexEnc_len]; lia)
    rw [map_snoc]
    walk_at "m"
    refine call_bytes (by walk_at "m_s") (fun k hk => ?_) (sz (by rw [List.length_append, hexEnc_len]; simp; lia)) ?_
    · rcases List.mem_append.mp hk with q | q
      · exact hexEnc_range (bInts_range b) k q
      · rw [List.mem_singleton.mp q]; decide
    · walk_at "m"
      exact h _ (x1.upd hm)
end
set_option hygiene false
section
variable {G : Gd} {n : Nat} {env : Env} {σ : St}
theorem compH_list {r : Addr} {xs : List V} {scope : Scope} {cl : List (Str × Addr)} {x : Str} {px : Pos} {ifs : List Expr} {elt : Expr} {Z : List V → St → Prop} (J : Nat → List V → St → Prop) (hf : FnEnv env) (hk : scope.kind = .function) (hcells : ∀ C, cellsFrom C scope.names [] = []) (hx : decide ((relabel scope env).names.lookup x = some .local) = true)
    (hr : ∀ i ys σ₂, J i ys σ₂ → σ₂ r = some (.list xs)) (h1 : σ r = some (.list xs)) (hlen : xs.length ≤ 1000) (h0 : J 0 [] σ)
    (hb : ∀ C i v ys σ₂, FnEnv (cEnv scope cl C env) → xs[i]? = some v → J i ys σ₂ → Tests G n (cEnv scope cl C env) (noV.set x v) σ₂ ifs (EltK G n (cEnv scope cl C env) (noV.set x v) elt (J (i + 1)) ys))
    (he : ∀ ys σ₂, J xs.length ys σ₂ → Z ys σ₂) : CompH G n env scope cl x px ifs elt Z (.ref r) σ := by
  refine ⟨_, _, _, xs.length, iter_list (Gd.look_of h1), sz (by lia), fun C hC => ⟨fun i ys σ => i ≤ xs.length ∧ ys.length ≤ i ∧ J i ys σ, ?_, ?_⟩⟩
  · rw [hcells]; exact ⟨Nat.zero_le _, Nat.le_refl _, h0⟩
  · rintro i ys σ₂ ⟨hi, hy, hj⟩
    refine ⟨hi, hy, ?_⟩
    have hl := Gd.look_of (G := G) (hr i ys σ₂ hj)
    by_cases hlt : i < xs.length
    · refine .inl ⟨⟨xs, hl, hlt⟩, ?_⟩
      rintro v σ₃ ⟨rfl, zs, hz, hv⟩
      rw [hl] at hz
      cases hz
      refine tgt_name (fn_cEnv hf hk) (sto_local hx ?_)
      refine (hb C i v ys σ₃ (fn_cEnv hf hk) hv hj).mono fun b σ₅ hq => ?_
      cases b with
      | true => exact Run.mono hq fun y σ₆ hq => ⟨hlt, by rw [List.length_append]; exact Nat.succ_le_succ hy, hq⟩
      | false => exact ⟨hlt, Nat.le_succ_of_le hy, hq⟩
    · have : i = xs.length := by lia
      subst this
      exact .inr ⟨⟨xs, hl, Nat.le_refl _⟩, he _ _ hj⟩
theorem compH_range {r : Addr} {a b c : Int} {m : Nat} {scope : Scope} {cl : List (Str × Addr)} {x : Str} {px : Pos} {ifs : List Expr} {elt : Expr} {Z : List V → St → Prop} (J : Nat → List V → St → Prop) (hf : FnEnv env) (hk : scope.kind = .function) (hcells : ∀ C, cellsFrom C scope.names [] = []) (hx : decide ((relabel scope env).names.lookup x = some .local) = true)
    (h1 : σ r = some (.rng a b c)) (hsm : Builtin.Range.small a b c = true) (hm : Builtin.Range.rangeSize a b c = m) (hlen : m ≤ 1000) (h0 : J 0 [] σ)
    (hb : ∀ C i ys σ₂, FnEnv (cEnv scope cl C env) → i < m → J i ys σ₂ → Tests G n (cEnv scope cl C env) (noV.set x (.int (a + i * c))) σ₂ ifs (EltK G n (cEnv scope cl C env) (noV.set x (.int (a + i * c))) elt (J (i + 1)) ys))
    (he : ∀ ys σ₂, J m ys σ₂ → Z ys σ₂) : CompH G n env scope cl x px ifs elt Z (.ref r) σ := by
  refine ⟨_, _, _, m, iter_range (Gd.look_of h1) hsm hm, sz (by lia), fun C hC => ⟨fun i ys σ => i ≤ m ∧ ys.length ≤ i ∧ J i ys σ, ?_, ?_⟩⟩
  · rw [hcells]; exact ⟨Nat.zero_le _, Nat.le_refl _, h0⟩
  · rintro i ys σ₂ ⟨hi, hy, hj⟩
    refine ⟨hi, hy, ?_⟩
    by_cases hlt : i < m
    · refine .inl ⟨hlt, ?_⟩
      rintro v σ₃ ⟨rfl, rfl⟩
      refine tgt_name (fn_cEnv hf hk) (sto_local hx ?_)
      refine (hb C i ys σ₃ (fn_cEnv hf hk) hlt hj).mono fun b σ₅ hq => ?_
      cases b with
      | true => exact Run.mono hq fun y σ₆ hq => ⟨hlt, by rw [List.length_append]; exact Nat.succ_le_succ hy, hq⟩
      | false => exact ⟨hlt, Nat.le_succ_of_le hy, hq⟩
    · have : i = m := by lia
      subst this
      exact .inr ⟨Nat.le_refl _, he _ _ hj⟩
theorem compH_keys {r : Addr} {es : List (Str × V)} {ep : Nat} {scope : Scope} {cl : List (Str × Addr)} {x : Str} {px : Pos} {ifs : List Expr} {elt : Expr} {Z : List V → St → Prop} (J : Nat → List V → St → Prop) (hf : FnEnv env) (hk : scope.kind = .function) (hcells : ∀ C, cellsFrom C scope.names [] = []) (hx : decide ((relabel scope env).names.lookup x = some .local) = true)
    (hr : ∀ i ys σ₂, J i ys σ₂ → σ₂ r = some (.sdict es ep)) (h1 : σ r = some (.sdict es ep)) (hlen : es.length ≤ 1000) (h0 : J 0 [] σ)
    (hb : ∀ C i p ys σ₂, FnEnv (cEnv scope cl C env) → es[i]? = some p → J i ys σ₂ → Tests G n (cEnv scope cl C env) (noV.set x (.str p.1)) σ₂ ifs (EltK G n (cEnv scope cl C env) (noV.set x (.str p.1)) elt (J (i + 1)) ys))
    (he : ∀ ys σ₂, J es.length ys σ₂ → Z ys σ₂) : CompH G n env scope cl x px ifs elt Z (.ref r) σ := by
  refine ⟨_, _, _, es.length, iter_keys h1, sz (by lia), fun C hC => ⟨fun i ys σ => i ≤ es.length ∧ ys.length ≤ i ∧ J i ys σ, ?_, ?_⟩⟩
  · rw [hcells]; exact ⟨Nat.zero_le _, Nat.le_refl _, h0⟩
  · rintro i ys σ₂ ⟨hi, hy, hj⟩
    refine ⟨hi, hy, ?_⟩
    have hl := hr i ys σ₂ hj
    by_cases hlt : i < es.length
    · refine .inl ⟨⟨hl, hlt⟩, ?_⟩
      rintro v σ₃ ⟨rfl, p, hp, rfl⟩
      refine tgt_name (fn_cEnv hf hk) (sto_local hx ?_)
      refine (hb C i p ys σ₃ (fn_cEnv hf hk) hp hj).mono fun b σ₅ hq => ?_
      cases b with
      | true => exact Run.mono hq fun y σ₆ hq => ⟨hlt, by rw [List.length_append]; exact Nat.succ_le_succ hy, hq⟩
      | false => exact ⟨hlt, Nat.le_succ_of_le hy, hq⟩
    · have : i = es.length := by lia
      subst this
      exact .inr ⟨⟨hl, Nat.le_refl _⟩, he _ _ hj⟩
end
section
variable {G : Gd} {n : Nat} {σ : St} {Q : V → St → Prop}
theorem call_top {f : Addr} {o : Obj} {st : Stmt} {names : List Str} {args : List V} (H : Pr G) (env : Addr → Env) (lv : Lv) (st₀ : Addr → St) (henv : env = fun L => callEnvC (fdOf o) L f)
    (hlv : ∀ L, bL (callEnvC (fdOf o) L f).kindOf (names.zip args) (fun _ => none) = lv)
    (hst : ∀ L, cellSt σ (bC (callEnvC (fdOf o) L f).kindOf (names.zip args) fun _ => none) (cellsFrom (L + 1) (fdOf o).scope.names []) = st₀ L)
    (ho : (K0 G.w.params).lookup f = some o) (hd : o.data = .func (fdOf o)) (hcd : codeIn (K0 G.w.params) (fdOf o).code (fdOf o).qualname = true) (hbody : (fdOf o).body = .stmts (fbody st))
    (hb : ∀ vs : List Value, vs.length = args.length → bindArgs (fdOf o) ⟨vs, []⟩ = pure (names.zip vs)) (hclo : (fdOf o).closure = [])
    (hkind : (names.all fun x => decide ((fdOf o).scope.names.lookup x = some .local ∨ (fdOf o).scope.names.lookup x = some .cell)) = true) (hnd : ((cellsFrom 0 (fdOf o).scope.names []).map (·.1)).Nodup)
    (hco : (fdOf o).scope.isCoroutine = false) (hgen : (fdOf o).scope.isGenerator = false) (hk : (fdOf o).scope.kind = .function) (hg1 : (fdOf o).globals = mainGlobals) (hg2 : (fdOf o).builtins = builtinsNs)
    (h : ∀ L, FnEnv (env L) → (∀ a, L ≤ a → σ a = none) → Ex G n (env L) lv (st₀ L) (execs (fbody st) (env L)) fun r _ σ' => Q (retOf r) σ') : CallV G (n + 1) σ (.ref f) args Q := by
  subst henv
  refine call_cells (H.at ho) hd (H.code hcd) hbody (binds := names.zip args) (fun vs hv => ⟨names.zip vs, hb vs hv.length.symm, zip_paired hv⟩) hclo (fun N x hx => ?_) hnd (fun L hL => ?_) hco hgen hk
  · have := List.all_eq_true.mp hkind x.1 (List.of_mem_zip hx).1
    rcases of_decide_eq_true this with q | q
    · exact .inl q
    · exact .inr ⟨q, cellsFrom_some _ _ _ (.inl q)⟩
  · rw [hlv, hst]
    refine h L ⟨hk, hg1, hg2⟩ fun a ha => ?_
    cases e : σ a with
    | none => rfl
    | some o => exact absurd (hL a o e) (Nat.not_lt.mpr ha)
noncomputable def e_hex_decoded (L : Addr) : Env := callEnvC (fdOf k89) L 89
theorem kp_hex_decoded (H : Pr G) : Kp G (.ref 89) := kp_fn (o := k89) (fd := fdOf k89) (H.at (by kernel_rfl)) (by kernel_rfl)
theorem in_hex_decoded (H : Pr G) {a0 : V} (h : ∀ L, FnEnv (e_hex_decoded L) → (∀ a, L ≤ a → σ a = none) → Ex G n (e_hex_decoded L) (noV.set "data" a0) (σ.set (L + 1) (.cell none)) (execs (fbody (top 19)) (e_hex_decoded L)) fun r _ σ' => Q (retOf r) σ') : CallV G (n + 1) σ (.ref 89) [a0] Q :=
  call_top (o := k89) (st := top 19) (names := ["data"]) H e_hex_decoded (noV.set "data" a0) (fun L => σ.set (L + 1) (.cell none)) rfl (fun L => by kernel_rfl) (fun L => by kernel_rfl) (by kernel_rfl) (by kernel_rfl) (by kernel_rfl) (by kernel_rfl)
    (fun vs hv => by obtain ⟨y0, rfl⟩ := len1 hv; kernel_rfl) (by kernel_rfl) (by kernel_rfl) (by decide +kernel) (by kernel_rfl) (by kernel_rfl) (by kernel_rfl) (by kernel_rfl) (by kernel_rfl) fun L hf hL => h L hf hL
noncomputable def e_filter_parms (L : Addr) : Env := callEnvC (fdOf k254) L 254
theorem kp_filter_parms (H : Pr G) : Kp G (.ref 254) := kp_fn (o := k254) (fd := fdOf k254) (H.at (by kernel_rfl)) (by kernel_rfl)
end
set_option hygiene false
noncomputable def nib (l : List Int) : List Int := l.flatMap fun o => [o.fdiv 16, o.fmod 16]
theorem hexEnc_map (l : List Int) : hexEnc l = (nib l).map fig := by
  induction l with
  | nil => rfl
  | cons x r ih => simp [hexEnc, nib] at ih ⊢; exact ih
theorem nib_len (l : List Int) : (nib l).length = 2 * l.length := by
  induction l with
  | nil => rfl
  | cons x r ih => simp [nib] at ih ⊢; lia
theorem nib_range {l : List Int} (h : ∀ k ∈ l, 0 ≤ k ∧ k < 256) : ∀ k ∈ nib l, 0 ≤ k ∧ k < 16 := by
  intro k hk
  obtain ⟨o, ho, hm⟩ := List.mem_flatMap.mp hk
  have d := nibs (h o ho)
  rcases List.mem_cons.1 hm with rfl | hm
  · exact d.1
  · rw [List.mem_singleton.1 hm]
    exact d.2
theorem nib_pair {l : List Int} : ∀ {i : Nat} {o : Int}, l[i]? = some o → (nib l)[2 * i]? = some (o.fdiv 16) ∧ (nib l)[2 * i + 1]? = some (o.fmod 16) := by
  induction l with
  | nil => intro i o h; simp at h
  | cons x r ih =>
    intro i o h
    cases i with
    | zero => simp at h; subst h; simp [nib]
    | succ i =>
      have := ih (i := i) (o := o) (by simpa using h)
      have e : nib (x :: r) = x.fdiv 16 :: x.fmod 16 :: nib r := by simp [nib]
      rw [e, show 2 * (i + 1) = 2 * i + 1 + 1 by lia]
      simpa using this
theorem byteArr_bInts (b : Array UInt8) : byteArr (bInts b) = b := by
  obtain ⟨l⟩ := b
  simp only [byteArr, bInts, List.map_map]
  congr 1
  induction l with
  | nil => rfl
  | cons x r ih => simp [ih]
theorem bInts_byteArr {ns : List Int} (h : ∀ k ∈ ns, 0 ≤ k ∧ k < 256) : bInts (byteArr ns) = ns := by
  simp only [byteArr, bInts, List.map_map]
  induction ns with
  | nil => rfl
  | cons x r ih =>
    have hx := h x (.head _)
    simp only [List.map_cons, ih fun k hk => h k (.tail _ hk), Function.comp]
    congr 1
    have : (UInt8.ofNat x.toNat).toNat = x.toNat := by simp [UInt8.toNat_ofNat']; lia
    rw [this]; lia
section
variable {G : Gd} {n : Nat} {env : Env} {lv : Lv} {σ : St} {Q : Fl → Lv → St → Prop}
abbrev EnmJ (e it : Addr) (b : Array UInt8) (J : Nat → Lv → St → Prop) (i : Nat) : Lv → St → Prop := fun lv σ => σ e = some (.enm it i) ∧ σ it = some (.bit b i) ∧ J i lv σ
inductive ForE (G : Gd) (n : Nat) (env : Env) (lv : Lv) (elts : List Expr) (kd : Nat) (tp : Pos) (body : List Stmt) (Q : Fl → Lv → St → Prop) (v : V) (σ₁ : St) : Prop where
  | mk (e : Addr) (it : Addr) (b : Array UInt8) (J : Nat → Lv → St → Prop) (h0 : v = .ref e) (h1 : e ≠ it) (h2 : σ₁ e = some (.enm it 0)) (h3 : σ₁ it = some (.bit b 0)) (h4 : J 0 lv σ₁) (h5 : (∀ i c lv₂ σ₂ σ₃ a, J i lv₂ σ₂ → b[i]? = some c → (∀ x o, x ≠ e → x ≠ it → σ₂ x = some o → σ₃ x = some o) → σ₃ a = some (.tuple [.int i, .int (c.toNat : Int)]) → σ₃ e = some (.enm it (i + 1)) → σ₃ it = some (.bit b (i + 1)) → Tgt G n env lv₂ σ₃ (.Tuple elts kd tp) (.ref a) (TurnK G n env body (EnmJ e it b J (i + 1)) Q))) (h6 : ∀ lv₂ σ₂ σ₃, J b.size lv₂ σ₂ → (∀ x o, x ≠ e → x ≠ it → σ₂ x = some o → σ₃ x = some o) → Q .next lv₂ σ₃) : ForE G n env lv elts kd tp body Q v σ₁
theorem for_enum {elts : List Expr} {kd : Nat} {tp : Pos} {iter : Expr} {body : List Stmt} {pos : Pos}
    (h : Ev G n env lv σ iter (ForE G n env lv elts kd tp body Q))
    (hs : ∀ x, foldedSetIterable iter env x = pure x := by intro _; rfl) : Ex G n env lv σ (exec (.For (.Tuple elts kd tp) iter body [] pos) env) Q := by
  refine ex_for_enum (h.mono fun v σ₁ hq => ?_) hs
  obtain ⟨e, it, b, J, rfl, hne, he, hi, h0, hb, hz⟩ := hq
  refine ⟨e, it, b, J, rfl, hne, he, hi, h0, fun i lv₂ σ₂ hj he2 hi2 hle => ⟨fun c hc a ha hae hai => ?_, fun q => ?_⟩⟩
  · refine hb i c lv₂ σ₂ _ a hj hc (fun x o hx hx2 e1 => ?_) (St.set_same _ _ _) ?_ ?_
    · rw [St.set_ne _ _ (ne_of_some_none e1 ha), St.set_ne _ _ hx, St.set_ne _ _ hx2]; exact e1
    · rw [St.set_ne _ _ (Ne.symm hae)]; exact St.set_same _ _ _
    · rw [St.set_ne _ _ (Ne.symm hai), St.set_ne _ _ (Ne.symm hne)]; exact St.set_same _ _ _
  · subst q
    refine ex_nil (hz lv₂ σ₂ _ hj fun x o hx hx2 e1 => ?_)
    rw [St.del_ne _ hx2]; exact e1
end
theorem small_two {k : Nat} (h : k ≤ 1000) : Builtin.Range.small 0 ((2 * k : Nat) : Int) 2 = true :=
  (by decide +kernel : ∀ k : Fin 1001, Builtin.Range.small 0 ((2 * k.val : Nat) : Int) 2 = true) ⟨k, Nat.lt_succ_of_le h⟩
theorem size_two (k : Nat) : Builtin.Range.rangeSize 0 ((2 * k : Nat) : Int) 2 = k := by
  unfold Builtin.Range.rangeSize
  rw [if_pos (by decide)]
  split <;> lia
section
variable {G : Gd} {n : Nat} {σ : St} {Q : V → St → Prop}
theorem c_hex_decoded (H : Pr G) {b d : Array UInt8} (hs : b.size ≤ 100) (hd : bInts d = hexEnc (bInts b) ++ [62]) (h : ∀ σ', Ext σ σ' → Q (.bytes b) σ') : Kp G (.ref 89) ∧ CallV G (n + 2) σ (.ref 89) [.bytes d] Q := by
  refine ⟨kp_hex_decoded H, (in_hex_decoded H fun L hf hL => ?_)⟩
  have bl := bInts_len b
  have dl := bInts_len d
  have nl := nib_len (bInts b)
  have nr := nib_range (bInts_range b)
  rw [hd, List.length_append, hexEnc_len, bl] at dl
  simp at dl
  rw [bl] at nl
  rw [hexEnc_map] at hd
  have hc0 : (e_hex_decoded L).cells.lookup ("worths" : Str) = some (L + 1) := by kernel_rfl
  have f1 := hL (L + 1) (Nat.le_succ _)
  walk_at "m"
  refine ⟨sz (by simp), fun w hw => ?_⟩
  walk_at "m"
  have hwσ := ((Ext.refl _).more f1).no hw
  have nwL : L + 1 ≠ w := ne_of_some_none (St.set_same σ (L + 1) _) hw
  have x0 : Ext σ (((σ.set (L + 1) (O.cell none)).set w (O.list [])).set (L + 1) (O.cell (some (V.ref w)))) := (((Ext.refl _).more f1).more hw).upd f1
  generalize hσ₁ : ((σ.set (L + 1) (O.cell none)).set w (O.list [])).set (L + 1) (O.cell (some (V.ref w))) = σ₁ at x0
  have s1 : σ₁ (L + 1) = some (.cell (some (.ref w))) := by rw [← hσ₁]; exact St.set_same _ _ _
  have s2 : σ₁ w = some (.list []) := by rw [← hσ₁]; walk_at "m_s"
  refine for_enum ?_
  walk_at "m"
  refine call_enumerate fun it e hit he hie => ?_
  have k1 := ne_of_some_none s1 hit
  have k2 := ne_of_some_none s1 he
  have k3 := ne_of_some_none s2 hit
  have k4 := ne_of_some_none s2 he
  refine ⟨e, it, d, fun i lv σ' => σ' (L + 1) = some (.cell (some (.ref w))) ∧ σ' w = some (.list (((nib (bInts b)).take i).map V.int)) ∧ Ext σ σ' ∧ i ≤ 2 * b.size, rfl, Ne.symm hie, by walk_at "m_s", by walk_at "m_s", ⟨by walk_at "m_s", by rw [List.take_zero, List.map_nil]; walk_at "m_s", ?_, by lia⟩, ?_, ?_⟩
  · exact (x0.more hit).trans ((Ext.refl _).more (by rw [St.set_ne _ _ (Ne.symm hie)]; exact he))
  · rintro i c lv₂ σ₂ σ₃ a ⟨j1, j2, j3, j4⟩ hc hk ha he' hit'
    have t1 := hk _ _ k2 k1 j1
    have t2 := hk _ _ k4 k3 j2
    have x3 : Ext σ σ₃ := fun x o ex => hk x o (fun q => by rw [q, x0.no he] at ex; cases ex) (fun q => by rw [q, x0.no hit] at ex; cases ex) (j3 x o ex)
    have hcd := bInts_get hc
    rw [hd] at hcd
    walk_at "m"
    by_cases hlt : i < 2 * b.size
    · rw [List.getElem?_append_left (by rw [List.length_map]; lia), List.getElem?_map] at hcd
      obtain ⟨k, hk1, hk2⟩ := Option.map_eq_some_iff.mp hcd
      have hkr := nr k (List.mem_of_getElem? hk1)
      have fr := fig_range hkr.1 hkr.2
      have ne62 : ¬ ((c.toNat : Int) == 62) = true := by
        rw [← hk2]
        intro q
        have := of_decide_eq_true q
        unfold fig at this
        split at this <;> lia
      refine if_bool (fun q => absurd q ne62) fun _ => ?_
      walk_at "m"
      refine c_figure_worth H ?_
      rw [← hk2, fr.2.2]
      walk_at "m"
      refine if_dec (fun _ => ?_) fun q => absurd hkr.1 q
      walk_at "m"
      walk_at "m_append"
      case msz => exact sz (by rw [List.length_map, List.length_take]; lia)
      rw [map_snoc, ← take_snoc hk1]
      walk_at "m"
      have n1 := ne_of_diff t2 he' (by intro q; cases q)
      have n2 := ne_of_diff t2 hit' (by intro q; cases q)
      exact ⟨by walk_at "m_s", by walk_at "m_s", by walk_at "m_s", by walk_at "m_s", x3.upd hwσ, hlt⟩
    · have hi2 : i = 2 * b.size := by lia
      rw [List.getElem?_append_right (by rw [List.length_map]; lia), List.length_map, nl, hi2, Nat.sub_self] at hcd
      have hc62 : (62 : Int) = c.toNat := by simpa using hcd
      rw [← hc62]
      refine if_bool (fun _ => ?_) fun q => absurd q (by decide)
      rw [hi2, List.take_of_length_le (by lia)] at t2
      walk_at "m"
      refine call_len_list (by walk_at "m_s") (sz (by rw [List.length_map]; lia)) ?_
      walk_at "m"
      refine bin_mod (by decide) ?_
      walk_at "m"
      refine if_bool (fun q => ?_) fun _ => ?_
      · exfalso
        rw [List.length_map, nl] at q
        have := of_decide_eq_true q
        rw [Int.fmod_eq_emod_of_nonneg _ (by decide)] at this
        lia
      walk_at "m"
      have hn62 : ∀ y ∈ ([(Str.ofString ".0", NameKind.local), (Str.ofString "at", NameKind.local), (Str.ofString "worths", NameKind.free)] : List (Str × NameKind)), y.2 = .local → ([(Str.ofString ".0", NameKind.local), (Str.ofString "at", NameKind.local), (Str.ofString "worths", NameKind.free)] : List (Str × NameKind)).lookup y.1 = some .local := by decide +kernel
      refine ev_comp (cl := [(("worths" : Str), L + 1)]) ?_ (by kernel_rfl) (by kernel_rfl) hn62
      walk_at "m"
      refine call_len_list (by walk_at "m_s") (sz (by rw [List.length_map]; lia)) ?_
      walk_at "m"
      refine call_range3 (by decide) (by decide) fun r hr => ?_
      rw [List.length_map, nl]
      refine compH_range (m := b.size) (fun i ys σ' => ys = ((bInts b).take i).map V.int ∧ σ' (L + 1) = some (.cell (some (.ref w))) ∧ σ' w = some (.list ((nib (bInts b)).map V.int)) ∧ Ext σ σ') hf (by kernel_rfl) (fun C => by kernel_rfl) (by kernel_rfl) (St.set_same _ _ _) (small_two (by lia)) (size_two _) (by lia) ⟨rfl, by walk_at "m_s", by walk_at "m_s", x3.more hr⟩ ?_ ?_
      · rintro C j ys σ₄ hfc hj ⟨rfl, j1, j2, j3⟩
        obtain ⟨o, ho⟩ : ∃ o, (bInts b)[j]? = some o := ⟨_, List.getElem?_eq_getElem (by lia)⟩
        obtain ⟨p1, p2⟩ := nib_pair ho
        have hcC : (cEnv ⟨.function, [(Str.ofString ".0", NameKind.local), (Str.ofString "at", NameKind.local), (Str.ofString "worths", NameKind.free)], false, false, []⟩ [(("worths" : Str), L + 1)] C (e_hex_decoded L)).cells.lookup ("worths" : Str) = some (L + 1) := by kernel_rfl
        have e1 : ((0 : Int) + j * 2).toNat = 2 * j := by lia
        have e2 : ((0 : Int) + j * 2 + 1).toNat = 2 * j + 1 := by lia
        refine tests_nil (if_tt ?_)
        walk_at "m"
        refine item_list (by walk_at "m_s") (by lia) (by lia) (v := .int (o.fdiv 16)) (by rw [e1, List.getElem?_map, p1]; rfl) ?_
        refine bin_mul (intMulOk_left (by decide)) ?_
        walk_at "m"
        refine item_list (by walk_at "m_s") (by lia) (by lia) (v := .int (o.fmod 16)) (by rw [e2, List.getElem?_map, p2]; rfl) ?_
        walk_at "m"
        refine ⟨?_, j1, j2, j3⟩
        rw [take_snoc ho, List.map_append]
        have : 16 * o.fdiv 16 + o.fmod 16 = o := by have := Int.mul_fdiv_add_fmod o 16; lia
        rw [this]; rfl
      · rintro ys σ₄ ⟨rfl, j1, j2, j3⟩ D hD
        rw [List.take_of_length_le (by lia)]
        walk_at "m"
        refine call_bytes (by walk_at "m_s") (bInts_range b) (sz (by lia)) ?_
        rw [byteArr_bInts]
        walk_at "m"
        exact h _ (j3.more hD)
  · rintro lv₂ σ₂ σ₃ ⟨j1, j2, j3, j4⟩ _
    lia
end
set_option hygiene false
inductive Seg where
  | row (r : List Int) | run (k : Nat) (v : Int)
noncomputable def Seg.codes : Seg → List Int
  | .row r => ((r.length : Int) - 1) :: r
  | .run k v => [257 - (k : Int), v]
noncomputable def Seg.out : Seg → List Int
  | .row r => r
  | .run k v => List.replicate k v
noncomputable def Seg.ok : Seg → Prop
  | .row r => r ≠ [] ∧ r.length ≤ 128
  | .run k _ => 2 ≤ k ∧ k ≤ 128
noncomputable def segCodes (l : List Seg) : List Int := l.flatMap Seg.codes
noncomputable def segOut (l : List Seg) : List Int := l.flatMap Seg.out
theorem segCodes_snoc (l : List Seg) (s : Seg) : segCodes (l ++ [s]) = segCodes l ++ s.codes := by simp [segCodes]
theorem segOut_snoc (l : List Seg) (s : Seg) : segOut (l ++ [s]) = segOut l ++ s.out := by simp [segOut]
theorem seg_len {l : List Seg} (h : ∀ s ∈ l, s.ok) : (segCodes l).length ≤ 2 * (segOut l).length := by
  induction l with
  | nil => simp [segCodes]
  | cons s r ih =>
    have := ih fun x hx => h x (.tail _ hx)
    have hs := h s (.head _)
    have e1 : segCodes (s :: r) = s.codes ++ segCodes r := by simp [segCodes]
    have e2 : segOut (s :: r) = s.out ++ segOut r := by simp [segOut]
    rw [e1, e2, List.length_append, List.length_append]
    cases s with
    | row r =>
      have h1 := hs.1
      have : 0 < r.length := List.length_pos_iff.mpr h1
      simp [Seg.codes, Seg.out]; lia
    | run k v => have := hs.1; simp [Seg.codes, Seg.out]; lia
theorem seg_range {l : List Seg} (h : ∀ s ∈ l, s.ok) (ho : ∀ k ∈ segOut l, 0 ≤ k ∧ k < 256) : ∀ k ∈ segCodes l, 0 ≤ k ∧ k < 256 := by
  intro k hk
  obtain ⟨s, hs, hm⟩ := List.mem_flatMap.mp hk
  have ok := h s hs
  have hin : ∀ x ∈ s.out, 0 ≤ x ∧ x < 256 := fun x hx => ho x (List.mem_flatMap.mpr ⟨s, hs, hx⟩)
  cases s with
  | row r =>
    have : 0 < r.length := List.length_pos_iff.mpr ok.1
    have := ok.2
    rcases List.mem_cons.mp hm with rfl | q
    · lia
    · exact hin k q
  | run j v =>
    have h1 := ok.1
    have h2 := ok.2
    rcases List.mem_cons.mp hm with rfl | q
    · lia
    · rw [List.mem_singleton.mp q]
      exact hin v (List.mem_replicate.mpr ⟨by lia, rfl⟩)
noncomputable def withRow (segs : List Seg) (R : List Int) : List Seg := if R.isEmpty then segs else segs ++ [.row R]
theorem withRow_codes (segs : List Seg) (R : List Int) : segCodes (withRow segs R) = segCodes segs ++ rowCodes R := by
  unfold withRow rowCodes
  cases R with
  | nil => simp
  | cons x r => simp [segCodes_snoc, Seg.codes]
theorem withRow_out (segs : List Seg) (R : List Int) : segOut (withRow segs R) = segOut segs ++ R := by
  unfold withRow
  cases R with
  | nil => simp
  | cons x r => simp [segOut_snoc, Seg.out]
theorem withRow_ok {segs : List Seg} {R : List Int} (h : ∀ s ∈ segs, Seg.ok s) (hR : R.length ≤ 128) : ∀ s ∈ withRow segs R, Seg.ok s := by
  unfold withRow
  cases R with
  | nil => simpa using h
  | cons x r =>
    intro s hs
    simp at hs
    rcases hs with hs | rfl
    · exact h s hs
    · exact ⟨by simp, hR⟩
theorem snoc_ok {segs : List Seg} {s : Seg} (h : ∀ s ∈ segs, Seg.ok s) (hs : s.ok) : ∀ x ∈ segs ++ [s], Seg.ok x := by
  intro x hx
  rcases List.mem_append.mp hx with q | q
  · exact h x q
  · rw [List.mem_singleton.mp q]; exact hs
theorem take_run {b : Array UInt8} {i k : Nat} {x : UInt8} (hx : b[i]? = some x) (h : ∀ j, j < k → b[i + j]? = b[i]?) : (bInts b).take (i + k) = (bInts b).take i ++ List.replicate k (x.toNat : Int) := by
  induction k with
  | zero => simp
  | succ k ih =>
    have h1 := h k (Nat.lt_succ_self _)
    rw [hx] at h1
    rw [← Nat.add_assoc, take_snoc (bInts_get h1), ih fun j hj => h j (Nat.lt_succ_of_lt hj), List.append_assoc, ← List.replicate_succ']
section
variable {G : Gd} {n : Nat} {σ : St} {Q : V → St → Prop}
inductive ReJ (b : Array UInt8) (c : Addr) (σ : St) (k : Nat) (lv : Lv) (σ' : St) : Prop where
  | mk (i r : Nat) (segs : List Seg) (R : List Int) (h0 : lv "octets" = some (.bytes b)) (h1 : lv "codes" = some (.ref c)) (h2 : lv "row" = some (.ref r)) (h3 : lv "at" = some (.int i)) (h4 : σ' c = some (.list ((segCodes segs).map V.int))) (h5 : σ' r = some (.list (R.map V.int))) (h6 : c ≠ r) (h7 : σ r = none) (h8 : (∀ s ∈ segs, Seg.ok s)) (h9 : segOut segs ++ R = (bInts b).take i) (h10 : i ≤ b.size) (h11 : k = b.size - i) (h12 : Ext σ σ') : ReJ b c σ k lv σ'
theorem c_run_encoded (H : Pr G) {b : Array UInt8} (hs : b.size ≤ 100) (h : ∀ segs σ', (∀ s ∈ segs, Seg.ok s) → segOut segs = bInts b → Ext σ σ' → Q (.bytes (byteArr (segCodes segs ++ [128]))) σ') : Kp G (.ref 136) ∧ CallV G (n + 2) σ (.ref 136) [.bytes b] Q := by
  refine ⟨kp_run_encoded H, (in_run_encoded H fun L hf => ?_).call⟩
  have bl := bInts_len b
  walk_at "m_ev"
  refine ex_swap' ["codes", "row", "at"] ?_ hf (by kernel_rfl)
  walk_at "m"
  refine ⟨sz (by simp), fun c hc => ?_⟩
  walk_at "m"
  refine ⟨sz (by simp), fun r hr => ?_⟩
  walk_at "m"
  refine ⟨sz (by simp), fun t ht => ⟨t, _, rfl, St.set_same _ _ _, rfl, fun lv₁ elv => ?_⟩⟩
  have l1 : lv₁ "octets" = some (.bytes b) := by rw [elv]; kernel_rfl
  have l2 : lv₁ "codes" = some (.ref c) := by rw [elv]; kernel_rfl
  have l3 : lv₁ "row" = some (.ref r) := by rw [elv]; kernel_rfl
  have l4 : lv₁ "at" = some (.int 0) := by rw [elv]; kernel_rfl
  clear elv
  have y1 : Ext σ (σ.set c (O.list [])) := (Ext.refl σ).more hc
  have y2 : Ext σ ((σ.set c (O.list [])).set r (O.list [])) := y1.more hr
  have x0 : Ext σ (((σ.set c (O.list [])).set r (O.list [])).set t (O.tuple [.ref c, .ref r, .int 0])) := y2.more ht
  have hcσ := hc
  have hr0 := y1.no hr
  have ncr : c ≠ r := ne_of_some_none (St.set_same σ c _) hr
  walk_at "m"
  refine ex_while (ReJ b c σ) b.size
    ⟨0, r, [], [], l1, l2, l3, l4, ?_, ?_, ncr, hr0, by simp, by simp [segOut], by lia, by lia, x0⟩ ?_
  · rw [St.set_ne _ _ (ne_of_some_none (St.set_new hr (St.set_same σ c _)) ht), St.set_ne _ _ ncr, St.set_same]; rfl
  · rw [St.set_ne _ _ (ne_of_some_none (St.set_same _ r _) ht), St.set_same]; rfl
  clear hr hr0 ncr y2 x0 ht
  rintro k lv₂ σ₂ ⟨i, r, segs, R, l1, l2, l3, l4, s1, s2, ncr, hr, hok, ho, hi, rfl, x2⟩
  have hlen : (segOut segs).length + R.length = i := by rw [← List.length_append, ho, List.length_take]; lia
  have hcl := seg_len hok
  have hR : ∀ z ∈ segOut segs ++ R, 0 ≤ z ∧ z < 256 := fun z hz => bInts_range b z (List.mem_of_mem_take (ho ▸ hz))
  walk_at "m"
  refine call_len_bytes (by lia) ?_
  walk_at "m"
  refine if_dec (fun hlt => ?_) fun hge => ?_
  · have hlt' : i < b.size := by lia
    obtain ⟨x, hx⟩ : ∃ x, b[i]? = some x := ⟨_, Array.getElem?_eq_getElem hlt'⟩
    walk_at "m"
    refine c_run_at H hlt' (by lia) fun q q1 q2 q3 q4 => ?_
    walk_at "mi"
    refine ex_if ?_
    refine Run.mono (Q := fun t σ₃ => (t = true → 2 ≤ q) ∧ σ₃ c = some (.list ((segCodes segs).map V.int)) ∧ σ₃ r = some (.list (R.map V.int)) ∧ Ext σ σ₃) ?_ ?_
    · walk_at "m"
      refine if_dec (fun w1 => ?_) fun w1 => ?_
      · exact ⟨fun _ => by lia, s1, s2, x2⟩
      · walk_at "m"
        refine if_bool (fun w2 => ?_) fun w2 => ?_
        · have w3 : (q : Int) = 2 := of_decide_eq_true w2
          walk_at "m"
          refine ⟨sz (by simp), fun z hz => ?_⟩
          refine cmp_eq_nil (by walk_at "m_s") (by walk_at "m_s") ?_
          walk_at "m"
          refine if_bool (fun w4 => ?_) fun w4 => ?_
          · walk_at "m"
            exact ⟨fun _ => by lia, by walk_at "m_s", by walk_at "m_s", x2.more hz⟩
          · walk_at "m"
            exact ⟨fun e => absurd e (by decide), by walk_at "m_s", by walk_at "m_s", x2.more hz⟩
        · walk_at "m"
          exact ⟨fun e => absurd e (by decide), s1, s2, x2⟩
    · rintro t σ₃ ⟨w, s3, s4, x3⟩
      refine if_bool (fun ht => ?_) fun _ => ?_
      · -- a run
        have w2 := w ht
        walk_at "m"
        refine ⟨_, _, getm_extend (Gd.look_of s3), ?_⟩
        walk_at "m"
        refine c_row_codes H s4 (by lia) fun z σ₄ e4 z4 hz => ?_
        have s5 := e4 _ _ s3
        have x4 := x3.trans e4
        walk_at "m"
        refine item_bytes (c := x) (by lia) (by lia) (by rw [Int.toNat_natCast]; exact hx) ?_
        walk_at "m"
        refine ⟨sz (by simp), fun y hy => ?_⟩
        have hrl : (rowCodes R).length ≤ R.length + 1 := by unfold rowCodes; split <;> simp
        refine bin_concat (ys := [.int (257 - q), .int x.toNat]) (by walk_at "m_s") (Gd.look_of (St.set_same _ _ _)) (sz (by rw [List.length_map]; simp; lia)) fun u hu => ?_
        walk_at "m"
        refine call_extend (by walk_at "m_s") (by walk_at "m_s") (sz (by rw [List.length_append, List.length_map, List.length_map]; simp; lia)) ⟨rfl, ?_⟩
        have e5 : (segCodes segs).map V.int ++ ((rowCodes R).map V.int ++ [V.int (257 - q), V.int x.toNat]) = (segCodes (withRow segs R ++ [.run q x.toNat])).map V.int := by
          rw [segCodes_snoc, withRow_codes]; simp [Seg.codes]
        rw [e5]
        walk_at "m"
        refine ⟨sz (by simp), fun r' hr' => ?_⟩
        walk_at "m"
        have hcr := ne_of_some_none (St.set_same _ c _) hr'
        refine ⟨b.size - (i + q), by lia, i + q, r', withRow segs R ++ [.run q x.toNat], [], by walk_at "m_lv", by walk_at "m_lv", by walk_at "m_lv", by walk_at "m_lv", ?_, ?_, hcr, (((x4.more hy).more hu).upd hcσ).no hr', snoc_ok (s := .run q x.toNat) (withRow_ok hok (by lia)) ⟨w2, q2⟩, ?_, q3, rfl, (((x4.more hy).more hu).upd hcσ).more hr'⟩
        · rw [St.set_ne _ _ hcr]; exact St.set_same _ _ _
        · exact St.set_same _ _ _
        · rw [segOut_snoc, withRow_out, ho, take_run hx q4]; simp [Seg.out]
      · walk_at "m"
        refine ⟨_, _, getm_append (Gd.look_of s4), ?_⟩
        walk_at "m"
        refine item_bytes (c := x) (by lia) (by lia) (by rw [Int.toNat_natCast]; exact hx) ?_
        walk_at "m"
        refine call_append (by walk_at "m_s") (sz (by rw [List.length_map]; lia)) ⟨rfl, ?_⟩
        rw [map_snoc]
        have n1 : r ≠ c := Ne.symm ncr
        walk_at "m"
        refine call_len_list (by walk_at "m_s") (sz (by rw [List.length_map]; simp; lia)) ?_
        walk_at "m"
        refine if_bool (fun w2 => ?_) fun _ => ?_
        · have w3 : ((List.map V.int (R ++ [(x.toNat : Int)])).length : Int) = 128 := of_decide_eq_true w2
          rw [List.length_map, List.length_append] at w3
          simp at w3
          lia
        · walk_at "m"
          refine ⟨b.size - (i + 1), by lia, i + 1, r, segs, R ++ [(x.toNat : Int)], by walk_at "m_lv", by walk_at "m_lv", by walk_at "m_lv", by walk_at "m_lv", by walk_at "m_s", by walk_at "m_s", ncr, hr, hok, ?_, by lia, rfl, x3.upd hr⟩
          rw [take_snoc (bInts_get hx), ← ho, List.append_assoc]
  · have hib : i = b.size := by lia
    subst hib
    rw [List.take_of_length_le (by lia)] at ho
    walk_at "m"
    refine c_row_codes H s2 (by lia) fun z σ₄ e4 z4 hz => ?_
    have s3 := e4 _ _ s1
    have x4 := x2.trans e4
    refine bin_concat (by walk_at "m_s") (by walk_at "m_s") (sz (by rw [List.length_map, List.length_map]; have : (rowCodes R).length ≤ R.length + 1 := by { unfold rowCodes; split <;> simp }; lia)) fun u hu => ?_
    walk_at "m"
    refine ⟨sz (by simp), fun y hy => ?_⟩
    have hrl : (rowCodes R).length ≤ R.length + 1 := by unfold rowCodes; split <;> simp
    refine bin_concat (ys := [.int 128]) (by walk_at "m_s") (Gd.look_of (St.set_same _ _ _)) (sz (by rw [List.length_append, List.length_map, List.length_map]; simp; lia)) fun v hv => ?_
    have e5 : (segCodes segs).map V.int ++ (rowCodes R).map V.int ++ [V.int 128] = (segCodes (withRow segs R) ++ [128]).map V.int := by
      rw [withRow_codes]; simp
    rw [e5]
    have wok := withRow_ok hok (R := R) (by lia)
    have wout : segOut (withRow segs R) = bInts b := by rw [withRow_out, ho]
    have wlen := seg_len wok
    rw [wout] at wlen
    walk_at "m"
    refine call_bytes (by walk_at "m_s") (fun k hk => ?_) (sz (by rw [List.length_append]; simp; lia)) ?_
    · rcases List.mem_append.mp hk with q | q
      · exact seg_range wok (by rw [wout]; exact bInts_range b) k q
      · rw [List.mem_singleton.mp q]; decide
    · walk_at "m"
      exact h _ _ wok wout (((x4.more hu).more hy).more hv)
end
set_option hygiene false
theorem bInts_at {d : Array UInt8} {i : Nat} {v : Int} (h : (bInts d)[i]? = some v) : ∃ c : UInt8, d[i]? = some c ∧ (c.toNat : Int) = v := by
  unfold bInts at h
  rw [List.getElem?_map, Array.getElem?_toList] at h
  exact Option.map_eq_some_iff.mp h
theorem picked_ints {d : Array UInt8} {pre R post : List Int} (h : bInts d = pre ++ (R ++ post)) : bInts (KBy.picked d (some (pre.length : Int)) (some ((pre.length + R.length : Nat) : Int))) = R := by
  have := KBc.ints_picked (b := d) (ks := bInts d) rfl (some (pre.length : Int)) (some ((pre.length + R.length : Nat) : Int))
  have e : bInts (KBy.picked d (some (pre.length : Int)) (some ((pre.length + R.length : Nat) : Int))) = KBw.bInts (KBy.picked d (some (pre.length : Int)) (some ((pre.length + R.length : Nat) : Int))) := rfl
  rw [e, this]
  simp only [Option.elim]
  rw [clipAt_nat, clipAt_nat, h]
  simp only [List.length_append]
  rw [Nat.min_eq_left (by lia), Nat.min_eq_left (by lia), List.drop_left' rfl, show pre.length + R.length - pre.length = R.length by lia, List.take_left' rfl]
theorem seg_split {segs : List Seg} {j : Nat} {s : Seg} (h : segs[j]? = some s) : segCodes segs = segCodes (segs.take j) ++ (s.codes ++ segCodes (segs.drop (j + 1))) := by
  have hj : j < segs.length := by
    rcases Nat.lt_or_ge j segs.length with q | q
    · exact q
    · rw [List.getElem?_eq_none q] at h; cases h
  have e : segs = segs.take j ++ (s :: segs.drop (j + 1)) := by
    rw [List.getElem?_eq_getElem hj] at h
    cases h
    rw [← List.drop_eq_getElem_cons, List.take_append_drop]
  have e2 := congrArg segCodes e
  simpa [segCodes] using e2
theorem rep_one (k : Nat) (v : Int) : rep k [V.int v] = (List.replicate k v).map V.int := by
  unfold rep
  induction k with
  | zero => rfl
  | succ k ih => rw [List.replicate_succ, List.flatten_cons, ih]; simp [List.replicate_succ]
theorem out_le {segs : List Seg} (j : Nat) : (segOut (segs.take j)).length ≤ (segOut segs).length := by
  have e := congrArg segOut (List.take_append_drop j segs)
  have e2 : segOut (segs.take j ++ segs.drop j) = segOut (segs.take j) ++ segOut (segs.drop j) := by unfold segOut; exact List.flatMap_append
  rw [e2] at e
  have := congrArg List.length e
  rw [List.length_append] at this
  lia
section
variable {G : Gd} {n : Nat} {σ : St} {Q : V → St → Prop}
inductive RdJ (d : Array UInt8) (o : Addr) (segs : List Seg) (σ : St) (k : Nat) (lv : Lv) (σ' : St) : Prop where
  | mk (j : Nat) (h0 : lv "data" = some (.bytes d)) (h1 : lv "octets" = some (.ref o)) (h2 : lv "at" = some (.int (segCodes (segs.take j)).length)) (h3 : σ' o = some (.list ((segOut (segs.take j)).map V.int))) (h4 : j ≤ segs.length) (h5 : k = segs.length - j) (h6 : Ext σ σ') : RdJ d o segs σ k lv σ'
theorem c_run_decoded (H : Pr G) {b d : Array UInt8} {segs : List Seg} (hs : b.size ≤ 100) (hok : ∀ s ∈ segs, Seg.ok s) (ho : segOut segs = bInts b) (hd : bInts d = segCodes segs ++ [128]) (h : ∀ σ', Ext σ σ' → Q (.bytes b) σ') : Kp G (.ref 150) ∧ CallV G (n + 2) σ (.ref 150) [.bytes d] Q := by
  refine ⟨kp_run_decoded H, (in_run_decoded H fun L hf => ?_).call⟩
  have bl := bInts_len b
  have dl := bInts_len d
  have hcl := seg_len hok
  rw [ho, bl] at hcl
  rw [hd, List.length_append] at dl
  simp at dl
  walk_at "m_ev"
  refine ex_swap' ["octets", "at"] ?_ hf (by kernel_rfl)
  walk_at "m"
  refine ⟨sz (by simp), fun o hO => ?_⟩
  walk_at "m"
  refine ⟨sz (by simp), fun t ht => ⟨t, _, rfl, St.set_same _ _ _, rfl, fun lv₁ elv => ?_⟩⟩
  have l1 : lv₁ "data" = some (.bytes d) := by rw [elv]; kernel_rfl
  have l2 : lv₁ "octets" = some (.ref o) := by rw [elv]; kernel_rfl
  have l3 : lv₁ "at" = some (.int 0) := by rw [elv]; kernel_rfl
  clear elv
  walk_at "m"
  refine ex_while (RdJ d o segs σ) segs.length
    ⟨0, l1, l2, l3, ?_, Nat.zero_le _, rfl, ((Ext.refl _).more hO).more ht⟩ ?_
  · rw [St.set_ne _ _ (ne_of_some_none (St.set_same σ o _) ht)]; exact St.set_same _ _ _
  clear l1 l2 l3 ht
  rintro k lv₂ σ₂ ⟨j, l1, l2, l3, s1, hj, rfl, x2⟩
  have hle := out_le (segs := segs) j
  rw [ho, bl] at hle
  walk_at "m"
  refine call_len_bytes (by lia) ?_
  walk_at "m"
  by_cases hlt : j < segs.length
  · obtain ⟨s, hsj⟩ : ∃ s, segs[j]? = some s := ⟨_, List.getElem?_eq_getElem hlt⟩
    have sp := seg_split hsj
    have sok := hok s (List.mem_of_getElem? hsj)
    have spl := congrArg List.length sp
    rw [List.length_append, List.length_append] at spl
    have tk := take_snoc hsj
    have ol : (segOut (segs.take (j + 1))).length ≤ 100 := by have := out_le (segs := segs) (j + 1); rw [ho, bl] at this; lia
    rw [tk, segOut_snoc, List.length_append] at ol
    generalize hpre : segCodes (segs.take j) = pre at *
    generalize hpost : segCodes (segs.drop (j + 1)) = post at *
    have nx : segCodes (segs.take (j + 1)) = pre ++ s.codes := by rw [tk, segCodes_snoc, hpre]
    have nx2 : segOut (segs.take (j + 1)) = segOut (segs.take j) ++ s.out := by rw [tk, segOut_snoc]
    cases s with
    | row r =>
      have r1 : 0 < r.length := List.length_pos_iff.mpr sok.1
      have r2 := sok.2
      simp only [Seg.codes] at sp spl nx
      simp only [Seg.out] at nx2 ol
      obtain ⟨c, hc, hcv⟩ := bInts_at (d := d) (i := pre.length) (v := (r.length : Int) - 1) (by rw [hd, sp]; simp)
      refine if_dec (fun _ => ?_) fun q => absurd (by simp at spl; lia) q
      walk_at "m"
      refine item_bytes (c := c) (by lia) (by lia) (by rw [Int.toNat_natCast]; exact hc) ?_
      walk_at "m"
      rw [hcv]
      refine if_bool (fun _ => ?_) fun q => ?_
      · walk_at "m"
        refine item_bytes (c := c) (by lia) (by lia) (by rw [Int.toNat_natCast]; exact hc) ?_
        rw [hcv]
        walk_at "m"
        refine if_dec (fun _ => ?_) fun q => absurd (by lia) q
        walk_at "m"
        refine slice_bytes (.int _) (.int _) (sz (by lia)) ?_
        have e1 : (pre.length : Int) + 1 = ((pre ++ [(r.length : Int) - 1]).length : Int) := by simp
        have e2 : (pre.length : Int) + 2 + ((r.length : Int) - 1) = (((pre ++ [(r.length : Int) - 1]).length + r.length : Nat) : Int) := by simp; lia
        have hp := picked_ints (d := d) (pre := pre ++ [(r.length : Int) - 1]) (R := r) (post := post ++ [128]) (by rw [hd, sp]; simp)
        rw [e1, e2]
        generalize hpk : KBy.picked d _ _ = pk at hp
        have pl := bInts_len pk
        rw [hp] at pl
        walk_at "m"
        refine call_list_bytes (sz (by lia)) fun z hz => ?_
        rw [hp]
        walk_at "m"
        refine call_len_list (by walk_at "m_s") (sz (by rw [List.length_map]; lia)) ?_
        walk_at "m"
        refine if_dec (fun q => ?_) fun _ => ?_
        · rw [List.length_map] at q; lia
        walk_at "m"
        refine ⟨_, _, getm_extend (Gd.look_of (by walk_at "m_s")), ?_⟩
        walk_at "m"
        refine call_extend (by walk_at "m_s") (by walk_at "m_s") (sz (by rw [List.length_map, List.length_map]; lia)) ⟨rfl, ?_⟩
        rw [← List.map_append, ← nx2]
        walk_at "m"
        refine ⟨segs.length - (j + 1), by lia, j + 1, by walk_at "m_lv", by walk_at "m_lv", ?_, by walk_at "m_s", by lia, rfl, (x2.more hz).upd hO⟩
        rw [nx]
        refine lv_hitI ?_
        simp; lia
      · have q' : ((r.length : Int) - 1) = 128 := by simpa using q
        lia
    | run m v =>
      have r1 := sok.1
      have r2 := sok.2
      simp only [Seg.codes] at sp spl nx
      simp only [Seg.out] at nx2 ol
      obtain ⟨c, hc, hcv⟩ := bInts_at (d := d) (i := pre.length) (v := 257 - (m : Int)) (by rw [hd, sp]; simp)
      obtain ⟨c2, hc2, hcv2⟩ := bInts_at (d := d) (i := pre.length + 1) (v := v) (by rw [hd, sp]; simp)
      refine if_dec (fun _ => ?_) fun q => absurd (by simp at spl; lia) q
      walk_at "m"
      refine item_bytes (c := c) (by lia) (by lia) (by rw [Int.toNat_natCast]; exact hc) ?_
      walk_at "m"
      rw [hcv]
      refine if_bool (fun _ => ?_) fun q => ?_
      · walk_at "m"
        refine item_bytes (c := c) (by lia) (by lia) (by rw [Int.toNat_natCast]; exact hc) ?_
        rw [hcv]
        walk_at "m"
        refine if_dec (fun q => absurd q (by lia)) fun _ => ?_
        walk_at "m"
        refine call_len_bytes (by lia) ?_
        walk_at "m"
        refine if_bool (fun q => ?_) fun _ => ?_
        · have q' : (pre.length : Int) + 1 = d.size := by simpa using q
          simp at spl
          lia
        walk_at "m"
        refine ⟨_, _, getm_extend (Gd.look_of (by walk_at "m_s")), ?_⟩
        walk_at "m"
        refine item_bytes (c := c2) (by lia) (by lia) (by rw [show ((pre.length : Int) + 1).toNat = pre.length + 1 by lia]; exact hc2) ?_
        rw [hcv2]
        walk_at "m"
        refine ⟨sz (by simp), fun z hz => ?_⟩
        walk_at "m"
        have em : (257 - (257 - (m : Int))) = (m : Int) := by lia
        rw [em]
        refine bin_repeat (Gd.look_of (St.set_same _ _ _)) (by lia) (by lia) (by rw [Int.toNat_natCast]; simp; lia) fun u hu => ?_
        rw [Int.toNat_natCast, rep_one]
        walk_at "m"
        refine call_extend (by walk_at "m_s") (by walk_at "m_s") (sz (by rw [List.length_map, List.length_map]; lia)) ⟨rfl, ?_⟩
        rw [← List.map_append, ← nx2]
        walk_at "m"
        refine ⟨segs.length - (j + 1), by lia, j + 1, by walk_at "m_lv", by walk_at "m_lv", ?_, by walk_at "m_s", by lia, rfl, ((x2.more hz).more hu).upd hO⟩
        rw [nx]
        refine lv_hitI ?_
        simp
      · have q' : (257 - (m : Int)) = 128 := by simpa using q
        lia
  · have hje : j = segs.length := by lia
    subst hje
    rw [List.take_length] at s1 l3
    rw [List.take_length]
    obtain ⟨c, hc, hcv⟩ := bInts_at (d := d) (i := (segCodes segs).length) (v := 128) (by rw [hd]; simp)
    refine if_dec (fun _ => ?_) fun q => absurd (by lia) q
    walk_at "m"
    refine item_bytes (c := c) (by lia) (by lia) (by rw [Int.toNat_natCast]; exact hc) ?_
    rw [hcv]
    walk_at "m"
    refine if_bool (fun q => absurd q (by decide)) fun _ => ?_
    walk_at "m"
    rw [ho] at s1
    refine call_bytes (by walk_at "m_s") (bInts_range b) (sz (by lia)) ?_
    rw [byteArr_bInts]
    walk_at "m"
    exact h _ x2
end
set_option hygiene false
/-! base 85: the plain law -/
noncomputable def dg (m : Int) : Nat → Int → List Int
  | 0, _ => []
  | i + 1, t => t.fmod m :: dg m i (t.fdiv m)
noncomputable def tot (m : Int) (g : List Int) : Int := g.foldl (fun t o => m * t + o) 0
theorem tot_snoc (m : Int) (g : List Int) (x : Int) : tot m (g ++ [x]) = m * tot m g + x := by simp [tot]
noncomputable def pad (k : Nat) (z : Int) (g : List Int) : List Int := g ++ List.replicate (k - g.length) z
noncomputable def sgn (g : List Int) : List Int := (dg 85 5 (tot 256 (pad 4 0 g))).reverse
noncomputable def encG (g : List Int) : List Int := if g.length = 4 ∧ sgn g = [0, 0, 0, 0, 0] then [122] else ((sgn g).take (1 + g.length)).map fun s => 33 + s
noncomputable def og (S : List Int) : List Int := ((dg 256 4 (tot 85 (pad 5 84 S))).reverse).take (S.length - 1)
noncomputable def b85 : List Int → List Int
  | a :: b :: c :: d :: r => encG [a, b, c, d] ++ b85 r
  | [] => []
  | g => encG g
theorem b85_four (a b c d : Int) (r : List Int) : b85 (a :: b :: c :: d :: r) = encG [a, b, c, d] ++ b85 r := rfl
theorem b85_ind {P : List Int → Prop} (h4 : ∀ a b c d r, P r → P (a :: b :: c :: d :: r)) (h0 : P []) (h1 : ∀ a, P [a]) (h2 : ∀ a b, P [a, b]) (h3 : ∀ a b c, P [a, b, c]) (l : List Int) : P l := by
  have H : ∀ (k : Nat) (l : List Int), l.length ≤ k → P l := fun k => by
    induction k with
    | zero => intro l h; exact (List.eq_nil_of_length_eq_zero (Nat.le_zero.1 h)) ▸ h0
    | succ k ih =>
      intro l h
      rcases l with _ | ⟨a, _ | ⟨b, _ | ⟨c, _ | ⟨d, r⟩⟩⟩⟩
      · exact h0
      · exact h1 a
      · exact h2 a b
      · exact h3 a b c
      · exact h4 a b c d r (ih r (Nat.le_trans (Nat.le_add_right _ 3) (Nat.le_of_succ_le_succ h)))
  exact H _ l (Nat.le_refl _)
theorem b85_one {g : List Int} (h0 : g ≠ []) (h4 : g.length ≤ 4) : b85 g = encG g := by
  rcases g with _ | ⟨a, _ | ⟨b, _ | ⟨c, _ | ⟨d, _ | ⟨e, r⟩⟩⟩⟩⟩
  · exact absurd rfl h0
  · rfl
  · rfl
  · rfl
  · exact List.append_nil _
  · exact absurd h4 (by rw [List.length_cons, List.length_cons, List.length_cons, List.length_cons, List.length_cons]; lia)
theorem b85_app (y : List Int) (k : Nat) : ∀ x : List Int, x.length = 4 * k → b85 (x ++ y) = b85 x ++ b85 y := by
  induction k with
  | zero => intro x h; rw [List.eq_nil_of_length_eq_zero h]; rfl
  | succ k ih =>
    intro x h
    rcases x with _ | ⟨a, _ | ⟨b, _ | ⟨c, _ | ⟨d, r⟩⟩⟩⟩
    · cases h
    · exact absurd h (by rw [List.length_singleton]; lia)
    · exact absurd h (by rw [List.length_cons, List.length_singleton]; lia)
    · exact absurd h (by rw [List.length_cons, List.length_cons, List.length_singleton]; lia)
    · show encG _ ++ b85 (r ++ y) = encG _ ++ b85 r ++ b85 y
      rw [ih r (by rw [List.length_cons, List.length_cons, List.length_cons, List.length_cons] at h; lia), List.append_assoc]
theorem b85_take {l : List Int} {i : Nat} (h : 4 * i < l.length) : b85 (l.take (4 * (i + 1))) = b85 (l.take (4 * i)) ++ encG ((l.drop (4 * i)).take 4) := by
  have e1 : b85 ((l.drop (4 * i)).take 4) = encG ((l.drop (4 * i)).take 4) := b85_one (fun e => by
    have := congrArg List.length e
    rw [List.length_take, List.length_drop, List.length_nil] at this
    lia) (by rw [List.length_take]; exact Nat.min_le_left _ _)
  rw [show 4 * (i + 1) = 4 * i + 4 from rfl, List.take_add, b85_app _ i _ (by rw [List.length_take]; exact Nat.min_eq_left (Nat.le_of_lt h)), e1]
noncomputable def W (l : List Int) : List Int → List Int → List Int → Prop
  | O, S, [] => (S = [] ∧ O = l) ∨ (2 ≤ S.length ∧ S.length ≤ 4 ∧ (∀ s ∈ S, 0 ≤ s ∧ s ≤ 84) ∧ tot 85 (pad 5 84 S) ≤ 4294967295 ∧ O ++ og S = l)
  | O, S, c :: r => (c = 122 ∧ S = [] ∧ W l (O ++ [0, 0, 0, 0]) [] r) ∨ (33 ≤ c ∧ c ≤ 117 ∧ (∀ s ∈ S, 0 ≤ s ∧ s ≤ 84) ∧
      ((S.length = 4 ∧ tot 85 (pad 5 84 (S ++ [c - 33])) ≤ 4294967295 ∧ W l (O ++ og (S ++ [c - 33])) [] r) ∨ (S.length < 4 ∧ W l O (S ++ [c - 33]) r)))
theorem fdiv85 (t : Int) : t.fdiv 85 = t / 85 := Int.fdiv_eq_ediv_of_nonneg t (by decide)
theorem fmod85 (t : Int) : t.fmod 85 = t % 85 := Int.fmod_eq_emod_of_nonneg t (by decide)
theorem fm85 (t : Int) : 0 ≤ t.fmod 85 ∧ t.fmod 85 ≤ 84 := by rw [fmod85]; lia
theorem dn85 {t k : Int} (h : 0 ≤ t ∧ t < 85 * k) : 0 ≤ t.fdiv 85 ∧ t.fdiv 85 < k := by rw [fdiv85]; lia
/-- the five figures of a total -/
inductive Five (t : Int) : Prop where
  | mk (s0 s1 s2 s3 s4 : Int) (e : (dg 85 5 t).reverse = [s0, s1, s2, s3, s4]) (h0 : 0 ≤ s0 ∧ s0 ≤ 84) (h1 : 0 ≤ s1 ∧ s1 ≤ 84) (h2 : 0 ≤ s2 ∧ s2 ≤ 84) (h3 : 0 ≤ s3 ∧ s3 ≤ 84) (h4 : 0 ≤ s4 ∧ s4 ≤ 84) (eq : t = 85 * (85 * (85 * (85 * s0 + s1) + s2) + s3) + s4) : Five t
theorem five (t : Int) (h : 0 ≤ t ∧ t < 4294967296) : Five t := by
  have b := dn85 (k := 85) (dn85 (k := 7225) (dn85 (k := 614125) (dn85 (k := 52200625) ⟨h.1, Int.lt_trans h.2 (by decide)⟩)))
  refine ⟨_, _, _, _, _, rfl, fm85 _, fm85 _, fm85 _, fm85 _, fm85 _, ?_⟩
  rw [fmod85 (((t.fdiv 85).fdiv 85).fdiv 85 |>.fdiv 85), Int.emod_eq_of_lt b.1 b.2, Int.mul_fdiv_add_fmod, Int.mul_fdiv_add_fmod, Int.mul_fdiv_add_fmod, Int.mul_fdiv_add_fmod]
theorem dg_cons {x d : Int} (i : Nat) (h : 0 ≤ d ∧ d < 256) : dg 256 (i + 1) (256 * x + d) = d :: dg 256 i x := by
  show (256 * x + d).fmod 256 :: dg 256 i ((256 * x + d).fdiv 256) = _
  rw [Int.fmod_eq_emod_of_nonneg _ (by decide), Int.fdiv_eq_ediv_of_nonneg _ (by decide), show (256 * x + d) % 256 = d by lia, show (256 * x + d) / 256 = x by lia]
theorem four (t a b c d : Int) (ha : 0 ≤ a ∧ a < 256) (hb : 0 ≤ b ∧ b < 256) (hc : 0 ≤ c ∧ c < 256) (hd : 0 ≤ d ∧ d < 256) (ht : t = 256 * (256 * (256 * a + b) + c) + d) : (dg 256 4 t).reverse = [a, b, c, d] := by
  have e : dg 256 1 a = [a] := by have := dg_cons (x := 0) 0 ha; rwa [Int.mul_zero, Int.zero_add] at this
  rw [ht, dg_cons 3 hd, dg_cons 2 hc, dg_cons 1 hb, e]; rfl
theorem tot_cons (m x : Int) (g : List Int) : tot m (x :: g) = g.foldl (fun t o => m * t + o) x := by show List.foldl _ (m * 0 + x) g = _; rw [Int.mul_zero, Int.zero_add]
theorem W_one {l O S r : List Int} {s : Int} (hS : ∀ x ∈ S, 0 ≤ x ∧ x ≤ 84) (h : 0 ≤ s ∧ s ≤ 84) (hl : S.length < 4) (k : (∀ x ∈ S ++ [s], 0 ≤ x ∧ x ≤ 84) → W l O (S ++ [s]) r) : W l O S ((33 + s) :: r) := by
  refine .inr ⟨by lia, by lia, hS, .inr ⟨hl, ?_⟩⟩
  rw [show 33 + s - 33 = s by lia]
  exact k fun x hx => (List.mem_append.1 hx).elim (hS x) fun hx => List.mem_singleton.1 hx ▸ h
theorem no_sign : ∀ x ∈ ([] : List Int), 0 ≤ x ∧ x ≤ 84 := fun _ h => nomatch h
theorem W_full {l O r : List Int} {a b c d : Int} (ha : 0 ≤ a ∧ a < 256) (hb : 0 ≤ b ∧ b < 256) (hc : 0 ≤ c ∧ c < 256) (hd : 0 ≤ d ∧ d < 256) (h : W l (O ++ [a, b, c, d]) [] r) : W l O [] (encG [a, b, c, d] ++ r) := by
  have et : tot 256 (pad 4 0 [a, b, c, d]) = 256 * (256 * (256 * a + b) + c) + d := tot_cons 256 a [b, c, d]
  obtain ⟨s0, s1, s2, s3, s4, e, h0, h1, h2, h3, h4, eq⟩ := five (tot 256 (pad 4 0 [a, b, c, d])) (by rw [et]; lia)
  rw [et] at eq
  have es : sgn [a, b, c, d] = [s0, s1, s2, s3, s4] := e
  unfold encG
  rw [es]
  by_cases hz : [a, b, c, d].length = 4 ∧ [s0, s1, s2, s3, s4] = [0, 0, 0, 0, 0]
  · rw [if_pos hz]
    injection hz.2 with z0 z; injection z with z1 z; injection z with z2 z; injection z with z3 z; injection z with z4 z
    rw [z0, z1, z2, z3, z4] at eq
    have e0 : [0, 0, 0, 0] = [a, b, c, d] := four 0 a b c d ha hb hc hd eq.symm
    rw [← e0] at h
    exact .inl ⟨rfl, rfl, h⟩
  · rw [if_neg hz]
    have eT : tot 85 (pad 5 84 [s0, s1, s2, s3, s4]) = 85 * (85 * (85 * (85 * s0 + s1) + s2) + s3) + s4 := tot_cons 85 s0 [s1, s2, s3, s4]
    have eog : og [s0, s1, s2, s3, s4] = [a, b, c, d] := by
      unfold og
      rw [eT, four _ a b c d ha hb hc hd eq.symm]
      rfl
    refine W_one no_sign h0 (by decide) fun k => W_one k h1 (Nat.lt_of_sub_pos (by exact Nat.succ_pos 2)) fun k => W_one k h2 (Nat.lt_of_sub_pos (by exact Nat.succ_pos 1)) fun k => W_one k h3 (Nat.lt_of_sub_pos (by exact Nat.succ_pos 0)) fun k => ?_
    refine .inr ⟨by lia, by lia, k, .inl ⟨rfl, ?_⟩⟩
    rw [show 33 + s4 - 33 = s4 by lia]
    refine ⟨?_, ?_⟩
    · refine Int.le_trans (Int.le_of_eq eT) ?_
      lia
    · show W l (O ++ og [s0, s1, s2, s3, s4]) [] r
      rw [eog]
      exact h
theorem two_of (x : Int) (h : 0 ≤ x ∧ x < 65536) : ∃ c d : Int, (0 ≤ c ∧ c < 256) ∧ (0 ≤ d ∧ d < 256) ∧ x = 256 * c + d := ⟨x / 256, x % 256, by lia, by lia, by lia⟩
theorem og_of {S g : List Int} {T : Int} (eT : tot 85 (pad 5 84 S) = T) (a b c d : Int) (ha : 0 ≤ a ∧ a < 256) (hb : 0 ≤ b ∧ b < 256) (hc : 0 ≤ c ∧ c < 256) (hd : 0 ≤ d ∧ d < 256) (ht : T = 256 * (256 * (256 * a + b) + c) + d) (hg : [a, b, c, d].take (S.length - 1) = g) : og S = g ∧ tot 85 (pad 5 84 S) ≤ 4294967295 := by
  refine ⟨?_, by rw [eT, ht]; lia⟩
  unfold og
  rw [eT, four _ a b c d ha hb hc hd ht]
  exact hg
theorem W_part1 {l O : List Int} {a : Int} (ha : 0 ≤ a ∧ a < 256) (h : O ++ [a] = l) : W l O [] (encG [a]) := by
  have et : tot 256 (pad 4 0 [a]) = 256 * (256 * (256 * a + 0) + 0) + 0 := tot_cons 256 a [0, 0, 0]
  obtain ⟨s0, s1, s2, s3, s4, e, h0, h1, h2, h3, h4, eq⟩ := five (tot 256 (pad 4 0 [a])) (by rw [et]; lia)
  rw [et] at eq
  have es : sgn [a] = [s0, s1, s2, s3, s4] := e
  unfold encG
  rw [es, if_neg fun z => nomatch z.1]
  have eT : tot 85 (pad 5 84 [s0, s1]) = 85 * (85 * (85 * (85 * s0 + s1) + 84) + 84) + 84 := tot_cons 85 s0 [s1, 84, 84, 84]
  obtain ⟨y, d, hy, hd, ey⟩ : ∃ y d : Int, (0 ≤ y ∧ y < 65536) ∧ (0 ≤ d ∧ d < 256) ∧ 85 * (85 * (85 * (85 * s0 + s1) + 84) + 84) + 84 = 256 * (65536 * a + y) + d := ⟨(85 * (85 * (84 - s2) + (84 - s3)) + (84 - s4)) / 256, (85 * (85 * (84 - s2) + (84 - s3)) + (84 - s4)) % 256, by lia, by lia, by lia⟩
  obtain ⟨b, c, hb, hc, rfl⟩ := two_of y hy
  obtain ⟨eg, le⟩ := og_of eT a b c d ha hb hc hd (by lia) rfl
  refine W_one no_sign h0 (by decide) fun k => W_one k h1 (Nat.lt_of_sub_pos (by exact Nat.succ_pos 2)) fun k => .inr ⟨Nat.le_refl 2, Nat.le_add_right 2 2, k, le, ?_⟩
  exact (congrArg (O ++ ·) eg).trans h
theorem W_part2 {l O : List Int} {a b : Int} (ha : 0 ≤ a ∧ a < 256) (hb : 0 ≤ b ∧ b < 256) (h : O ++ [a, b] = l) : W l O [] (encG [a, b]) := by
  have et : tot 256 (pad 4 0 [a, b]) = 256 * (256 * (256 * a + b) + 0) + 0 := tot_cons 256 a [b, 0, 0]
  obtain ⟨s0, s1, s2, s3, s4, e, h0, h1, h2, h3, h4, eq⟩ := five (tot 256 (pad 4 0 [a, b])) (by rw [et]; lia)
  rw [et] at eq
  have es : sgn [a, b] = [s0, s1, s2, s3, s4] := e
  unfold encG
  rw [es, if_neg fun z => nomatch z.1]
  have eT : tot 85 (pad 5 84 [s0, s1, s2]) = 85 * (85 * (85 * (85 * s0 + s1) + s2) + 84) + 84 := tot_cons 85 s0 [s1, s2, 84, 84]
  obtain ⟨c, d, hc, hd, ey⟩ := two_of (85 * (84 - s3) + (84 - s4)) (by lia)
  obtain ⟨eg, le⟩ := og_of eT a b c d ha hb hc hd (by lia) rfl
  refine W_one no_sign h0 (by decide) fun k => W_one k h1 (Nat.lt_of_sub_pos (by exact Nat.succ_pos 2)) fun k => W_one k h2 (Nat.lt_of_sub_pos (by exact Nat.succ_pos 1)) fun k => .inr ⟨Nat.le_add_right 2 1, Nat.le_add_right 3 1, k, le, ?_⟩
  exact (congrArg (O ++ ·) eg).trans h
theorem W_part3 {l O : List Int} {a b c : Int} (ha : 0 ≤ a ∧ a < 256) (hb : 0 ≤ b ∧ b < 256) (hc : 0 ≤ c ∧ c < 256) (h : O ++ [a, b, c] = l) : W l O [] (encG [a, b, c]) := by
  have et : tot 256 (pad 4 0 [a, b, c]) = 256 * (256 * (256 * a + b) + c) + 0 := tot_cons 256 a [b, c, 0]
  obtain ⟨s0, s1, s2, s3, s4, e, h0, h1, h2, h3, h4, eq⟩ := five (tot 256 (pad 4 0 [a, b, c])) (by rw [et]; lia)
  rw [et] at eq
  have es : sgn [a, b, c] = [s0, s1, s2, s3, s4] := e
  unfold encG
  rw [es, if_neg fun z => nomatch z.1]
  have eT : tot 85 (pad 5 84 [s0, s1, s2, s3]) = 85 * (85 * (85 * (85 * s0 + s1) + s2) + s3) + 84 := tot_cons 85 s0 [s1, s2, s3, 84]
  obtain ⟨eg, le⟩ := og_of eT a b c (84 - s4) ha hb hc (by lia) (by lia) rfl
  refine W_one no_sign h0 (by decide) fun k => W_one k h1 (Nat.lt_of_sub_pos (by exact Nat.succ_pos 2)) fun k => W_one k h2 (Nat.lt_of_sub_pos (by exact Nat.succ_pos 1)) fun k => W_one k h3 (Nat.lt_of_sub_pos (by exact Nat.succ_pos 0)) fun k => .inr ⟨Nat.le_add_right 2 2, Nat.le_refl 4, k, le, ?_⟩
  exact (congrArg (O ++ ·) eg).trans h
theorem W_all {l : List Int} (x : List Int) : ∀ (O : List Int), O ++ x = l → (∀ z ∈ x, 0 ≤ z ∧ z < 256) → W l O [] (b85 x) := by
  have h0 : ∀ {a : Int} {r : List Int}, (∀ z ∈ a :: r, 0 ≤ z ∧ z < 256) → (0 ≤ a ∧ a < 256) ∧ ∀ z ∈ r, 0 ≤ z ∧ z < 256 := fun h => ⟨h _ (.head _), fun z hz => h z (.tail _ hz)⟩
  refine b85_ind (P := fun x => ∀ (O : List Int), O ++ x = l → (∀ z ∈ x, 0 ≤ z ∧ z < 256) → W l O [] (b85 x)) ?_ ?_ ?_ ?_ ?_ x
  · intro a b c d r ih O h hx
    have ⟨ha, hx⟩ := h0 hx; have ⟨hb, hx⟩ := h0 hx; have ⟨hc, hx⟩ := h0 hx; have ⟨hd, hx⟩ := h0 hx
    exact W_full ha hb hc hd (ih _ ((List.append_assoc _ _ _).trans h) hx)
  · intro O h hx; exact .inl ⟨rfl, (List.append_nil _).symm.trans h⟩
  · intro a O h hx; exact W_part1 (h0 hx).1 h
  · intro a b O h hx; exact W_part2 (h0 hx).1 (h0 (h0 hx).2).1 h
  · intro a b c O h hx; exact W_part3 (h0 hx).1 (h0 (h0 hx).2).1 (h0 (h0 (h0 hx).2).2).1 h
set_option hygiene false
theorem picked_gen (d : Array UInt8) (lo hi : Nat) (h : lo ≤ hi) : bInts (KBy.picked d (some (lo : Int)) (some (hi : Int))) = ((bInts d).drop lo).take (hi - lo) := by
  have := KBc.ints_picked (b := d) (ks := bInts d) rfl (some (lo : Int)) (some (hi : Int))
  have e : bInts (KBy.picked d (some (lo : Int)) (some (hi : Int))) = KBw.bInts (KBy.picked d (some (lo : Int)) (some (hi : Int))) := rfl
  rw [e, this]
  simp only [Option.elim]
  rw [clipAt_nat, clipAt_nat]
  apply List.ext_getElem?
  intro j
  rw [List.getElem?_take, List.getElem?_take, List.getElem?_drop, List.getElem?_drop]
  have hn : ∀ k, (bInts d).length ≤ k → (bInts d)[k]? = none := fun k hk => List.getElem?_eq_none hk
  by_cases h1 : lo < (bInts d).length
  · rw [Nat.min_eq_left (by lia : lo ≤ (bInts d).length)]
    split <;> split <;> first | rfl | (exfalso; omega) | (symm; exact hn _ (by omega)) | exact hn _ (by omega)
  · split <;> split <;> first | rfl | (rw [hn _ (by lia), hn _ (by lia)]) | (symm; exact hn _ (by lia)) | exact hn _ (by lia)
theorem size_four (k : Nat) : Builtin.Range.rangeSize 0 (k : Int) 4 = (((k + 3) / 4 : Nat) : Int) := by
  unfold Builtin.Range.rangeSize
  rw [if_pos (by decide)]
  split <;> lia
theorem small_four {k : Nat} (h : k ≤ 1000) : Builtin.Range.small 0 (k : Int) 4 = true :=
  (by decide +kernel : ∀ k : Fin 1001, Builtin.Range.small 0 (k.val : Int) 4 = true) ⟨k, Nat.lt_succ_of_le h⟩
theorem dg_len (m : Int) (k : Nat) : ∀ (t : Int), (dg m k t).length = k := by
  induction k with
  | zero => exact fun _ => rfl
  | succ k ih => exact fun t => congrArg (· + 1) (ih _)
theorem dg_range (k : Nat) : ∀ (t : Int), ∀ z ∈ dg 85 k t, 0 ≤ z ∧ z < 85 := by
  induction k with
  | zero => intro t z hz; cases hz
  | succ k ih =>
    intro t z hz
    rcases List.mem_cons.mp hz with rfl | q
    · rw [fmod85]; lia
    · exact ih _ z q
theorem encG_range' (g : List Int) : ∀ z ∈ encG g, 0 ≤ z ∧ z < 256 := by
  intro z hz
  unfold encG at hz
  split at hz
  · rw [List.mem_singleton.mp hz]; decide
  · obtain ⟨s, hs, rfl⟩ := List.mem_map.mp hz
    have := dg_range 5 _ s (List.mem_reverse.mp (List.mem_of_mem_take hs))
    lia
theorem encG_range {g : List Int} (_ : ∀ z ∈ g, 0 ≤ z ∧ z < 256) : ∀ z ∈ encG g, 0 ≤ z ∧ z < 256 := encG_range' g
theorem encG_len (g : List Int) : (encG g).length ≤ 5 := by
  unfold encG
  split
  · simp
  · rw [List.length_map, List.length_take]
    have : (sgn g).length = 5 := by unfold sgn; rw [List.length_reverse, dg_len]
    lia
theorem b85_len (l : List Int) : (b85 l).length ≤ 5 * l.length := by
  refine b85_ind (P := fun l => (b85 l).length ≤ 5 * l.length) (fun a b c d r ih => ?_) (Nat.le_refl 0) (fun a => encG_len [a]) (fun a b => Nat.le_trans (encG_len [a, b]) (Nat.le_add_right 5 5)) (fun a b c => Nat.le_trans (encG_len [a, b, c]) (Nat.le_add_right 5 10)) l
  have := encG_len [a, b, c, d]
  rw [b85_four, List.length_append, List.length_cons, List.length_cons, List.length_cons, List.length_cons]
  lia
theorem b85_range {l : List Int} (_ : ∀ z ∈ l, 0 ≤ z ∧ z < 256) : ∀ z ∈ b85 l, 0 ≤ z ∧ z < 256 := by
  have e : ∀ g : List Int, ∀ z ∈ encG g, 0 ≤ z ∧ z < 256 := fun g => encG_range' g
  exact b85_ind (P := fun l => ∀ z ∈ b85 l, 0 ≤ z ∧ z < 256) (fun a b c d r ih z hz => (List.mem_append.1 hz).elim (e _ z) (ih z)) (fun z hz => nomatch hz) (fun a => e _) (fun a b => e _) (fun a b c => e _) l
section
variable {G : Gd} {n : Nat} {σ : St} {Q : V → St → Prop}
inductive SgJ (s : Addr) (g : List Int) (σ : St) (i : Nat) (lv : Lv) (σ' : St) : Prop where
  | mk (T : Int) (S : List Int) (h0 : lv "signs" = some (.ref s)) (h1 : lv "total" = some (.int T)) (h2 : σ' s = some (.list (S.map V.int))) (h3 : S.length = i) (h4 : S ++ dg 85 (5 - i) T = dg 85 5 (tot 256 g)) (h5 : Ext σ σ') : SgJ s g σ i lv σ'
theorem c_signs (H : Pr G) {a : Addr} {g : List Int} (ha : σ a = some (.list (g.map V.int))) (_ : g.length ≤ 1000) (h : ∀ r σ', Ext σ σ' → σ r = none → σ' r = some (.list ((dg 85 5 (tot 256 g)).reverse.map V.int)) → Q (.ref r) σ') : Kp G (.ref 96) ∧ CallV G (n + 1) σ (.ref 96) [.ref a] Q := by
  refine ⟨kp_signs_of_group H, (in_signs_of_group H fun L hf => ?_).call⟩
  walk_at "mi"
  refine for_list ?_
  walk_at "m"
  refine ⟨a, g.map V.int, fun i lv σ' => lv "total" = some (.int (tot 256 (g.take i))) ∧ σ = σ', rfl, fun i lv₂ σ₂ hj => hj.2 ▸ ha, ha, ⟨lv_hitI rfl, rfl⟩, ?_, ?_⟩
  · rintro i x lv₂ _ hx ⟨l1, rfl⟩
    rw [List.getElem?_map] at hx
    obtain ⟨k, hk, rfl⟩ := Option.map_eq_some_iff.mp hx
    walk_at "m"
    refine bin_mul (intMulOk_left (by decide)) ?_
    walk_at "m"
    refine ⟨?_, rfl⟩
    rw [take_snoc hk, tot_snoc]
    walk_at "m_lv"
  · rintro lv₂ _ ⟨l1, rfl⟩
    rw [List.length_map, List.take_length] at l1
    walk_at "mi"
    refine ⟨sz (by simp), fun s hs => ?_⟩
    walk_at "mi"
    refine for_range ?_
    walk_at "m"
    refine call_range1 fun r hr => ?_
    refine ⟨r, 0, 5, 1, 5, SgJ s g σ, rfl, St.set_same _ _ _, by decide, by decide,
      ⟨tot 256 g, [], by walk_at "m_lv", by walk_at "m_lv", ?_, rfl, rfl, ((Ext.refl _).more hs).more hr⟩, ?_, ?_⟩
    · rw [St.set_ne _ _ (ne_of_some_none (St.set_same _ s _) hr)]; exact St.set_same _ _ _
    · rintro i lv₃ σ₃ hi ⟨T, S, l2, l3, s1, s2, s3, x3⟩
      have e : 5 - i = (5 - (i + 1)) + 1 := by lia
      rw [e] at s3
      walk_at "m"
      refine ⟨_, _, getm_append (Gd.look_of s1), ?_⟩
      walk_at "m"
      refine bin_mod (by decide) ?_
      walk_at "m"
      refine call_append (by walk_at "m_s") (sz (by rw [List.length_map]; lia)) ⟨rfl, ?_⟩
      rw [map_snoc]
      walk_at "m"
      refine bin_floordiv (by decide) (by decide) ?_
      walk_at "m"
      refine ⟨T.fdiv 85, S ++ [T.fmod 85], by walk_at "m_lv", by walk_at "m_lv", by walk_at "m_s", by simp [s2], ?_, x3.upd hs⟩
      rw [← s3, dg]; simp
    · rintro lv₃ σ₃ ⟨T, S, l2, l3, s1, s2, s3, x3⟩
      have e : S = dg 85 5 (tot 256 g) := by rw [← s3]; simp [dg]
      subst e
      walk_at "m"
      refine slice_list (by walk_at "m_s") .none .none (.int _) (by decide) (sz (by simp; lia)) fun u hu => ?_
      rw [vpick_rev, ← List.map_reverse]
      walk_at "m"
      exact h u _ (x3.more hu) (x3.no hu) (St.set_same _ _ _)
inductive OgJ (s : Addr) (S : List Int) (σ : St) (i : Nat) (lv : Lv) (σ' : St) : Prop where
  | mk (T : Int) (R : List Int) (h0 : lv "octets" = some (.ref s)) (h1 : lv "missing" = some (.int (5 - S.length))) (h2 : lv "total" = some (.int T)) (h3 : σ' s = some (.list (R.map V.int))) (h4 : R.length = i) (h5 : R ++ dg 256 (4 - i) T = dg 256 4 (tot 85 (pad 5 84 S))) (h6 : Ext σ σ') : OgJ s S σ i lv σ'
theorem c_octets_of_group (H : Pr G) {a : Addr} {S : List Int} {v : V} (ha : σ a = some (.list (S.map V.int))) (h2 : 2 ≤ S.length) (h5 : S.length ≤ 5) (hT : tot 85 (pad 5 84 S) ≤ 4294967295) (h : ∀ r σ', Ext σ σ' → σ r = none → σ' r = some (.list ((og S).map V.int)) → Q (.ref r) σ') : Kp G (.ref 108) ∧ CallV G (n + 1) σ (.ref 108) [.ref a, v] Q := by
  refine ⟨kp_octets_of_group H, (in_octets_of_group H fun L hf => ?_).call⟩
  walk_at "m"
  refine call_len_list (by walk_at "m_s") (sz (by rw [List.length_map]; lia)) ?_
  walk_at "mi"
  rw [List.length_map]
  refine for_list ?_
  walk_at "m"
  refine ⟨sz (by simp), fun z hz => ?_⟩
  walk_at "m"
  refine bin_repeat (Gd.look_of (St.set_same _ _ _)) (by lia) (by lia) (by simp; lia) fun u hu => ?_
  rw [rep_one]
  refine bin_concat (by walk_at "m_s") (by walk_at "m_s") (sz (by rw [List.length_map, List.length_map]; simp; lia)) fun w hw => ?_
  have ep : (S.map V.int) ++ (List.replicate (5 - (S.length : Int)).toNat 84).map V.int = (pad 5 84 S).map V.int := by
    unfold pad; rw [← List.map_append, show (5 - (S.length : Int)).toNat = 5 - S.length by lia]
  rw [ep]
  have x0 := (((Ext.refl σ).more (o := .list [V.int 84]) hz).more hu).more (o := .list ((pad 5 84 S).map V.int)) hw
  refine ⟨w, (pad 5 84 S).map V.int, fun i lv σ' => lv "total" = some (.int (tot 85 ((pad 5 84 S).take i))) ∧ lv "missing" = some (.int (5 - S.length)) ∧ σ' w = some (.list ((pad 5 84 S).map V.int)) ∧ Ext σ σ', rfl, fun i lv₂ σ₂ hj => hj.2.2.1, St.set_same _ _ _, ⟨lv_hitI rfl, by walk_at "m_lv", St.set_same _ _ _, x0⟩, ?_, ?_⟩
  · rintro i x lv₂ σ₂ hx ⟨l1, l2, s1, x2⟩
    rw [List.getElem?_map] at hx
    obtain ⟨k, hk, rfl⟩ := Option.map_eq_some_iff.mp hx
    walk_at "m"
    refine bin_mul (intMulOk_left (by decide)) ?_
    walk_at "m"
    refine ⟨?_, by walk_at "m_lv", s1, x2⟩
    rw [take_snoc hk, tot_snoc]
    walk_at "m_lv"
  · rintro lv₂ σ₂ ⟨l1, l2, s1, x2⟩
    rw [List.length_map, List.take_length] at l1
    clear x0
    walk_at "m"
    refine if_dec (fun q => absurd hT (by lia)) fun _ => ?_
    walk_at "mi"
    refine ⟨sz (by simp), fun s hs => ?_⟩
    walk_at "mi"
    refine for_range ?_
    walk_at "m"
    refine call_range1 fun r hr => ?_
    refine ⟨r, 0, 4, 1, 4, OgJ s S σ, rfl, St.set_same _ _ _, by decide, by decide,
      ⟨_, [], by walk_at "m_lv", by walk_at "m_lv", by walk_at "m_lv", ?_, rfl, rfl, (x2.more hs).more hr⟩, ?_, ?_⟩
    · rw [St.set_ne _ _ (ne_of_some_none (St.set_same _ s _) hr)]; exact St.set_same _ _ _
    · rintro i lv₃ σ₃ hi ⟨T, R, l2, l4, l3, s1, s2, s3, x3⟩
      have e : 4 - i = (4 - (i + 1)) + 1 := by lia
      rw [e] at s3
      walk_at "m"
      refine ⟨_, _, getm_append (Gd.look_of s1), ?_⟩
      walk_at "m"
      refine bin_mod (by decide) ?_
      walk_at "m"
      refine call_append (by walk_at "m_s") (sz (by rw [List.length_map]; lia)) ⟨rfl, ?_⟩
      rw [map_snoc]
      walk_at "m"
      refine bin_floordiv (by decide) (by decide) ?_
      walk_at "m"
      refine ⟨T.fdiv 256, R ++ [T.fmod 256], by walk_at "m_lv", by walk_at "m_lv", by walk_at "m_lv", by walk_at "m_s", by simp [s2], ?_, x3.upd (x2.no hs)⟩
      rw [← s3, dg]; simp
    · rintro lv₃ σ₃ ⟨T, R, l2, l4, l3, s1, s2, s3, x3⟩
      have e : R = dg 256 4 (tot 85 (pad 5 84 S)) := by rw [← s3]; simp [dg]
      subst e
      walk_at "m"
      refine slice_list (by walk_at "m_s") .none .none (.int _) (by decide) (sz (by simp; lia)) fun u hu => ?_
      rw [vpick_rev, ← List.map_reverse]
      walk_at "m"
      have e2 : (4 - (5 - (S.length : Int))) = ((S.length - 1 : Nat) : Int) := by lia
      rw [e2]
      refine slice_list (Gd.look_of (St.set_same _ _ _)) .none (.int _) .none (by decide) (sz (by simp; lia)) fun y hy => ?_
      rw [vpick_take_any, ← List.map_take]
      walk_at "m"
      exact h y _ ((x3.more hu).more hy) ((x3.more hu).no hy) (St.set_same _ _ _)
theorem c_is_end_at (H : Pr G) {d : Array UInt8} {i : Nat} (hs : d.size ≤ 1000) (hd : (bInts d)[i + 1]? = some 62) (h : ∀ σ', Ext σ σ' → Q (.bool true) σ') : Kp G (.ref 115) ∧ CallV G (n + 1) σ (.ref 115) [.bytes d, .int i] Q := by
  refine ⟨kp_is_end_at H, (in_is_end_at H fun L hf => ?_).call⟩
  obtain ⟨c, hc, hv⟩ := bInts_at hd
  have hi : i + 1 < d.size := by
    rcases Nat.lt_or_ge (i + 1) d.size with q | q
    · exact q
    · rw [Array.getElem?_eq_none q] at hc; cases hc
  walk_at "m_ev"
  refine for_range ?_
  walk_at "m"
  refine call_len_bytes (by lia) ?_
  walk_at "m"
  refine call_range2 fun r hr => ?_
  refine ⟨r, (i : Int) + 1, d.size, 1, d.size - (i + 1), fun k lv σ' => k = 0 ∧ lv "data" = some (.bytes d) ∧ Ext σ σ', rfl, St.set_same _ _ _, small_one (by lia) (by lia) (by lia) (by lia), by rw [rangeSize_one, if_pos (by lia)]; lia,
    ⟨rfl, by walk_at "m_lv", (Ext.refl _).more hr⟩, ?_, ?_⟩
  · rintro k lv₂ σ₂ hk ⟨rfl, l1, x2⟩
    walk_at "m"
    refine item_bytes (c := c) (by lia) (by lia) (by rw [show ((i : Int) + 1 + ((0 : Nat) : Int) * 1).toNat = i + 1 by lia]; exact hc) ?_
    rw [hv]
    walk_at "m"
    refine if_bool (fun _ => ?_) fun q => absurd q (by decide)
    walk_at "m"
    exact h _ x2
  · rintro lv₂ σ₂ ⟨q, _, _⟩
    lia
theorem c_base85_encoded (H : Pr G) {b : Array UInt8} (hs : b.size ≤ 100) (h : ∀ σ', Ext σ σ' → Q (.bytes (byteArr (b85 (bInts b) ++ [126, 62]))) σ') : Kp G (.ref 101) ∧ CallV G (n + 2) σ (.ref 101) [.bytes b] Q := by
  refine ⟨kp_base85_encoded H, (in_base85_encoded H fun L hf => ?_).call⟩
  have bl := bInts_len b
  have her := fun g gr => encG_range (g := g) gr
  have hbr := b85_range (l := bInts b) (bInts_range b)
  have hcl : ∀ k, (b85 ((bInts b).take k)).length ≤ 1000 := fun k => by have := b85_len ((bInts b).take k); rw [List.length_take] at this; lia
  walk_at "mi"
  refine ⟨sz (by simp), fun c hc => ?_⟩
  walk_at "mi"
  refine for_range ?_
  walk_at "m"
  refine call_len_bytes (by lia) ?_
  walk_at "m"
  refine call_range3 (by decide) (by decide) fun r hr => ?_
  refine ⟨r, 0, b.size, 4, (b.size + 3) / 4, fun i lv σ' => lv "octets" = some (.bytes b) ∧ lv "codes" = some (.ref c) ∧ σ' c = some (.list ((b85 ((bInts b).take (4 * i))).map V.int)) ∧ Ext σ σ', rfl, St.set_same _ _ _, small_four (by lia), size_four _,
    ⟨by walk_at "m_lv", by walk_at "m_lv", ?_, ((Ext.refl _).more hc).more hr⟩, ?_, ?_⟩
  · rw [St.set_ne _ _ (ne_of_some_none (St.set_same _ c _) hr)]; exact St.set_same _ _ _
  · rintro i lv₂ σ₂ hi ⟨l1, l2, s1, x2⟩
    have hi4 : 4 * i < (bInts b).length := by lia
    have tk := b85_take hi4
    have ea : ((0 : Int) + (i : Int) * 4) = ((4 * i : Nat) : Int) := by lia
    rw [ea]
    have pk := picked_gen b (4 * i) (4 * i + 4) (by lia)
    rw [show 4 * i + 4 - 4 * i = 4 by lia] at pk
    generalize hg : ((bInts b).drop (4 * i)).take 4 = g at tk pk
    have gl : g.length = min 4 (b.size - 4 * i) := by rw [← hg, List.length_take, List.length_drop, bl]
    have gr : ∀ z ∈ g, 0 ≤ z ∧ z < 256 := fun z hz => bInts_range b z (List.mem_of_mem_drop (List.mem_of_mem_take (hg ▸ hz)))
    have cl : (b85 ((bInts b).take (4 * i))).length ≤ 1000 := hcl (4 * i)
    walk_at "m"
    rw [show ((4 * i : Nat) : Int) + 4 = ((4 * i + 4 : Nat) : Int) by lia]
    refine slice_bytes (.int _) (.int _) (sz (by lia)) ?_
    generalize hpk : KBy.picked b _ _ = q at pk
    have ql := bInts_len q
    rw [pk] at ql
    walk_at "m"
    refine call_list_bytes (sz (by lia)) fun u hu => ?_
    rw [pk]
    walk_at "m"
    refine call_len_list (by walk_at "m_s") (sz (by rw [List.length_map]; lia)) ?_
    walk_at "mi"
    refine ⟨sz (by simp), fun z hz => ?_⟩
    walk_at "m"
    rw [List.length_map]
    refine bin_repeat (Gd.look_of (St.set_same _ _ _)) (by lia) (by lia) (by simp; lia) fun y hy => ?_
    rw [rep_one]
    refine bin_concat (by walk_at "m_s") (by walk_at "m_s") (sz (by rw [List.length_map, List.length_map]; simp; lia)) fun w hw => ?_
    have ep : (g.map V.int) ++ (List.replicate (4 - (g.length : Int)).toNat 0).map V.int = (pad 4 0 g).map V.int := by
      unfold pad; rw [← List.map_append, show (4 - (g.length : Int)).toNat = 4 - g.length by lia]
    rw [ep]
    have s2 : ((((σ₂.set u (.list (g.map V.int))).set z (.list [.int 0])).set y (.list ((List.replicate (4 - (g.length : Int)).toNat 0).map V.int))).set w (.list ((pad 4 0 g).map V.int))) c = some (.list ((b85 ((bInts b).take (4 * i))).map V.int)) := by walk_at "m_s"
    have x3 := ((((x2.more (o := .list (g.map V.int)) hu).more (o := .list [.int 0]) hz).more (o := .list ((List.replicate (4 - (g.length : Int)).toNat 0).map V.int)) hy).more (o := .list ((pad 4 0 g).map V.int)) hw)
    walk_at "m"
    refine c_signs H (St.set_same _ _ _) (by unfold pad; simp; lia) fun s σ₃ e3 hs3 s3 => ?_
    replace s2 := e3 _ _ s2
    replace x3 := x3.trans e3
    have esg : (dg 85 5 (tot 256 (pad 4 0 g))).reverse = sgn g := rfl
    rw [esg] at s3
    have sl : (sgn g).length = 5 := by unfold sgn; rw [List.length_reverse, dg_len]
    have sr : ∀ z ∈ encG g, 0 ≤ z ∧ z < 256 := her g gr
    clear hw hy hz hu
    walk_at "mi"
    refine ex_if ?_
    refine Run.mono (Q := fun t σ₄ => (t = true ↔ (g.length = 4 ∧ sgn g = [0, 0, 0, 0, 0])) ∧ σ₄ c = some (.list ((b85 ((bInts b).take (4 * i))).map V.int)) ∧ σ₄ s = some (.list ((sgn g).map V.int)) ∧ Ext σ σ₄) ?_ ?_
    · walk_at "m"
      refine if_bool (fun w1 => ?_) fun w1 => ?_
      · have w2 : (4 : Int) - g.length = 0 := of_decide_eq_true w1
        walk_at "m"
        refine ⟨sz (by simp), fun z hz => ?_⟩
        refine cmp_eq_map flat_ints (by walk_at "m_s") (ys := [0, 0, 0, 0, 0]) (Gd.look_of (St.set_same _ _ _)) ?_
        walk_at "m"
        refine if_bool (fun w4 => ?_) fun w4 => ?_
        · walk_at "m"
          exact ⟨⟨fun _ => ⟨by lia, of_decide_eq_true w4⟩, fun _ => rfl⟩, by walk_at "m_s", by walk_at "m_s", x3.more hz⟩
        · exact ⟨⟨fun q => absurd q (by decide), fun q => absurd (decide_eq_true q.2) (by rw [w4]; decide)⟩, by walk_at "m_s", by walk_at "m_s", x3.more hz⟩
      · refine ⟨⟨fun q => absurd q (by decide), fun q => ?_⟩, s2, s3, x3⟩
        rw [q.1] at w1
        exact absurd w1 (by decide)
    · rintro t σ₄ ⟨ht, s4, s5, x4⟩
      refine if_bool (fun w1 => ?_) fun w1 => ?_
      · have ee : encG g = [122] := if_pos (ht.mp w1)
        walk_at "m"
        walk_at "m_append"
        case msz => exact sz (by rw [List.length_map]; lia)
        rw [map_snoc, ← ee, ← tk]
        walk_at "m"
        exact ⟨by walk_at "m_lv", by walk_at "m_lv", by walk_at "m_s", x4.upd hc⟩
      · have ee : encG g = ((sgn g).take (1 + g.length)).map fun s => 33 + s := if_neg fun q => by rw [ht.mpr q] at w1; exact absurd w1 (by decide)
        walk_at "m"
        refine ⟨_, _, getm_extend (Gd.look_of s4), ?_⟩
        walk_at "m_ev"
        have hnc : ∀ y ∈ ([(Str.ofString ".0", NameKind.local), (Str.ofString "sign", NameKind.local), (Str.ofString "LEAST_SIGN", NameKind.globalImplicit)] : List (Str × NameKind)), y.2 = .local → ([(Str.ofString ".0", NameKind.local), (Str.ofString "sign", NameKind.local), (Str.ofString "LEAST_SIGN", NameKind.globalImplicit)] : List (Str × NameKind)).lookup y.1 = some .local := by decide +kernel
        refine ev_comp (cl := []) ?_ (by kernel_rfl) (by kernel_rfl) hnc
        walk_at "m"
        have e2 : (5 - (4 - (g.length : Int))) = ((1 + g.length : Nat) : Int) := by lia
        rw [e2]
        refine slice_list (by walk_at "m_s") .none (.int _) .none (by decide) (sz (by simp; lia)) fun u hu => ?_
        rw [vpick_take_any, ← List.map_take]
        have ul : ((sgn g).take (1 + g.length)).length ≤ 5 := by rw [List.length_take]; lia
        generalize hS : (sgn g).take (1 + g.length) = S at ee ul
        refine compH_list (fun k ys σ' => ys = ((S.take k).map fun s => 33 + s).map V.int ∧ σ' u = some (.list (S.map V.int)) ∧ σ' c = some (.list ((b85 ((bInts b).take (4 * i))).map V.int)) ∧ Ext σ σ') hf (by kernel_rfl) (fun C => by kernel_rfl) (by kernel_rfl)
          (fun k ys σ₅ hj => hj.2.1) (St.set_same _ _ _) (by rw [List.length_map]; lia) ⟨rfl, St.set_same _ _ _, by walk_at "m_s", x4.more hu⟩ ?_ ?_
        · rintro C k v ys σ₅ hfc hv ⟨rfl, j1, j2, j3⟩
          rw [List.getElem?_map] at hv
          obtain ⟨o, ho, rfl⟩ := Option.map_eq_some_iff.mp hv
          refine tests_nil (if_tt ?_)
          walk_at "m"
          refine ⟨?_, j1, j2, j3⟩
          rw [take_snoc ho, List.map_append, List.map_append]; rfl
        · rintro ys σ₅ ⟨rfl, j1, j2, j3⟩ D hD
          rw [List.length_map, List.take_length, ← ee]
          walk_at "m"
          refine call_extend (by walk_at "m_s") (by walk_at "m_s") (sz (by rw [List.length_map, List.length_map, ee, List.length_map]; lia)) ⟨rfl, ?_⟩
          rw [← List.map_append, ← tk]
          walk_at "m"
          exact ⟨by walk_at "m_lv", by walk_at "m_lv", by walk_at "m_s", (j3.more hD).upd hc⟩
  · rintro lv₂ σ₂ ⟨l1, l2, s1, x2⟩
    rw [List.take_of_length_le (by lia)] at s1
    have cl : (b85 (bInts b)).length ≤ 1000 := by have := hcl b.size; rwa [List.take_of_length_le (by lia)] at this
    walk_at "m"
    refine ⟨sz (by simp), fun z hz => ?_⟩
    refine bin_concat (ys := [.int 126, .int 62]) (by walk_at "m_s") (Gd.look_of (St.set_same _ _ _)) (sz (by rw [List.length_map]; simp; lia)) fun w hw => ?_
    rw [show (b85 (bInts b)).map V.int ++ [.int 126, .int 62] = (b85 (bInts b) ++ [126, 62]).map V.int by simp]
    walk_at "m"
    refine call_bytes (by walk_at "m_s") (fun k hk => ?_) (sz (by rw [List.length_append]; simp; lia)) ?_
    · rcases List.mem_append.mp hk with q | q
      · exact hbr k q
      · simp at q; lia
    · walk_at "m"
      exact h _ ((x2.more hz).more hw)
end
set_option hygiene false
theorem W_small {l O S : List Int} : ∀ {r : List Int}, W l O S r → S.length ≤ 4
  | [], h => by rcases h with ⟨rfl, _⟩ | ⟨_, h, _⟩ <;> simp_all
  | c :: r, h => by
    rcases h with ⟨_, rfl, _⟩ | ⟨_, _, _, ⟨h, _⟩ | ⟨h, _⟩⟩
    · simp
    · lia
    · lia
theorem og_len {S : List Int} (_ : 2 ≤ S.length) (_ : S.length ≤ 5) : (og S).length ≤ 4 := by
  unfold og
  rw [List.length_take, List.length_reverse, dg_len]; lia
section
variable {G : Gd} {n : Nat} {σ : St} {Q : V → St → Prop}
inductive BdJ (b : Array UInt8) (d : Array UInt8) (C : List Int) (o : Addr) (e : Addr) (it : Addr) (σ : St) (i : Nat) (lv : Lv) (σ' : St) : Prop where
  | mk (O S : List Int) (s : Addr) (k : Int) (h0 : lv "data" = some (.bytes d)) (h1 : lv "octets" = some (.ref o)) (h2 : lv "signs" = some (.ref s)) (h3 : lv "last" = some (.int k)) (h4 : σ' o = some (.list (O.map V.int))) (h5 : σ' s = some (.list (S.map V.int))) (h6 : o ≠ s) (h7 : s ≠ e) (h8 : s ≠ it) (h9 : σ s = none) (h10 : W (bInts b) O S (C.drop i)) (h11 : i ≤ C.length) (h12 : O.length ≤ 4 * i) (h13 : Ext σ σ') : BdJ b d C o e it σ i lv σ'
theorem c_base85_decoded (H : Pr G) {b d : Array UInt8} (hs : b.size ≤ 100) (hd : bInts d = b85 (bInts b) ++ [126, 62]) (h : ∀ σ', Ext σ σ' → Q (.bytes b) σ') : Kp G (.ref 122) ∧ CallV G (n + 2) σ (.ref 122) [.bytes d] Q := by
  refine ⟨kp_base85_decoded H, (in_base85_decoded H fun L hf => ?_).call⟩
  have bl := bInts_len b
  have dl := bInts_len d
  have cl := b85_len (bInts b)
  have w0 := W_all (l := bInts b) (bInts b) [] rfl (bInts_range b)
  generalize b85 (bInts b) = C at hd cl w0
  rw [hd, List.length_append] at dl
  simp at dl
  walk_at "m_ev"
  refine ex_swap' ["octets", "signs", "last"] ?_ hf (by kernel_rfl)
  walk_at "m"
  refine ⟨sz (by simp), fun o hO => ?_⟩
  walk_at "m"
  refine ⟨sz (by simp), fun s hS => ?_⟩
  walk_at "m"
  refine ⟨sz (by simp), fun t ht => ⟨t, _, rfl, St.set_same _ _ _, rfl, fun lv₁ elv => ?_⟩⟩
  have l1 : lv₁ "data" = some (.bytes d) := by rw [elv]; kernel_rfl
  have l2 : lv₁ "octets" = some (.ref o) := by rw [elv]; kernel_rfl
  have l3 : lv₁ "signs" = some (.ref s) := by rw [elv]; kernel_rfl
  have l4 : lv₁ "last" = some (.int (-1)) := by rw [elv]; kernel_rfl
  clear elv
  have y1 : Ext σ (σ.set o (.list [])) := (Ext.refl σ).more hO
  have nos := ne_of_some_none (St.set_same σ o _) hS
  have hs0 := y1.no hS
  have y2 : Ext σ ((σ.set o (.list [])).set s (.list [])) := y1.more hS
  have s1 : ((σ.set o (.list [])).set s (.list [])) o = some (.list []) := by rw [St.set_ne _ _ nos]; exact St.set_same _ _ _
  have s2 : ((σ.set o (.list [])).set s (.list [])) s = some (.list []) := St.set_same _ _ _
  have x0 := y2.more (o := .tuple [.ref o, .ref s, .int (-1)]) ht
  have t1 := St.set_new (o := .tuple [.ref o, .ref s, .int (-1)]) ht s1
  have t2 := St.set_new (o := .tuple [.ref o, .ref s, .int (-1)]) ht s2
  generalize ((σ.set o (.list [])).set s (.list [])).set t _ = σ₁ at x0 t1 t2
  clear y2 s1 s2 ht hS
  walk_at "mi"
  refine for_enum ?_
  walk_at "m"
  refine call_enumerate fun it e hit he hie => ?_
  have o1 := ne_of_some_none t1 hit
  have o2 := ne_of_some_none t1 he
  have hσit := x0.no hit
  have hσe := x0.no he
  refine ⟨e, it, d, BdJ b d C o e it σ, rfl, Ne.symm hie, by walk_at "m_s", by walk_at "m_s",
    ⟨[], [], s, -1, l1, l2, l3, l4, by rw [List.map_nil]; walk_at "m_s", by rw [List.map_nil]; exact St.upd (ne_of_some_none t2 he) (St.set_new hit t2), nos, ne_of_some_none t2 he, ne_of_some_none t2 hit, hs0, w0, Nat.zero_le _, by simp, (x0.more hit).trans ((Ext.refl _).more (by rw [St.set_ne _ _ (Ne.symm hie)]; exact he))⟩, ?_, ?_⟩
  · clear l1 l2 l3 l4 t1 t2 nos hs0 w0
    rintro i c lv₂ σ₂ σ₃ a ⟨O, S, s, k, l1, l2, l3, l4, j1, j2, nos, nse, nsi, hs0, w, hi, ol, x2⟩ hc hk ha he' hit'
    have t1 := hk _ _ o2 o1 j1
    have t2 := hk _ _ nse nsi j2
    have x3 : Ext σ σ₃ := fun x o ex => hk x o (fun q => by rw [q, hσe] at ex; cases ex) (fun q => by rw [q, hσit] at ex; cases ex) (x2 x o ex)
    have sl := W_small w
    have hcd := bInts_get hc
    rw [hd] at hcd
    have nso := Ne.symm nos
    walk_at "mi"
    refine ex_if ?_
    walk_at "m"
    by_cases hlt : i < C.length
    · rw [List.getElem?_append_left hlt] at hcd
      have hdr : C.drop i = (c.toNat : Int) :: C.drop (i + 1) := by
        rw [List.getElem?_eq_getElem hlt] at hcd
        rw [List.drop_eq_getElem_cons hlt, Option.some.inj hcd]
      rw [hdr] at w
      rcases w with ⟨hz, rfl, w⟩ | ⟨c1, c2, sr, w⟩
      · rw [hz]
        refine c_is_white H ?_
        walk_at "m"
        refine if_dec (fun q => absurd q (by decide)) fun _ => ?_
        walk_at "m"
        refine if_bool (fun q => absurd q (by decide)) fun _ => ?_
        walk_at "m"
        refine if_bool (fun _ => ?_) fun q => absurd q (by decide)
        walk_at "m"
        refine ⟨sz (by simp), fun z hz => ?_⟩
        refine cmp_eq_nil (by walk_at "m_s") (by walk_at "m_s") ?_
        walk_at "m"
        refine if_bool (fun _ => ?_) fun q => absurd q (by decide)
        walk_at "m"
        refine ⟨_, _, getm_extend (Gd.look_of (by walk_at "m_s")), ?_⟩
        walk_at "m"
        refine ⟨sz (by simp), fun y hy => ?_⟩
        walk_at "m"
        refine call_extend (ys := [.int 0, .int 0, .int 0, .int 0]) (by walk_at "m_s") (Gd.look_of (St.set_same _ _ _)) (sz (by rw [List.length_map]; simp; lia)) ⟨rfl, ?_⟩
        rw [show O.map V.int ++ [.int 0, .int 0, .int 0, .int 0] = (O ++ [0, 0, 0, 0]).map V.int by simp]
        have n1 := ne_of_diff t1 he' (by intro q; cases q)
        have n2 := ne_of_diff t1 hit' (by intro q; cases q)
        walk_at "m"
        exact ⟨by walk_at "m_s", by walk_at "m_s", O ++ [0, 0, 0, 0], [], s, k, by walk_at "m_lv", by walk_at "m_lv", by walk_at "m_lv", by walk_at "m_lv", by walk_at "m_s", by walk_at "m_s", nos, nse, nsi, hs0, w, hlt, by simp; lia, ((x3.more hz).more hy).upd hO⟩
      · refine c_is_white H ?_
        walk_at "m"
        refine if_dec (fun q => ?_) fun _ => ?_
        · simp at q; lia
        walk_at "m"
        refine if_bool (fun q => ?_) fun _ => ?_
        · have := of_decide_eq_true q; lia
        walk_at "m"
        refine if_bool (fun q => ?_) fun _ => ?_
        · have := of_decide_eq_true q; lia
        walk_at "m"
        refine if_dec (fun _ => ?_) fun q => absurd c1 q
        walk_at "m"
        refine if_bool (fun q => ?_) fun _ => ?_
        · simp at q; lia
        walk_at "m"
        refine ⟨_, _, getm_append (Gd.look_of t2), ?_⟩
        walk_at "m"
        refine call_append (by walk_at "m_s") (sz (by rw [List.length_map]; lia)) ⟨rfl, ?_⟩
        rw [map_snoc]
        have n1 := ne_of_diff t1 he' (by intro q; cases q)
        have n2 := ne_of_diff t1 hit' (by intro q; cases q)
        have n3 := Ne.symm n1
        have n4 := Ne.symm n2
        have u1 : (σ₃.set s (.list ((S ++ [(c.toNat : Int) - 33]).map V.int))) o = some (.list (O.map V.int)) := by walk_at "m_s"
        have u2 : (σ₃.set s (.list ((S ++ [(c.toNat : Int) - 33]).map V.int))) s = some (.list ((S ++ [(c.toNat : Int) - 33]).map V.int)) := St.set_same _ _ _
        have u3 : (σ₃.set s (.list ((S ++ [(c.toNat : Int) - 33]).map V.int))) e = some (.enm it (i + 1)) := St.upd (Ne.symm nse) he'
        have u4 : (σ₃.set s (.list ((S ++ [(c.toNat : Int) - 33]).map V.int))) it = some (.bit d (i + 1)) := St.upd (Ne.symm nsi) hit'
        have x4 : Ext σ (σ₃.set s (.list ((S ++ [(c.toNat : Int) - 33]).map V.int))) := x3.upd hs0
        generalize σ₃.set s (.list ((S ++ [(c.toNat : Int) - 33]).map V.int)) = σ₄ at u1 u2 u3 u4 x4
        walk_at "m"
        refine call_len_list (by walk_at "m_s") (sz (by rw [List.length_map]; simp; lia)) ?_
        walk_at "m"
        rw [List.length_map, List.length_append]
        refine if_bool (fun q => ?_) fun q => ?_
        · have hq : ((S.length + 1 : Nat) : Int) = 5 := of_decide_eq_true q
          rcases w with ⟨h4, hT, w⟩ | ⟨h4, _⟩
          · walk_at "m"
            refine ⟨_, _, getm_extend (Gd.look_of u1), ?_⟩
            walk_at "m"
            refine c_octets_of_group H u2 (by simp; lia) (by simp; lia) hT fun z σ₅ e5 z5 hz => ?_
            have gl := og_len (S := S ++ [(c.toNat : Int) - 33]) (by simp; lia) (by simp; lia)
            replace u1 := e5 _ _ u1
            replace u3 := e5 _ _ u3
            replace u4 := e5 _ _ u4
            replace x4 := x4.trans e5
            walk_at "m"
            refine call_extend (by walk_at "m_s") (by walk_at "m_s") (sz (by rw [List.length_map, List.length_map]; lia)) ⟨rfl, ?_⟩
            rw [← List.map_append]
            walk_at "m"
            refine ⟨sz (by simp), fun s' hs' => ?_⟩
            walk_at "m"
            have v1 : (σ₅.set o (.list ((O ++ og (S ++ [(c.toNat : Int) - 33])).map V.int))) o = some (.list ((O ++ og (S ++ [(c.toNat : Int) - 33])).map V.int)) := St.set_same _ _ _
            have v3 : (σ₅.set o (.list ((O ++ og (S ++ [(c.toNat : Int) - 33])).map V.int))) e = some (.enm it (i + 1)) := by walk_at "m_s"
            have v4 : (σ₅.set o (.list ((O ++ og (S ++ [(c.toNat : Int) - 33])).map V.int))) it = some (.bit d (i + 1)) := by walk_at "m_s"
            exact ⟨by walk_at "m_s", by walk_at "m_s", O ++ og (S ++ [(c.toNat : Int) - 33]), [], s', i, by walk_at "m_lv", by walk_at "m_lv", by walk_at "m_lv", by walk_at "m_lv", by walk_at "m_s", by rw [List.map_nil]; walk_at "m_s", ne_of_some_none v1 hs', Ne.symm (ne_of_some_none v3 hs'), Ne.symm (ne_of_some_none v4 hs'), (x4.upd hO).no hs', w, hlt, by simp; lia, (x4.upd hO).more hs'⟩
          · lia
        · rcases w with ⟨h4, _⟩ | ⟨h4, w⟩
          · rw [h4] at q
            simp at q
          · walk_at "m"
            exact ⟨u3, u4, O, S ++ [(c.toNat : Int) - 33], s, i, by walk_at "m_lv", by walk_at "m_lv", by walk_at "m_lv", by walk_at "m_lv", u1, u2, nos, nse, nsi, hs0, w, hlt, by lia, x4⟩
    · have hie : i = C.length := by lia
      subst hie
      rw [List.getElem?_append_right (Nat.le_refl _), Nat.sub_self] at hcd
      have hv : (126 : Int) = c.toNat := by simpa using hcd
      rw [List.drop_length] at w
      rw [← hv]
      refine c_is_white H ?_
      walk_at "m"
      refine if_dec (fun q => absurd q (by decide)) fun _ => ?_
      walk_at "m"
      refine if_bool (fun _ => ?_) fun q => absurd q (by decide)
      walk_at "m"
      refine c_is_end_at H (by lia) (by rw [hd, List.getElem?_append_right (by lia)]; simp) fun σ₄ e4 => ?_
      replace t1 := e4 _ _ t1
      replace t2 := e4 _ _ t2
      replace x3 := x3.trans e4
      walk_at "m"
      refine call_len_list (by walk_at "m_s") (sz (by rw [List.length_map]; lia)) ?_
      walk_at "m"
      rw [List.length_map]
      rcases w with ⟨rfl, rfl⟩ | ⟨w1, w2, w3, w4, w5⟩
      · refine if_bool (fun q => absurd q (by decide)) fun _ => ?_
        walk_at "m"
        refine ⟨sz (by simp), fun z hz => ?_⟩
        refine cmp_ne_nil (by walk_at "m_s") (by walk_at "m_s") ?_
        walk_at "m"
        refine if_bool (fun q => absurd q (by decide)) fun _ => ?_
        walk_at "m"
        refine call_bytes (by walk_at "m_s") (bInts_range b) (sz (by lia)) ?_
        rw [byteArr_bInts]
        walk_at "m"
        exact h _ (x3.more hz)
      · refine if_bool (fun q => ?_) fun _ => ?_
        · have hq : (S.length : Int) = 1 := of_decide_eq_true q
          lia
        walk_at "m"
        refine ⟨sz (by simp), fun z hz => ?_⟩
        refine cmp_ne_nil (by walk_at "m_s") (by walk_at "m_s") ?_
        walk_at "m"
        refine if_bool (fun _ => ?_) fun q => ?_
        · walk_at "m"
          have gl := og_len (S := S) (by lia) (by lia)
          have v1 := St.set_new (o := .list []) hz t1
          have v2 := St.set_new (o := .list []) hz t2
          have x4 := x3.more (o := .list []) hz
          refine ⟨_, _, getm_extend (Gd.look_of v1), ?_⟩
          walk_at "m"
          refine c_octets_of_group H v2 (by lia) (by lia) w4 fun y σ₅ e5 y5 hy => ?_
          replace v1 := e5 _ _ v1
          replace x4 := x4.trans e5
          walk_at "m"
          refine call_extend (by walk_at "m_s") (by walk_at "m_s") (sz (by rw [List.length_map, List.length_map]; lia)) ⟨rfl, ?_⟩
          rw [← List.map_append, w5]
          walk_at "m"
          refine call_bytes (by walk_at "m_s") (bInts_range b) (sz (by lia)) ?_
          rw [byteArr_bInts]
          walk_at "m"
          exact h _ (x4.upd hO)
        · exfalso
          cases S with
          | nil => simp at w1
          | cons => simp at q
  · rintro lv₂ σ₂ σ₃ ⟨O, S, s, k, _, _, _, _, _, _, _, _, _, _, _, hi, _⟩ _
    lia
end
set_option hygiene false
/-! classes of the program -/
section
variable {G : Gd} {n : Nat} {σ : St} {Q : V → St → Prop}
theorem cls_name (H : Pr G) : Cls G 167 := by constructor <;> (rw [H.k]; kernel_rfl)
theorem cls_ref (H : Pr G) : Cls G 195 := by constructor <;> (rw [H.k]; kernel_rfl)
theorem cls_look (H : Pr G) : Cls G 231 := by constructor <;> (rw [H.k]; kernel_rfl)
theorem kp_Name (H : Pr G) : Kp G (.ref 167) := kp_cls (H.at (o := k167) (by kernel_rfl)) rfl (by rw [H.k]; kernel_rfl)
theorem kp_Reference (H : Pr G) : Kp G (.ref 195) := kp_cls (H.at (o := k195) (by kernel_rfl)) rfl (by rw [H.k]; kernel_rfl)
theorem kp_Lookup (H : Pr G) : Kp G (.ref 231) := kp_cls (H.at (o := k231) (by kernel_rfl)) rfl (by rw [H.k]; kernel_rfl)
noncomputable def IsName (σ : St) (a : Addr) (x : Str) : Prop := ∃ d ep, σ a = some (.inst 167 d) ∧ σ d = some (.sdict [("text", .str x)] ep)
noncomputable def IsRef (σ : St) (a : Addr) (num gen : Int) : Prop := ∃ d ep, σ a = some (.inst 195 d) ∧ σ d = some (.sdict [("number", .int num), ("generation", .int gen)] ep)
noncomputable def IsShelf (σ : St) (a T : Addr) : Prop := ∃ d ep tr, σ a = some (.inst 231 d) ∧ σ d = some (.sdict [("table", .ref T), ("trailer", tr)] ep)
theorem c_Name (H : Pr G) {x : Str} (h : ∀ a σ', Ext σ σ' → σ a = none → IsName σ' a x → Q (.ref a) σ') : Kp G (.ref 167) ∧ CallV G (n + 2) σ (.ref 167) [.str x] Q := by
  refine ⟨kp_Name H, call_class (cls_name H) (f := 164) (by rw [H.k]; kernel_rfl) (by rw [H.k]; kernel_rfl) fun D X hD hX hDX => in_name_init H fun L hf => ?_⟩
  have hXD : X ≠ D := Ne.symm hDX
  have s1 : ((σ.set D (.sdict [] 0)).set X (.inst 167 D)) X = some (.inst 167 D) := St.set_same _ _ _
  have s2 : ((σ.set D (.sdict [] 0)).set X (.inst 167 D)) D = some (.sdict [] 0) := St.upd hDX (St.set_same _ _ _)
  have x0 : Ext σ ((σ.set D (.sdict [] 0)).set X (.inst 167 D)) := ((Ext.refl _).more hD).more (St.updN hXD hX)
  generalize (σ.set D (.sdict [] 0)).set X (.inst 167 D) = σ₁ at s1 s2 x0
  walk_at "m"
  refine setA_new s1 s2 rfl (by simp) (cls_name H) (by rw [H.k]; kernel_rfl) fun ep => ?_
  walk_at "m"
  exact ⟨rfl, h X _ (x0.upd hD) hX ⟨D, ep, St.upd hXD s1, St.set_same _ _ _⟩⟩
theorem c_Reference (H : Pr G) {i j : Int} (h : ∀ a σ', Ext σ σ' → σ a = none → IsRef σ' a i j → Q (.ref a) σ') : Kp G (.ref 195) ∧ CallV G (n + 2) σ (.ref 195) [.int i, .int j] Q := by
  refine ⟨kp_Reference H, call_class (cls_ref H) (f := 185) (by rw [H.k]; kernel_rfl) (by rw [H.k]; kernel_rfl) fun D X hD hX hDX => in_ref_init H fun L hf => ?_⟩
  have hXD : X ≠ D := Ne.symm hDX
  have s1 : ((σ.set D (.sdict [] 0)).set X (.inst 195 D)) X = some (.inst 195 D) := St.set_same _ _ _
  have s2 : ((σ.set D (.sdict [] 0)).set X (.inst 195 D)) D = some (.sdict [] 0) := St.upd hDX (St.set_same _ _ _)
  have x0 : Ext σ ((σ.set D (.sdict [] 0)).set X (.inst 195 D)) := ((Ext.refl _).more hD).more (St.updN hXD hX)
  generalize (σ.set D (.sdict [] 0)).set X (.inst 195 D) = σ₁ at s1 s2 x0
  walk_at "m"
  refine setA_new s1 s2 rfl (by simp) (cls_ref H) (by rw [H.k]; kernel_rfl) fun ep => ?_
  have s3 : (σ₁.set D (.sdict ([] ++ [(("number" : Str), V.int i)]) ep)) X = some (.inst 195 D) := St.upd hXD s1
  have s4 : (σ₁.set D (.sdict ([] ++ [(("number" : Str), V.int i)]) ep)) D = some (O.sdict ([] ++ [(("number" : Str), V.int i)]) ep) := St.set_same _ _ _
  have x1 : Ext σ (σ₁.set D (.sdict ([] ++ [(("number" : Str), V.int i)]) ep)) := x0.upd hD
  generalize σ₁.set D (.sdict ([] ++ [(("number" : Str), V.int i)]) ep) = σ₂ at s3 s4 x1
  walk_at "m"
  refine setA_new s3 s4 (by kernel_rfl) (by simp) (cls_ref H) (by rw [H.k]; kernel_rfl) fun ep => ?_
  walk_at "m"
  exact ⟨rfl, h X _ (x1.upd hD) hX ⟨D, ep, St.upd hXD s3, St.set_same _ _ _⟩⟩
theorem c_Lookup (H : Pr G) {t r : Addr} (h : ∀ a σ', Ext σ σ' → σ a = none → IsShelf σ' a t → Q (.ref a) σ') : Kp G (.ref 231) ∧ CallV G (n + 2) σ (.ref 231) [.ref t, .ref r] Q := by
  refine ⟨kp_Lookup H, call_class (cls_look H) (f := 214) (by rw [H.k]; kernel_rfl) (by rw [H.k]; kernel_rfl) fun D X hD hX hDX => in_look_init H fun L hf => ?_⟩
  have hXD : X ≠ D := Ne.symm hDX
  have s1 : ((σ.set D (.sdict [] 0)).set X (.inst 231 D)) X = some (.inst 231 D) := St.set_same _ _ _
  have s2 : ((σ.set D (.sdict [] 0)).set X (.inst 231 D)) D = some (.sdict [] 0) := St.upd hDX (St.set_same _ _ _)
  have x0 : Ext σ ((σ.set D (.sdict [] 0)).set X (.inst 231 D)) := ((Ext.refl _).more hD).more (St.updN hXD hX)
  generalize (σ.set D (.sdict [] 0)).set X (.inst 231 D) = σ₁ at s1 s2 x0
  walk_at "m"
  refine if_ff ?_
  walk_at "m"
  refine setA_new s1 s2 rfl (by simp) (cls_look H) (by rw [H.k]; kernel_rfl) fun ep => ?_
  have s3 : (σ₁.set D (.sdict ([] ++ [(("table" : Str), V.ref t)]) ep)) X = some (.inst 231 D) := St.upd hXD s1
  have s4 : (σ₁.set D (.sdict ([] ++ [(("table" : Str), V.ref t)]) ep)) D = some (O.sdict ([] ++ [(("table" : Str), V.ref t)]) ep) := St.set_same _ _ _
  have x1 : Ext σ (σ₁.set D (.sdict ([] ++ [(("table" : Str), V.ref t)]) ep)) := x0.upd hD
  generalize σ₁.set D (.sdict ([] ++ [(("table" : Str), V.ref t)]) ep) = σ₂ at s3 s4 x1
  walk_at "m"
  refine if_ff ?_
  walk_at "m"
  refine setA_new s3 s4 (by kernel_rfl) (by simp) (cls_look H) (by rw [H.k]; kernel_rfl) fun ep => ?_
  walk_at "m"
  exact ⟨rfl, h X _ (x1.upd hD) hX ⟨D, ep, .ref r, St.upd hXD s3, St.set_same _ _ _⟩⟩
/-! what a value leads to -/
noncomputable def NotRef (σ : St) (v : V) : Prop := match v with
  | .none | .int _ | .str _ => True
  | .ref a => (∃ xs, σ a = some (.list xs)) ∨ (∃ es ep, σ a = some (.sdict es ep)) ∨ (∃ x, IsName σ a x)
  | _ => False
inductive Res (σ : St) (es : List (Int × V)) : Nat → V → V → Prop
  | val {n : Nat} {v : V} (h : NotRef σ v) : Res σ es n v v
  | stop {a : Addr} {num gen : Int} (h : IsRef σ a num gen) : Res σ es 0 (.ref a) .none
  | miss {n : Nat} {a : Addr} {num gen : Int} (h : IsRef σ a num gen) (h0 : 0 ≤ gen) (hv : vat es num = none) : Res σ es (n + 1) (.ref a) .none
  | bad {n : Nat} {a t : Addr} {num gen g : Int} {w : V} (h : IsRef σ a num gen) (hv : vat es num = some (.ref t)) (ht : σ t = some (.tuple [.int g, w])) (hg : g ≠ gen) : Res σ es (n + 1) (.ref a) .none
  | go {n : Nat} {a t : Addr} {num gen : Int} {w r : V} (h : IsRef σ a num gen) (hv : vat es num = some (.ref t)) (ht : σ t = some (.tuple [.int gen, w])) (hr : Res σ es n w r) : Res σ es (n + 1) (.ref a) r
theorem IsRef.ext {σ' : St} (x : Ext σ σ') {a : Addr} {i j : Int} (h : IsRef σ a i j) : IsRef σ' a i j := let ⟨d, ep, h1, h2⟩ := h; ⟨d, ep, x _ _ h1, x _ _ h2⟩
theorem IsName.ext {σ' : St} (e : Ext σ σ') {a : Addr} {x : Str} (h : IsName σ a x) : IsName σ' a x := let ⟨d, ep, h1, h2⟩ := h; ⟨d, ep, e _ _ h1, e _ _ h2⟩
theorem IsShelf.ext {σ' : St} (e : Ext σ σ') {a T : Addr} (h : IsShelf σ a T) : IsShelf σ' a T := let ⟨d, ep, tr, h1, h2⟩ := h; ⟨d, ep, tr, e _ _ h1, e _ _ h2⟩
theorem NotRef.ext {σ' : St} (e : Ext σ σ') {v : V} (h : NotRef σ v) : NotRef σ' v := by
  cases v <;> first | exact h | skip
  rcases h with ⟨xs, h⟩ | ⟨es, ep, h⟩ | ⟨x, h⟩
  · exact .inl ⟨xs, e _ _ h⟩
  · exact .inr (.inl ⟨es, ep, e _ _ h⟩)
  · exact .inr (.inr ⟨x, h.ext e⟩)
theorem isi_ref (H : Pr G) {v : V} {Q : V → St → Prop} (hv : NotRef σ v) (h : Q (.bool false) σ) : CallV G n σ (.blt "isinstance") [v, .ref 195] Q := by
  cases v with
  | none => exact isi_foreign (v := .none) (by show isNotIn G.K "NoneType" 195 = true; rw [H.k]; kernel_rfl) h
  | int i => exact isi_foreign (v := .int i) (by show isNotIn G.K "int" 195 = true; rw [H.k]; kernel_rfl) h
  | str x => exact isi_foreign (v := .str x) (by show isNotIn G.K "str" 195 = true; rw [H.k]; kernel_rfl) h
  | ref a =>
    rcases hv with ⟨xs, hv⟩ | ⟨es, ep, hv⟩ | ⟨x, d, ep, h1, h2⟩
    · exact isi_foreign (v := .ref a) (.inl ⟨⟨xs, Gd.look_of hv⟩, by rw [H.k]; kernel_rfl⟩) h
    · exact isi_foreign (v := .ref a) (.inr ⟨.inl ⟨es, ep, hv⟩, by rw [H.k]; kernel_rfl⟩) h
    · exact isi_notC h1 h2 (cls_name H) (by rw [H.k]; kernel_rfl) h
  | _ => exact hv.elim
inductive FeJ (s : Addr) (es : List (Int × V)) (r : V) (σ : St) (i : Nat) (lv : Lv) (σ' : St) : Prop where
  | mk (w : V) (h0 : lv "self" = some (.ref s)) (h1 : lv "here" = some w) (h2 : Res σ es (30 - i) w r) (h3 : Ext σ σ') (h4 : i ≤ 30) : FeJ s es r σ i lv σ'
theorem c_fetch (H : Pr G) {s T : Addr} {es : List (Int × V)} {ep : Nat} {v r : V} (hs : IsShelf σ s T) (hT : σ T = some (.idict es ep)) (hr : Res σ es 30 v r) (h : ∀ σ', Ext σ σ' → Q r σ') : CallV G (n + 1) σ (.ref 221) [.ref s, v] Q := by
  refine (in_fetch H fun L hf => ?_).call
  walk_at "mi"
  refine for_range ?_
  walk_at "m"
  refine call_range1 fun rr hrr => ?_
  refine ⟨rr, 0, 30, 1, 30, FeJ s es r σ, rfl, St.set_same _ _ _, by decide, by decide,
    ⟨v, by walk_at "m_lv", by walk_at "m_lv", hr, (Ext.refl _).more hrr, by lia⟩, ?_, ?_⟩
  · rintro i lv₂ σ₂ hi ⟨w, l1, l2, hw, x2, _⟩
    obtain ⟨d, ep1, tr, h1, h2⟩ := hs.ext x2
    have e30 : 30 - i = (30 - (i + 1)) + 1 := by lia
    rw [e30] at hw
    walk_at "m"
    cases hw with
    | val hn =>
      refine isi_ref H (hn.ext x2) ?_
      walk_at "m"
      exact h _ x2
    | @miss _ a num gen hR h0 hv =>
      obtain ⟨rd, rep, g1, g2⟩ := hR.ext x2
      refine isi_own g1 ?_
      walk_at "m"
      refine attr_inst h1 h2 (v := .ref T) (by kernel_rfl) rfl (cls_look H) (by rw [H.k]; kernel_rfl) ?_
      refine ⟨_, _, getm_get (.inr ⟨_, _, x2 _ _ hT⟩), ?_⟩
      walk_at "m"
      refine attr_inst g1 g2 (v := .int num) (by kernel_rfl) rfl (cls_ref H) (by rw [H.k]; kernel_rfl) ?_
      walk_at "m"
      refine ⟨sz (by simp), fun z hz => ?_⟩
      walk_at "m"
      refine call_iget2 (St.set_new hz (x2 _ _ hT)) ?_
      rw [hv]
      have k1 := St.set_new (o := .tuple [.int (-1), .none]) hz g1
      have k2 := St.set_new (o := .tuple [.int (-1), .none]) hz g2
      refine tgt_tuple (xs := [.int (-1), .none]) (Gd.look_of (St.set_same _ _ _)) rfl ?_
      walk_at "m"
      refine attr_inst k1 k2 (v := .int gen) (by kernel_rfl) rfl (cls_ref H) (by rw [H.k]; kernel_rfl) ?_
      walk_at "m"
      refine if_bool (fun _ => ?_) fun q => ?_
      · walk_at "m"
        exact h _ (x2.more hz)
      · simp at q
        lia
    | @bad _ a t num gen g w hR hv ht hg =>
      obtain ⟨rd, rep, g1, g2⟩ := hR.ext x2
      refine isi_own g1 ?_
      walk_at "m"
      refine attr_inst h1 h2 (v := .ref T) (by kernel_rfl) rfl (cls_look H) (by rw [H.k]; kernel_rfl) ?_
      refine ⟨_, _, getm_get (.inr ⟨_, _, x2 _ _ hT⟩), ?_⟩
      walk_at "m"
      refine attr_inst g1 g2 (v := .int num) (by kernel_rfl) rfl (cls_ref H) (by rw [H.k]; kernel_rfl) ?_
      walk_at "m"
      refine ⟨sz (by simp), fun z hz => ?_⟩
      walk_at "m"
      refine call_iget2 (St.set_new hz (x2 _ _ hT)) ?_
      rw [hv]
      have k1 := St.set_new (o := .tuple [.int (-1), .none]) hz g1
      have k2 := St.set_new (o := .tuple [.int (-1), .none]) hz g2
      refine tgt_tuple (Gd.look_of (St.set_new hz (x2 _ _ ht))) rfl ?_
      walk_at "m"
      refine attr_inst k1 k2 (v := .int gen) (by kernel_rfl) rfl (cls_ref H) (by rw [H.k]; kernel_rfl) ?_
      walk_at "m"
      refine if_bool (fun _ => ?_) fun q => ?_
      · walk_at "m"
        exact h _ (x2.more hz)
      · simp at q
        exact absurd q hg
    | @go _ a t num gen w r hR hv ht hrr =>
      obtain ⟨rd, rep, g1, g2⟩ := hR.ext x2
      refine isi_own g1 ?_
      walk_at "m"
      refine attr_inst h1 h2 (v := .ref T) (by kernel_rfl) rfl (cls_look H) (by rw [H.k]; kernel_rfl) ?_
      refine ⟨_, _, getm_get (.inr ⟨_, _, x2 _ _ hT⟩), ?_⟩
      walk_at "m"
      refine attr_inst g1 g2 (v := .int num) (by kernel_rfl) rfl (cls_ref H) (by rw [H.k]; kernel_rfl) ?_
      walk_at "m"
      refine ⟨sz (by simp), fun z hz => ?_⟩
      walk_at "m"
      refine call_iget2 (St.set_new hz (x2 _ _ hT)) ?_
      rw [hv]
      have k1 := St.set_new (o := .tuple [.int (-1), .none]) hz g1
      have k2 := St.set_new (o := .tuple [.int (-1), .none]) hz g2
      refine tgt_tuple (Gd.look_of (St.set_new hz (x2 _ _ ht))) rfl ?_
      walk_at "m"
      refine attr_inst k1 k2 (v := .int gen) (by kernel_rfl) rfl (cls_ref H) (by rw [H.k]; kernel_rfl) ?_
      walk_at "m"
      refine if_bool (fun q => ?_) fun _ => ?_
      · simp at q
      · walk_at "m"
        exact ⟨_, by walk_at "m_lv", by walk_at "m_lv", hrr, x2.more hz, by lia⟩
  · rintro lv₂ σ₂ ⟨w, l1, l2, hw, x2, _⟩
    rw [Nat.sub_self] at hw
    walk_at "m"
    cases hw with
    | val hn =>
      refine isi_ref H (hn.ext x2) ?_
      walk_at "m"
      exact h _ x2
    | stop hR =>
      obtain ⟨rd, rep, g1, g2⟩ := hR.ext x2
      refine isi_own g1 ?_
      walk_at "m"
      exact h _ x2
end
set_option hygiene false
section
variable {G : Gd} {n : Nat} {σ : St} {env : Env} {lv : Lv} {Q : V → St → Prop}
noncomputable def pairsOf : List (Option Expr) → List Expr → List (Expr × Expr)
  | some k :: ks, v :: vs => (k, v) :: pairsOf ks vs
  | _, _ => []
theorem ev_sdict' {keys : List (Option Expr)} {values : List Expr} {pos : Pos}
    (h : ∀ d, σ d = none → Prs G n env lv pos (σ.set d (.sdict [] 0)) (pairsOf keys values) fun r σ₁ => ∃ es, r = es.map (fun p => (V.str p.1, p.2)) ∧ σ₁ d = some (.sdict [] 0) ∧ ∀ ep, Q (.ref d) (σ₁.set d (.sdict (vmerge [] es) ep)))
    (h0 : (pairsOf keys values).isEmpty = false) (hlen : decide ((pairsOf keys values).length ≤ 15) = true)
    (hshape : (evalEachOpt keys env).zip ((evalEach values env).map fun v => do let x ← v; standAt pos; pure x) = ((pairsOf keys values).map fun p => (eval p.1 env, do let x ← eval p.2 env; standAt pos; pure x)).map fun p => (some p.1, p.2) := by rfl) :
    Ev G n env lv σ (.Dict keys values pos) Q := ev_sdict h (fun e => by rw [e] at h0; cases h0) (of_decide_eq_true hlen) hshape
theorem ev_idict' {keys : List (Option Expr)} {values : List Expr} {pos : Pos}
    (h : ∀ d, σ d = none → Prs G n env lv pos (σ.set d (.idict [] 0)) (pairsOf keys values) fun r σ₁ => ∃ es, r = es.map (fun p => (V.int p.1, p.2)) ∧ σ₁ d = some (.idict [] 0) ∧ ∀ ep, Q (.ref d) (σ₁.set d (.idict (vmerge [] es) ep)))
    (h0 : (pairsOf keys values).isEmpty = false) (hlen : decide ((pairsOf keys values).length ≤ 15) = true)
    (hshape : (evalEachOpt keys env).zip ((evalEach values env).map fun v => do let x ← v; standAt pos; pure x) = ((pairsOf keys values).map fun p => (eval p.1 env, do let x ← eval p.2 env; standAt pos; pure x)).map fun p => (some p.1, p.2) := by rfl) :
    Ev G n env lv σ (.Dict keys values pos) Q := ev_idict h (fun e => by rw [e] at h0; cases h0) (of_decide_eq_true hlen) hshape
noncomputable def sat : List (Str × Str) → Str → Option Str
  | [], _ => none
  | (k, v) :: r, x => if k = x then some v else sat r x
theorem vat_sat : ∀ (l : List (Str × Str)) (x : Str), vat (l.map fun p => (p.1, V.str p.2)) x = (sat l x).map V.str
  | [], _ => rfl
  | (k, v) :: r, x => by
    simp only [List.map_cons, vat, sat]
    split
    · rfl
    · exact vat_sat r x
noncomputable def shortTab : List (Str × Str) := [("AHx", "ASCIIHexDecode"), ("A85", "ASCII85Decode"), ("LZW", "LZWDecode"), ("Fl", "FlateDecode"), ("RL", "RunLengthDecode"), ("CCF", "CCITTFaxDecode"), ("DCT", "DCTDecode")]
noncomputable def fullOf (x : Str) : Str := (sat shortTab x).getD x
theorem merge_short : vmerge [] (shortTab.map fun p => (p.1, V.str p.2)) = shortTab.map fun p => (p.1, V.str p.2) := by kernel_rfl
theorem c_full_name (H : Pr G) {x : Str} (h : ∀ σ', Ext σ σ' → Q (.str (fullOf x)) σ') : Kp G (.ref 242) ∧ CallV G (n + 1) σ (.ref 242) [.str x] Q := by
  refine ⟨kp_full_name H, (in_full_name H fun L hf => ?_).call⟩
  walk_at "m"
  refine ev_sdict' (fun d hd => ?_) rfl rfl
  iterate 7 (refine prs_cons ?_; walk_at "m")
  refine prs_nil ⟨shortTab.map fun p => (p.1, V.str p.2), rfl, St.set_same _ _ _, fun ep => ?_⟩
  rw [merge_short]
  walk_at "m"
  refine ⟨_, _, getm_get (.inl ⟨_, _, St.set_same _ _ _⟩), ?_⟩
  walk_at "m"
  refine call_get2 (St.set_same _ _ _) ?_
  have e : (vat (shortTab.map fun p => (p.1, V.str p.2)) x).getD (.str x) = .str (fullOf x) := by
    rw [vat_sat]
    unfold fullOf
    cases sat shortTab x <;> rfl
  rw [e]
  walk_at "m"
  exact h _ (((Ext.refl _).more hd).upd hd)
theorem Res.ext {σ' : St} (e : Ext σ σ') {es : List (Int × V)} {k : Nat} {v r : V} (h : Res σ es k v r) : Res σ' es k v r := by
  induction h with
  | val h => exact .val (h.ext e)
  | stop h => exact .stop (h.ext e)
  | miss h h0 hv => exact .miss (h.ext e) h0 hv
  | bad h hv ht hg => exact .bad (h.ext e) hv (e _ _ ht) hg
  | go h hv ht _ ih => exact .go (h.ext e) hv (e _ _ ht) ih
theorem getm_fetch (H : Pr G) {s T : Addr} (hs : IsShelf σ s T) : GetM G σ (.ref s) "fetch" (.ref 221) [.ref s] := by
  obtain ⟨d, ep, tr, h1, h2⟩ := hs
  exact getm_own h1 h2 (by kernel_rfl) (cls_look H) (by rw [H.k]; kernel_rfl) (by rw [H.k]; kernel_rfl)
theorem getm_get' (H : Pr G) {s T : Addr} (hs : IsShelf σ s T) : GetM G σ (.ref s) "get" (.ref 228) [.ref s] := by
  obtain ⟨d, ep, tr, h1, h2⟩ := hs
  exact getm_own h1 h2 (by kernel_rfl) (cls_look H) (by rw [H.k]; kernel_rfl) (by rw [H.k]; kernel_rfl)
theorem c_get (H : Pr G) {s T a : Addr} {es : List (Int × V)} {ep hep : Nat} {hes : List (Str × V)} {x : Str} {r : V} (hs : IsShelf σ s T) (hT : σ T = some (.idict es ep)) (ha : σ a = some (.sdict hes hep)) (hr : Res σ es 30 ((vat hes x).getD .none) r)
    (h : ∀ σ', Ext σ σ' → Q r σ') : Kp G (.ref 228) ∧ CallV G (n + 2) σ (.ref 228) [.ref s, .ref a, .str x] Q := by
  refine ⟨kp_get H, (in_get H fun L hf => ?_).call⟩
  walk_at "m"
  refine ⟨_, _, getm_fetch H hs, ?_⟩
  walk_at "m"
  refine ⟨_, _, getm_get (.inl ⟨_, _, ha⟩), ?_⟩
  walk_at "m"
  refine call_get1 ha ?_
  walk_at "m"
  refine ⟨kp_fetch H, c_fetch H hs hT hr fun σ' e => ?_⟩
  walk_at "m"
  exact h _ e
inductive Fil (σ : St) (es : List (Int × V)) : V → List Str → Prop
  | none : Fil σ es .none []
  | list {l : Addr} {items : List V} {xs : List Str} (hl : σ l = some (.list items)) (hn : items.length = xs.length) (hi : ∀ (i : Nat) (v : V), items[i]? = some v → ∃ (a : Addr) (x : Str), xs[i]? = some x ∧ Res σ es 30 v (.ref a) ∧ IsName σ a x) : Fil σ es (.ref l) xs
  | one {a : Addr} {x : Str} (h : IsName σ a x) : Fil σ es (.ref a) [x]
structure FnJ (z s r : Addr) (xs : List Str) (items : List V) (σ : St) (i : Nat) (lv : Lv) (σ' : St) : Prop where
  h0 : lv "names" = some (.ref z)
  h1 : lv "shelf" = some (.ref s)
  h2 : σ' z = some (.list (((xs.take i).map fullOf).map V.str))
  h3 : Ext σ σ'
  h4 : σ' r = some (.list items)
inductive FnI (es : List (Int × V)) (z : Addr) (xs : List Str) (σ : St) (v : V) (σ₂ : St) : Prop where
  | mk (r : Addr) (items : List V) (h0 : v = .ref r) (h1 : σ₂ r = some (.list items)) (h2 : r ≠ z) (h3 : items.length = xs.length) (h4 : (∀ (i : Nat) (v : V), items[i]? = some v → ∃ (a : Addr) (x : Str), xs[i]? = some x ∧ Res σ es 30 v (.ref a) ∧ IsName σ a x)) (h5 : Ext σ σ₂) (h6 : σ₂ z = some (.list [])) : FnI es z xs σ v σ₂
theorem c_filter_names (H : Pr G) {s T a : Addr} {es : List (Int × V)} {ep hep : Nat} {hes : List (Str × V)} {g : V} {xs : List Str} (hs : IsShelf σ s T) (hT : σ T = some (.idict es ep)) (ha : σ a = some (.sdict hes hep)) (hr : Res σ es 30 ((vat hes "Filter").getD .none) g)
    (hg : Fil σ es g xs) (hx : xs.length ≤ 100) (h : ∀ r σ', Ext σ σ' → σ r = none → σ' r = some (.list ((xs.map fullOf).map V.str)) → Q (.ref r) σ') : Kp G (.ref 249) ∧ CallV G (n + 3) σ (.ref 249) [.ref s, .ref a] Q := by
  refine ⟨kp_filter_names H, (in_filter_names H fun L hf => ?_).call⟩
  walk_at "m"
  refine ⟨_, _, getm_get' H hs, ?_⟩
  walk_at "m"
  refine c_get H hs hT ha hr fun σ₁ e1 => ?_
  walk_at "mi"
  have fin : ∀ z σ', Ext σ σ' → σ z = none → σ' z = some (.list ((xs.map fullOf).map V.str)) → Q (.ref z) σ' := fun z σ' e hz hv => h z σ' e hz hv
  have hd : (g = .none ∧ xs = []) ∨ (g.isNone = false ∧ g.plain = true) := by
    cases hg
    · exact .inl ⟨rfl, rfl⟩
    · exact .inr ⟨rfl, rfl⟩
    · exact .inr ⟨rfl, rfl⟩
  refine ex_if ?_
  walk_at "m_ev"
  walk_at "m_ev"
  walk_at "m_ev"
  refine cmp_is_none (by rcases hd with ⟨rfl, _⟩ | ⟨_, q⟩; rfl; exact q) ?_
  walk_at "m_ev"
  refine if_bool (fun q => ?_) fun q => ?_
  · have hgn : g = .none ∧ xs = [] := by
      rcases hd with q' | ⟨q', _⟩
      · exact q'
      · rw [q'] at q; cases q
    obtain ⟨rfl, rfl⟩ := hgn
    walk_at "m"
    refine ⟨sz (by simp), fun z hz => ?_⟩
    walk_at "m"
    exact fin z _ (e1.more hz) (e1.no hz) (St.set_same _ _ _)
  walk_at "mi"
  refine ⟨sz (by simp), fun z hz => ?_⟩
  have hz0 := e1.no hz
  walk_at "mi"
  refine for_list (Run.mono (Q := FnI es z xs σ) ?_ ?_)
  · cases hg with
    | none => cases q
    | @list l items _ hl hn hi =>
      walk_at "m"
      refine isi_list_list (Gd.look_of (St.set_new hz (e1 _ _ hl))) ?_
      walk_at "m"
      exact ⟨l, items, rfl, St.set_new hz (e1 _ _ hl), ne_of_some_none (e1 _ _ hl) hz, hn, hi, e1.more hz, St.set_same _ _ _⟩
    | @one b x hN =>
      obtain ⟨nd, nep, n1, n2⟩ := hN.ext (e1.more (o := .list []) hz)
      walk_at "m"
      refine isi_notT n1 n2 (cls_name H) (by rw [H.k]; kernel_rfl) rfl ?_
      walk_at "m"
      refine ⟨sz (by simp), fun y hy => ?_⟩
      refine ⟨y, [.ref b], rfl, St.set_same _ _ _, Ne.symm (ne_of_some_none (St.set_same _ z _) hy), rfl, fun i v hv => ?_, (e1.more hz).more hy, St.set_new hy (St.set_same _ _ _)⟩
      cases i with
      | zero => simp at hv; subst hv; exact ⟨b, x, rfl, .val (.inr (.inr ⟨x, hN⟩)), hN⟩
      | succ i => simp at hv
  · rintro v σ₂ ⟨r, items, rfl, s2, nrz, hl, hi, x2, s1⟩
    refine ⟨r, items, FnJ z s r xs items σ, rfl, fun i lv₃ σ₃ hj => hj.h4, s2, ⟨by walk_at "m_lv", by walk_at "m_lv", s1, x2, s2⟩, ?_, ?_⟩
    · rintro i v lv₃ σ₃ hv ⟨l1, l2, s3, x3, s4⟩
      obtain ⟨b, x, hx', hres, hN⟩ := hi i v hv
      walk_at "m"
      refine ⟨_, _, getm_fetch H (hs.ext x3), ?_⟩
      walk_at "m"
      refine ⟨kp_fetch H, c_fetch H (hs.ext x3) (x3 _ _ hT) (hres.ext x3) fun σ₄ e4 => ?_⟩
      obtain ⟨nd, nep, n1, n2⟩ := hN.ext (x3.trans e4)
      walk_at "m"
      refine isi_own n1 ?_
      walk_at "m"
      refine ⟨_, _, getm_append (Gd.look_of (e4 _ _ s3)), ?_⟩
      walk_at "m"
      refine attr_inst n1 n2 (v := .str x) (by kernel_rfl) rfl (cls_name H) (by rw [H.k]; kernel_rfl) ?_
      walk_at "m"
      refine c_full_name H fun σ₅ e5 => ?_
      walk_at "m"
      refine call_append (e5 _ _ (e4 _ _ s3)) (sz (by rw [List.length_map, List.length_map, List.length_take]; lia)) ⟨rfl, ?_⟩
      have e : ((xs.take i).map fullOf).map V.str ++ [.str (fullOf x)] = ((xs.take (i + 1)).map fullOf).map V.str := by rw [take_snoc hx']; simp
      rw [e]
      walk_at "m"
      exact ⟨by walk_at "m_lv", by walk_at "m_lv", St.set_same _ _ _, ((x3.trans e4).trans e5).upd hz0, St.upd nrz (e5 _ _ (e4 _ _ s4))⟩
    · rintro lv₃ σ₃ ⟨l1, l2, s3, x3, s4⟩
      rw [hl, List.take_length] at s3
      walk_at "m"
      exact fin z _ x3 hz0 s3
end
set_option hygiene false
section
variable {G : Gd} {n : Nat} {σ : St} {env : Env} {lv : Lv} {Q : V → St → Prop}
theorem locals_of {names : List (Str × NameKind)} (h : (names.all fun y => decide (y.2 = .local → names.lookup y.1 = some .local)) = true) : ∀ y ∈ names, y.2 = .local → names.lookup y.1 = some .local :=
  fun y hy => of_decide_eq_true (List.all_eq_true.mp h y hy)
theorem in_filter_parms (H : Pr G) {a0 a1 a2 : V} (h : ∀ L, FnEnv (e_filter_parms L) → (∀ a, L ≤ a → σ a = none) → Ex G n (e_filter_parms L) ((noV.set "head" a1).set "count" a2) ((σ.set (L + 1) (.cell (some a0))).set (L + 2) (.cell none)) (execs (fbody (top 37)) (e_filter_parms L)) fun r _ σ' => Q (retOf r) σ') : CallV G (n + 1) σ (.ref 254) [a0, a1, a2] Q :=
  call_top (o := k254) (st := top 37) (names := ["shelf", "head", "count"]) H e_filter_parms ((noV.set "head" a1).set "count" a2) (fun L => (σ.set (L + 1) (.cell (some a0))).set (L + 2) (.cell none)) rfl (fun L => by kernel_rfl) (fun L => by kernel_rfl) (by kernel_rfl) (by kernel_rfl) (by kernel_rfl) (by kernel_rfl)
    (fun vs hv => by obtain ⟨y0, y1, y2, rfl⟩ := len3 hv; kernel_rfl) (by kernel_rfl) (by kernel_rfl) (by decide +kernel) (by kernel_rfl) (by kernel_rfl) (by kernel_rfl) (by kernel_rfl) (by kernel_rfl) fun L hf hL => h L hf hL
abbrev Row := List (Str × V)
noncomputable def RowAt (σ : St) (es : List (Int × V)) (d : Addr) (row : Row) : Prop := ∃ (fs : Row) (ep : Nat), σ d = some (.sdict fs ep) ∧ fs.length = row.length ∧ (∀ k w, (k, w) ∈ fs → vat fs k = some w) ∧ ∀ (j : Nat) (k : Str) (w : V), fs[j]? = some (k, w) → ∃ x, row[j]? = some (k, x) ∧ Res σ es 30 w x
noncomputable def RowOf (σ : St) (es : List (Int × V)) (v : V) (row : Row) : Prop := (Res σ es 30 v .none ∧ row = []) ∨ ∃ d, Res σ es 30 v (.ref d) ∧ RowAt σ es d row
inductive Par (σ : St) (es : List (Int × V)) : V → List Row → Prop
  | none {rows : List Row} (h : ∀ r ∈ rows, r = []) : Par σ es .none rows
  | list {l : Addr} {items : List V} {rows : List Row} (hl : σ l = some (.list items)) (hn : items.length = rows.length) (hi : ∀ (i : Nat) (v : V), items[i]? = some v → ∃ row, rows[i]? = some row ∧ RowOf σ es v row) : Par σ es (.ref l) rows
  | one {d : Addr} {row : Row} (h : RowAt σ es d row) : Par σ es (.ref d) [row]
noncomputable def Rows (σ : St) (ds : List Addr) (rows : List Row) : Prop := ds.length = rows.length ∧ ∀ (i : Nat) (row : Row), rows[i]? = some row → ∃ d ep, ds[i]? = some d ∧ σ d = some (.sdict row ep)
theorem Rows.ext {σ' : St} (e : Ext σ σ') {ds : List Addr} {rows : List Row} (h : Rows σ ds rows) : Rows σ' ds rows := ⟨h.1, fun i row hr => let ⟨d, ep, h1, h2⟩ := h.2 i row hr; ⟨d, ep, h1, e _ _ h2⟩⟩
theorem Rows.snoc {ds : List Addr} {rows : List Row} {d : Addr} {row : Row} {ep : Nat} (h : Rows σ ds rows) (hd : σ d = some (.sdict row ep)) : Rows σ (ds ++ [d]) (rows ++ [row]) := by
  refine ⟨by simp [h.1], fun i r hr => ?_⟩
  rcases Nat.lt_or_ge i rows.length with q | q
  · rw [List.getElem?_append_left q] at hr
    obtain ⟨d', ep', h1, h2⟩ := h.2 i r hr
    exact ⟨d', ep', by rw [List.getElem?_append_left (by rw [h.1]; exact q)]; exact h1, h2⟩
  · have hi : i < (rows ++ [row]).length := by
      rcases Nat.lt_or_ge i (rows ++ [row]).length with w | w
      · exact w
      · rw [List.getElem?_eq_none w] at hr; cases hr
    rw [List.length_append] at hi
    simp at hi
    have : i = rows.length := by lia
    subst this
    rw [List.getElem?_append_right (Nat.le_refl _)] at hr
    simp at hr
    subst hr
    exact ⟨d, ep, by rw [List.getElem?_append_right (by rw [h.1]; exact Nat.le_refl _)]; simp [h.1], hd⟩
noncomputable def DictFor (σ₀ σ : St) (es : List (Int × V)) (d : Addr) (row : Row) : Prop := ∃ (fs : Row) (fep : Nat), σ d = some (.sdict fs fep) ∧ fs.length = row.length ∧ (∀ k w, (k, w) ∈ fs → vat fs k = some w) ∧ ∀ (j : Nat) (k : Str) (w : V), fs[j]? = some (k, w) → ∃ x, row[j]? = some (k, x) ∧ Res σ₀ es 30 w x
theorem Rows.upd {a : Addr} {o o' : O} (ha : σ a = some o) (hn : ∀ es ep, o ≠ .sdict es ep) {ds : List Addr} {rows : List Row} (h : Rows σ ds rows) : Rows (σ.set a o') ds rows :=
  ⟨h.1, fun i row hr => let ⟨d, ep, h1, h2⟩ := h.2 i row hr; ⟨d, ep, h1, St.upd (fun q => by rw [q, ha] at h2; exact hn _ _ (Option.some.inj h2)) h2⟩⟩
theorem DictFor.upd {σ₀ : St} {es : List (Int × V)} {a d : Addr} {o o' : O} (ha : σ a = some o) (hn : ∀ es ep, o ≠ .sdict es ep) {row : Row} (h : DictFor σ₀ σ es d row) : DictFor σ₀ (σ.set a o') es d row :=
  let ⟨fs, fep, h1, h2⟩ := h; ⟨fs, fep, St.upd (fun q => by rw [q, ha] at h1; exact hn _ _ (Option.some.inj h1)) h1, h2⟩
inductive FpJ (z : Addr) (r : Addr) (s : Addr) (rows : List Row) (items : List V) (L : Addr) (σ : St) (i : Nat) (lv : Lv) (σ' : St) : Prop where
  | mk (ds : List Addr) (rv : Option V) (h0 : lv "found" = some (.ref z)) (h1 : σ' z = some (.list (ds.map V.ref))) (h2 : Rows σ' ds (rows.take i)) (h3 : Ext σ σ') (h4 : σ' r = some (.list items)) (h5 : σ' (L + 1) = some (.cell (some (.ref s)))) (h6 : σ' (L + 2) = some (.cell rv)) : FpJ z r s rows items L σ i lv σ'
inductive FpB (z : Addr) (r : Addr) (s : Addr) (L : Addr) (ds : List Addr) (rows : List Row) (i : Nat) (items : List V) (es : List (Int × V)) (row : Row) (σ : St) (f : Fl) (lv₅ : Lv) (σ₅ : St) : Prop where
  | mk (h0 : f = .next) (h1 : lv₅ "found" = some (.ref z)) (h2 : σ₅ z = some (.list (ds.map V.ref))) (h3 : Rows σ₅ ds (rows.take i)) (h4 : Ext σ σ₅) (h5 : σ₅ r = some (.list items)) (h6 : σ₅ (L + 1) = some (.cell (some (.ref s)))) (d : Addr) (h7 : σ₅ (L + 2) = some (.cell (some (.ref d)))) (h8 : DictFor σ σ₅ es d row) : FpB z r s L ds rows i items es row σ f lv₅ σ₅
inductive FpI (es : List (Int × V)) (s L : Addr) (rows : List Row) (σ : St) (v : V) (σ₂ : St) : Prop where
  | mk (r : Addr) (items : List V) (h0 : v = .ref r) (h1 : σ₂ r = some (.list items)) (h2 : items.length = rows.length) (h3 : (∀ (i : Nat) (v : V), items[i]? = some v → ∃ row, rows[i]? = some row ∧ RowOf σ es v row)) (h4 : Ext σ σ₂) (h5 : σ₂ (L + 1) = some (.cell (some (.ref s)))) (h6 : σ₂ (L + 2) = some (.cell none)) : FpI es s L rows σ v σ₂
structure FpV (es : List (Int × V)) (row : Row) (σ σ₃ : St) (v' : V) (σ₄ : St) : Prop where
  h0 : Ext σ₃ σ₄
  h1 : ((v' = .none ∧ row = []) ∨ ∃ d, v' = .ref d ∧ DictFor σ σ₄ es d row)
inductive FpC (rows : List Row) (σ : St) (i : Nat) (ys : List V) (σ' : St) : Prop where
  | mk (ds : List Addr) (h0 : ys = ds.map V.ref) (h1 : Rows σ' ds (rows.take i)) (h2 : Ext σ σ') : FpC rows σ i ys σ'
theorem c_filter_parms (H : Pr G) {s T a : Addr} {es : List (Int × V)} {ep hep : Nat} {hes : List (Str × V)} {g : V} {rows : List Row} (hs : IsShelf σ s T) (hT : σ T = some (.idict es ep)) (ha : σ a = some (.sdict hes hep)) (hr : Res σ es 30 ((vat hes "DecodeParms").getD .none) g)
    (hg : Par σ es g rows) (hx : rows.length ≤ 100) (hm : ∀ r ∈ rows, vmerge [] r = r ∧ r.length ≤ 100) (h : ∀ r σ' ds, Ext σ σ' → σ r = none → σ' r = some (.list (ds.map V.ref)) → Rows σ' ds rows → Q (.ref r) σ') : Kp G (.ref 254) ∧ CallV G (n + 4) σ (.ref 254) [.ref s, .ref a, .int rows.length] Q := by
  refine ⟨kp_filter_parms H, (in_filter_parms H fun L hf hL => ?_)⟩
  have f1 := hL (L + 1) (Nat.le_add_right L 1)
  have f2 := hL (L + 2) (Nat.le_add_right L 2)
  have n12 : L + 2 ≠ L + 1 := fun e => absurd (Nat.add_left_cancel e) (by decide)
  have x0 : Ext σ ((σ.set (L + 1) (.cell (some (.ref s)))).set (L + 2) (.cell none)) := ((Ext.refl _).more f1).more (St.updN n12 f2)
  have c1 : ((σ.set (L + 1) (.cell (some (.ref s)))).set (L + 2) (.cell none)) (L + 1) = some (.cell (some (.ref s))) := St.upd (Ne.symm n12) (St.set_same _ _ _)
  have c2 : ((σ.set (L + 1) (.cell (some (.ref s)))).set (L + 2) (.cell none)) (L + 2) = some (.cell none) := St.set_same _ _ _
  generalize (σ.set (L + 1) (.cell (some (.ref s)))).set (L + 2) (.cell none) = σ₀ at x0 c1 c2
  have k1 : (e_filter_parms L).cells.lookup ("shelf" : Str) = some (L + 1) := by kernel_rfl
  have k2 : (e_filter_parms L).cells.lookup ("row" : Str) = some (L + 2) := by kernel_rfl
  walk_at "m"
  refine ⟨_, _, getm_get' H (hs.ext x0), ?_⟩
  walk_at "m"
  refine c_get H (hs.ext x0) (x0 _ _ hT) (x0 _ _ ha) (hr.ext x0) fun σ₁ e1 => ?_
  replace c1 := e1 _ _ c1
  replace c2 := e1 _ _ c2
  replace x0 := x0.trans e1
  clear e1
  walk_at "mi"
  have hd : (g = .none ∧ ∀ r ∈ rows, r = []) ∨ (g.isNone = false ∧ g.plain = true) := by
    cases hg
    · exact .inl ⟨rfl, by assumption⟩
    · exact .inr ⟨rfl, rfl⟩
    · exact .inr ⟨rfl, rfl⟩
  refine ex_if ?_
  walk_at "m_ev"
  walk_at "m_ev"
  walk_at "m_ev"
  refine cmp_is_none (by rcases hd with ⟨rfl, _⟩ | ⟨_, q⟩; rfl; exact q) ?_
  walk_at "m_ev"
  refine if_bool (fun q => ?_) fun q => ?_
  · have hgn : g = .none ∧ ∀ r ∈ rows, r = [] := by
      rcases hd with q' | ⟨q', _⟩
      · exact q'
      · rw [q'] at q; cases q
    obtain ⟨rfl, hr0⟩ := hgn
    walk_at "m"
    refine ev_comp (cl := []) ?_ (by kernel_rfl) (by kernel_rfl) (locals_of (by kernel_rfl))
    walk_at "m"
    refine call_range1 fun r hr => ?_
    refine compH_range (a := 0) (b := (rows.length : Int)) (c := 1) (m := rows.length) (FpC rows σ) hf (by kernel_rfl) (fun C => by kernel_rfl) (by kernel_rfl) (St.set_same _ _ _) (small_one (by lia) (by lia) (by lia) (by lia)) (by rw [rangeSize_one]; split <;> lia) (by lia)
      ⟨[], rfl, ⟨by simp, fun i row hi => by simp at hi⟩, x0.more hr⟩ ?_ ?_
    · rintro C i ys σ₂ hfc hi ⟨ds, rfl, hR, x2⟩
      refine tests_nil (if_tt ?_)
      walk_at "m"
      intro z hz
      obtain ⟨row, hrow⟩ : ∃ row, rows[i]? = some row := ⟨_, List.getElem?_eq_getElem hi⟩
      have er := hr0 row (List.mem_of_getElem? hrow)
      subst er
      refine ⟨ds ++ [z], by simp, ?_, x2.more hz⟩
      rw [take_snoc hrow]
      exact (hR.ext ((Ext.refl _).more hz)).snoc (St.set_same _ _ _)
    · rintro ys σ₂ ⟨ds, rfl, hR, x2⟩ D hD
      rw [List.take_length] at hR
      walk_at "m"
      exact h D _ ds (x2.more hD) (x2.no hD) (St.set_same _ _ _) (hR.ext ((Ext.refl _).more hD))
  iterate 3 walk_at "m_ev"
  refine ex_assign (Run.mono (Q := FpI es s L rows σ) ?_ ?_)
  · cases hg with
    | none => cases q
    | @list l items _ hl hn hi =>
      walk_at "m"
      refine isi_list_list (Gd.look_of (x0 _ _ hl)) ?_
      walk_at "m"
      exact ⟨l, items, rfl, x0 _ _ hl, hn, hi, x0, c1, c2⟩
    | @one d row hR =>
      obtain ⟨fs, fep, g1, g2, g3, g4⟩ := id hR
      walk_at "m"
      refine isi_dict_list (x0 _ _ g1) ?_
      walk_at "m"
      refine ⟨sz (by simp), fun y hy => ?_⟩
      refine ⟨y, [.ref d], rfl, St.set_same _ _ _, rfl, fun i v hv => ?_, x0.more hy, St.set_new hy c1, St.set_new hy c2⟩
      cases i with
      | zero => simp at hv; subst hv; exact ⟨row, rfl, .inr ⟨d, .val (.inr (.inl ⟨fs, fep, g1⟩)), hR⟩⟩
      | succ i => simp at hv
  · rintro v σ₂ ⟨r, items, rfl, s2, hl, hi, x2, c1, c2⟩
    walk_at "m"
    refine call_len_list (by walk_at "m_s") (sz (by lia)) ?_
    walk_at "m"
    rw [hl]
    refine if_bool (fun q => ?_) fun _ => ?_
    · simp at q
    walk_at "mi"
    refine ⟨sz (by simp), fun z hz => ?_⟩
    have hz0 := x2.no hz
    have nrz := ne_of_some_none s2 hz
    have n1z := ne_of_some_none c1 hz
    have n2z := ne_of_some_none c2 hz
    walk_at "mi"
    refine for_list ?_
    walk_at "m"
    refine ⟨r, items, FpJ z r s rows items L σ, rfl, fun i lv₃ σ₃ hj => by obtain ⟨_, _, _, _, _, _, hj, _⟩ := hj; exact hj, St.set_new hz s2,
      ⟨[], none, by walk_at "m_lv", St.set_same _ _ _, ⟨by simp, fun i row hi => by simp at hi⟩, x2.more hz, St.set_new hz s2, St.set_new hz c1, St.set_new hz c2⟩, ?_, ?_⟩
    · rintro i v lv₃ σ₃ hv ⟨ds, rv, l1, s3, hR, x3, s4, c3, c4⟩
      obtain ⟨row, hrow, hof⟩ := hi i v hv
      obtain ⟨hmr, hml⟩ := hm row (List.mem_of_getElem? hrow)
      have hil : i < rows.length := by
        rcases Nat.lt_or_ge i rows.length with q | q
        · exact q
        · rw [List.getElem?_eq_none q] at hrow; cases hrow
      have dsl := hR.1
      rw [List.length_take] at dsl
      iterate 2 walk_at "m_ev"
      refine ex_assign (Run.mono (Q := FpV es row σ σ₃) ?_ ?_)
      · walk_at "m"
        refine ⟨_, _, getm_fetch H (hs.ext x3), ?_⟩
        walk_at "m"
        rcases hof with ⟨hres, rfl⟩ | ⟨d, hres, fs, fep, g1, g2, g3, g4⟩
        · exact ⟨kp_fetch H, c_fetch H (hs.ext x3) (x3 _ _ hT) (hres.ext x3) fun σ₄ e4 => ⟨e4, .inl ⟨rfl, rfl⟩⟩⟩
        · exact ⟨kp_fetch H, c_fetch H (hs.ext x3) (x3 _ _ hT) (hres.ext x3) fun σ₄ e4 => ⟨e4, .inr ⟨d, rfl, fs, fep, e4 _ _ (x3 _ _ g1), g2, g3, g4⟩⟩⟩
      · rintro v' σ₄ ⟨e4, hv'⟩
        have s3' := e4 _ _ s3
        have c3' := e4 _ _ c3
        have c4' := e4 _ _ c4
        have s4' := e4 _ _ s4
        have hR' := hR.ext e4
        have x4 := x3.trans e4
        have n2r : L + 2 ≠ r := ne_of_diff c4' s4' (by intro q; cases q)
        have n2z' : L + 2 ≠ z := n2z
        iterate 3 walk_at "m_ev"
        refine ExR.mono (Q := FpB z r s L ds rows i items es row σ) ?_ ?_
        · have nc : ∀ es ep, O.cell rv ≠ .sdict es ep := fun _ _ e => by cases e
          refine ex_if ?_
          have t1 : (σ₄.set (L + 2) (.cell (some v'))) (L + 2) = some (.cell (some v')) := St.set_same _ _ _
          have t2 : (σ₄.set (L + 2) (.cell (some v'))) z = some (.list (ds.map V.ref)) := St.upd (Ne.symm n2z) s3'
          have t3 : (σ₄.set (L + 2) (.cell (some v'))) r = some (.list items) := St.upd (Ne.symm n2r) s4'
          have t4 : (σ₄.set (L + 2) (.cell (some v'))) (L + 1) = some (.cell (some (.ref s))) := St.upd (Ne.symm n12) c3'
          have t5 : Rows (σ₄.set (L + 2) (.cell (some v'))) ds (rows.take i) := hR'.upd c4' nc
          have t6 : Ext σ (σ₄.set (L + 2) (.cell (some v'))) := x4.upd f2
          rcases hv' with ⟨rfl, rfl⟩ | ⟨d, rfl, hD⟩
          · generalize σ₄.set (L + 2) (.cell (some V.none)) = σ₅ at t1 t2 t3 t4 t5 t6
            walk_at "m"
            refine if_tt ?_
            walk_at "m"
            intro y hy
            have u1 := St.set_new (o := .sdict [] 0) hy t1
            walk_at "m"
            have ny : y ≠ L + 2 := Ne.symm (ne_of_some_none t1 hy)
            exact ⟨rfl, by walk_at "m_lv", St.upd (Ne.symm n2z) (St.set_new hy t2), (t5.ext ((Ext.refl _).more hy)).upd u1 (fun _ _ e => by cases e), (t6.more hy).upd f2, St.upd (Ne.symm n2r) (St.set_new hy t3), St.upd (Ne.symm n12) (St.set_new hy t4), y, St.set_same _ _ _,
              [], 0, St.upd ny (St.set_same _ _ _), rfl, (fun k w hk => absurd hk (by simp)), fun j k w hj => by simp at hj⟩
          · have t7 : DictFor σ (σ₄.set (L + 2) (.cell (some (.ref d)))) es d row := hD.upd c4' nc
            generalize σ₄.set (L + 2) (.cell (some (V.ref d))) = σ₅ at t1 t2 t3 t4 t5 t6 t7
            walk_at "m"
            refine if_ff ?_
            walk_at "m"
            exact ⟨rfl, by walk_at "m_lv", t2, t5, t6, t3, t4, d, t1, t7⟩
        · clear hv' s3' c3' c4' s4' hR' x4 e4 n2r
          rintro f lv₅ σ₅ ⟨rfl, l5, s5, hR5, x5, r5, c5, d, c6, fs, fep, g1, g2, g3, g4⟩
          walk_at "m"
          refine isi_dict_dict g1 ?_
          walk_at "m"
          refine ⟨_, _, getm_append (Gd.look_of s5), ?_⟩
          walk_at "m"
          refine ev_comp (cl := [(("shelf" : Str), L + 1), (("row" : Str), L + 2)]) ?_ (by kernel_rfl) (by kernel_rfl) (locals_of (by kernel_rfl))
          walk_at "m"
          refine compH_keys (fun j ys σ' => ∃ ts : List Addr, ys = ts.map V.ref ∧ ts.length = j ∧ (∀ (m : Nat) (t : Addr) (p : Str × V), ts[m]? = some t → row[m]? = some p → σ' t = some (.tuple [.str p.1, p.2])) ∧ Ext σ₅ σ') hf (by kernel_rfl) (fun C => by kernel_rfl) (by kernel_rfl)
            (fun j ys σ₆ hj => by obtain ⟨_, _, _, _, e⟩ := hj; exact e _ _ g1) g1 (by lia) ⟨[], rfl, rfl, fun m t p hm => by simp at hm, Ext.refl _⟩ ?_ ?_
          · rintro C j ⟨k, w⟩ ys σ₆ hfc hp ⟨ts, rfl, hts, htt, e6⟩
            obtain ⟨x, hrx, hres⟩ := g4 j k w hp
            have hvat := g3 k w (List.mem_of_getElem? hp)
            have q1 : (cEnv ⟨.function, [(Str.ofString ".0", .local), (Str.ofString "key", .local), (Str.ofString "row", .free), (Str.ofString "shelf", .free)], false, false, []⟩ [(("shelf" : Str), L + 1), (("row" : Str), L + 2)] C (e_filter_parms L)).cells.lookup ("row" : Str) = some (L + 2) := by kernel_rfl
            have q2 : (cEnv ⟨.function, [(Str.ofString ".0", .local), (Str.ofString "key", .local), (Str.ofString "row", .free), (Str.ofString "shelf", .free)], false, false, []⟩ [(("shelf" : Str), L + 1), (("row" : Str), L + 2)] C (e_filter_parms L)).cells.lookup ("shelf" : Str) = some (L + 1) := by kernel_rfl
            have c5' := e6 _ _ c5
            have c6' := e6 _ _ c6
            have x6 := x5.trans e6
            refine tests_nil (if_tt ?_)
            walk_at "m"
            refine ⟨_, _, getm_fetch H (hs.ext x6), ?_⟩
            walk_at "m"
            refine item_sdict (e6 _ _ g1) hvat ?_
            walk_at "m"
            refine ⟨kp_fetch H, c_fetch H (hs.ext x6) (x6 _ _ hT) (hres.ext x6) fun σ₇ e7 => ?_⟩
            walk_at "m"
            refine ⟨sz (by simp), fun t ht => ⟨ts ++ [t], by simp, by simp [hts], fun m t' p hm hp' => ?_, (e6.trans e7).more ht⟩⟩
            rcases Nat.lt_or_ge m ts.length with q | q
            · rw [List.getElem?_append_left q] at hm
              exact St.set_new ht (e7 _ _ (htt m t' p hm hp'))
            · have hml : m < (ts ++ [t]).length := by
                rcases Nat.lt_or_ge m (ts ++ [t]).length with w | w
                · exact w
                · rw [List.getElem?_eq_none w] at hm; cases hm
              rw [List.length_append] at hml
              simp at hml
              have : m = ts.length := by lia
              subst this
              rw [List.getElem?_append_right (Nat.le_refl _)] at hm
              simp at hm
              subst hm
              rw [hts, hrx] at hp'
              cases hp'
              exact St.set_same _ _ _
          · rintro ys σ₆ ⟨ts, rfl, hts, htt, e6⟩ D hD
            walk_at "m"
            refine call_dict_pairs (ps := row) (Gd.look_of (St.set_same _ _ _)) (by lia) (fun m t p hm hp => Gd.look_of (St.set_new hD (htt m t p hm hp))) (by lia) fun y yep hy => ?_
            rw [hmr]
            walk_at "m"
            refine call_append (St.set_new hy (St.set_new hD (e6 _ _ s5))) (sz (by rw [List.length_map]; lia)) ⟨rfl, ?_⟩
            have e8 : ds.map V.ref ++ [V.ref y] = (ds ++ [y]).map V.ref := by simp
            rw [e8]
            have u1 := St.set_new (o := .sdict row yep) hy (St.set_new (o := .list (ts.map V.ref)) hD (e6 _ _ s5))
            have u2 := hR5.ext ((e6.more (o := .list (ts.map V.ref)) hD).more (o := .sdict row yep) hy)
            have u3 := u2.snoc (St.set_same _ y _)
            rw [← take_snoc hrow] at u3
            have nrz' : r ≠ z := nrz
            walk_at "m"
            exact ⟨ds ++ [y], some (.ref d), by walk_at "m_lv", St.set_same _ _ _, u3.upd u1 (fun _ _ e => by cases e), (((x5.trans e6).more hD).more hy).upd hz0, St.upd nrz (St.set_new hy (St.set_new hD (e6 _ _ r5))), St.upd n1z (St.set_new hy (St.set_new hD (e6 _ _ c5))), St.upd n2z (St.set_new hy (St.set_new hD (e6 _ _ c6)))⟩
    · rintro lv₃ σ₃ ⟨ds, rv, l1, s3, hR, x3, s4, c3, c4⟩
      rw [hl, List.take_length] at hR
      walk_at "m"
      exact h z σ₃ ds x3 hz0 s3 hR
end
set_option hygiene false
section
variable {G : Gd} {n : Nat} {σ : St} {env : Env} {lv : Lv} {Q : V → St → Prop}
noncomputable def Names (σ : St) (as : List Addr) (xs : List Str) : Prop := as.length = xs.length ∧ ∀ (i : Nat) (x : Str), xs[i]? = some x → ∃ a, as[i]? = some a ∧ IsName σ a (fullOf x)
theorem Names.ext {σ' : St} (e : Ext σ σ') {as : List Addr} {xs : List Str} (h : Names σ as xs) : Names σ' as xs := ⟨h.1, fun i x hx => let ⟨a, h1, h2⟩ := h.2 i x hx; ⟨a, h1, h2.ext e⟩⟩
theorem snoc_at {α : Type} {l : List α} {x y : α} {i : Nat} (h : (l ++ [x])[i]? = some y) : (i < l.length ∧ l[i]? = some y) ∨ (i = l.length ∧ y = x) := by
  rcases Nat.lt_or_ge i l.length with q | q
  · rw [List.getElem?_append_left q] at h; exact .inl ⟨q, h⟩
  · have hi : i < (l ++ [x]).length := by
      rcases Nat.lt_or_ge i (l ++ [x]).length with w | w
      · exact w
      · rw [List.getElem?_eq_none w] at h; cases h
    rw [List.length_append] at hi
    simp at hi
    have : i = l.length := by lia
    subst this
    rw [List.getElem?_append_right (Nat.le_refl _)] at h
    simp at h
    exact .inr ⟨rfl, h.symm⟩
theorem at_snoc {α : Type} (l : List α) (x : α) {i : Nat} (h : i = l.length) : (l ++ [x])[i]? = some x := by subst h; rw [List.getElem?_append_right (Nat.le_refl _)]; simp
theorem Names.snoc {as : List Addr} {xs : List Str} {a : Addr} {x : Str} (h : Names σ as xs) (ha : IsName σ a (fullOf x)) : Names σ (as ++ [a]) (xs ++ [x]) := by
  refine ⟨by simp [h.1], fun i y hy => ?_⟩
  rcases snoc_at hy with ⟨q, hy⟩ | ⟨q, rfl⟩
  · obtain ⟨b, h1, h2⟩ := h.2 i y hy
    exact ⟨b, by rw [List.getElem?_append_left (by rw [h.1]; exact q)]; exact h1, h2⟩
  · exact ⟨a, at_snoc as a (by rw [h.1]; exact q), ha⟩
noncomputable def FilV (σ : St) (xs : List Str) (v : V) : Prop := (∃ x a, xs = [x] ∧ v = .ref a ∧ IsName σ a (fullOf x)) ∨ (xs.length ≠ 1 ∧ ∃ l as, v = .ref l ∧ σ l = some (.list (as.map V.ref)) ∧ Names σ as xs)
/-- the parts: none for a row without entries, else a copy that is new -/
noncomputable def PartAt (σ₀ σ : St) (row : Row) (v : V) : Prop := (row = [] ∧ v = .none) ∨ (row ≠ [] ∧ ∃ d ep, v = .ref d ∧ σ d = some (.sdict row ep) ∧ σ₀ d = none)
noncomputable def Parts (σ₀ σ : St) (items : List V) (rows : List Row) : Prop := items.length = rows.length ∧ ∀ (i : Nat) (row : Row), rows[i]? = some row → ∃ v, items[i]? = some v ∧ PartAt σ₀ σ row v
theorem PartAt.ext {σ₀ σ' : St} (e : Ext σ σ') {row : Row} {v : V} (h : PartAt σ₀ σ row v) : PartAt σ₀ σ' row v := by
  rcases h with h | ⟨h, d, ep, h1, h2, h3⟩
  · exact .inl h
  · exact .inr ⟨h, d, ep, h1, e _ _ h2, h3⟩
theorem Parts.ext {σ₀ σ' : St} (e : Ext σ σ') {items : List V} {rows : List Row} (h : Parts σ₀ σ items rows) : Parts σ₀ σ' items rows := ⟨h.1, fun i row hr => let ⟨v, h1, h2⟩ := h.2 i row hr; ⟨v, h1, h2.ext e⟩⟩
theorem Parts.snoc {σ₀ : St} {items : List V} {rows : List Row} {v : V} {row : Row} (h : Parts σ₀ σ items rows) (hv : PartAt σ₀ σ row v) : Parts σ₀ σ (items ++ [v]) (rows ++ [row]) := by
  refine ⟨by simp [h.1], fun i y hy => ?_⟩
  rcases snoc_at hy with ⟨q, hy⟩ | ⟨q, rfl⟩
  · obtain ⟨b, h1, h2⟩ := h.2 i y hy
    exact ⟨b, by rw [List.getElem?_append_left (by rw [h.1]; exact q)]; exact h1, h2⟩
  · exact ⟨v, at_snoc items v (by rw [h.1]; exact q), hv⟩
noncomputable def ParV (σ₀ σ : St) (rows : List Row) (v : V) : Prop := (∃ row, rows = [row] ∧ PartAt σ₀ σ row v) ∨ (rows.length ≠ 1 ∧ ∃ l items, v = .ref l ∧ σ l = some (.list items) ∧ Parts σ₀ σ items rows)
theorem IsName.put {d a : Addr} {es : Row} {ep : Nat} {o : O} {x : Str} (hd : σ d = some (.sdict es ep)) (hne : ∀ v, es ≠ [(("text" : Str), v)]) (h : IsName σ a x) : IsName (σ.set d o) a x := by
  obtain ⟨D, ep', h1, h2⟩ := h
  refine ⟨D, ep', St.upd (fun q => by rw [q, hd] at h1; cases h1) h1, St.upd (fun q => ?_) h2⟩
  rw [q, hd] at h2
  cases h2
  exact hne _ rfl
theorem FilV.put {d : Addr} {es : Row} {ep : Nat} {o : O} {xs : List Str} {v : V} (hd : σ d = some (.sdict es ep)) (hne : ∀ v, es ≠ [(("text" : Str), v)]) (h : FilV σ xs v) : FilV (σ.set d o) xs v := by
  rcases h with ⟨x, a, h1, h2, h3⟩ | ⟨h1, l, as, h2, h3, h4, h5⟩
  · exact .inl ⟨x, a, h1, h2, h3.put hd hne⟩
  · exact .inr ⟨h1, l, as, h2, St.upd (fun q => by rw [q, hd] at h3; cases h3) h3, h4, fun i x hx => let ⟨a, g1, g2⟩ := h5 i x hx; ⟨a, g1, g2.put hd hne⟩⟩
theorem FilV.ext {σ' : St} (e : Ext σ σ') {xs : List Str} {v : V} (h : FilV σ xs v) : FilV σ' xs v := by
  rcases h with ⟨x, a, h1, h2, h3⟩ | ⟨h1, l, as, h2, h3, h4⟩
  · exact .inl ⟨x, a, h1, h2, h3.ext e⟩
  · exact .inr ⟨h1, l, as, h2, e _ _ h3, h4.ext e⟩
theorem PartAt.put {σ₀ : St} {d : Addr} {o o' : O} {row : Row} {v : V} (h0 : σ₀ d = some o') (h : PartAt σ₀ σ row v) : PartAt σ₀ (σ.set d o) row v := by
  rcases h with h | ⟨h, a, ep, h1, h2, h3⟩
  · exact .inl h
  · exact .inr ⟨h, a, ep, h1, St.upd (fun q => by rw [q, h0] at h3; cases h3) h2, h3⟩
theorem PartAt.base {σ₀ σ₁ : St} (e : Ext σ₀ σ₁) {row : Row} {v : V} (h : PartAt σ₁ σ row v) : PartAt σ₀ σ row v := by
  rcases h with h | ⟨h, a, ep, h1, h2, h3⟩
  · exact .inl h
  · exact .inr ⟨h, a, ep, h1, h2, e.no h3⟩
theorem ParV.put {σ₀ : St} {d : Addr} {es : Row} {ep : Nat} {o o' : O} {rows : List Row} {v : V} (h0 : σ₀ d = some o') (hd : σ d = some (.sdict es ep)) (h : ParV σ₀ σ rows v) : ParV σ₀ (σ.set d o) rows v := by
  rcases h with ⟨row, h1, h2⟩ | ⟨h1, l, items, h2, h3, h4, h5⟩
  · exact .inl ⟨row, h1, h2.put h0⟩
  · exact .inr ⟨h1, l, items, h2, St.upd (fun q => by rw [q, hd] at h3; cases h3) h3, h4, fun i r hr => let ⟨v, g1, g2⟩ := h5 i r hr; ⟨v, g1, g2.put h0⟩⟩
theorem ParV.base {σ₀ σ₁ : St} (e : Ext σ₀ σ₁) {rows : List Row} {v : V} (h : ParV σ₁ σ rows v) : ParV σ₀ σ rows v := by
  rcases h with ⟨row, h1, h2⟩ | ⟨h1, l, items, h2, h3, h4, h5⟩
  · exact .inl ⟨row, h1, h2.base e⟩
  · exact .inr ⟨h1, l, items, h2, h3, h4, fun i r hr => let ⟨v, g1, g2⟩ := h5 i r hr; ⟨v, g1, g2.base e⟩⟩
noncomputable def anyRow (rows : List Row) : Bool := rows.any fun r => !r.isEmpty
theorem anyRow_take {rows : List Row} {i : Nat} {row : Row} (h : rows[i]? = some row) : anyRow (rows.take (i + 1)) = (anyRow (rows.take i) || !row.isEmpty) := by
  rw [take_snoc h]; simp [anyRow]
theorem key1 : (("Filter" : Str)) ≠ "text" := by decide +kernel
abbrev FilH (σ : St) (xs : List Str) (fp : Row) : Prop := (xs = [] ∧ fp = []) ∨ (xs ≠ [] ∧ ∃ v, fp = [(("Filter" : Str), v)] ∧ FilV σ xs v)
abbrev ParH (σ₀ σ : St) (rows : List Row) (pp : Row) : Prop := (anyRow rows = false ∧ pp = []) ∨ (anyRow rows = true ∧ ∃ v, pp = [(("DecodeParms" : Str), v)] ∧ ParV σ₀ σ rows v)
theorem filh_ext {σ' : St} {xs : List Str} {fp : Row} (h : FilH σ xs fp) (e : Ext σ σ') : FilH σ' xs fp := by
  rcases h with h | ⟨a, v, b, c⟩
  · exact .inl h
  · exact .inr ⟨a, v, b, c.ext e⟩
theorem filh_put {d : Addr} {es : Row} {ep : Nat} {o : O} {xs : List Str} {fp : Row} (h : FilH σ xs fp) (hd : σ d = some (.sdict es ep)) (hne : ∀ v, es ≠ [(("text" : Str), v)]) : FilH (σ.set d o) xs fp := by
  rcases h with h | ⟨a, v, b, c⟩
  · exact .inl h
  · exact .inr ⟨a, v, b, c.put hd hne⟩
inductive HdA (d : Addr) (rl : Addr) (len : Int) (xs : List Str) (σ : St) (f : Fl) (lv' : Lv) (σ' : St) : Prop where
  | mk (h0 : f = .next) (h1 : lv' "head" = some (.ref d)) (h2 : lv' "rows" = some (.ref rl)) (h3 : lv' "length" = some (.int len)) (h4 : Ext σ σ') (fp : Row) (ep : Nat) (h5 : σ' d = some (.sdict fp ep)) (h6 : (FilH σ' xs fp)) : HdA d rl len xs σ f lv' σ'
inductive HdB (d : Addr) (len : Int) (xs : List Str) (fp : Row) (rows : List Row) (σ : St) (σ₃ : St) (f : Fl) (lv' : Lv) (σ' : St) : Prop where
  | mk (h0 : f = .next) (h1 : lv' "head" = some (.ref d)) (h2 : lv' "length" = some (.int len)) (h3 : Ext σ σ') (pp : Row) (ep : Nat) (h4 : σ' d = some (.sdict (fp ++ pp) ep)) (h5 : (FilH σ' xs fp)) (h6 : (ParH σ₃ σ' rows pp)) : HdB d len xs fp rows σ σ₃ f lv' σ'
inductive HdN (xs : List Str) (σ₀ : St) (i : Nat) (ys : List V) (σ' : St) : Prop where
  | mk (as : List Addr) (h0 : ys = as.map V.ref) (h1 : Names σ' as (xs.take i)) (h2 : Ext σ₀ σ') : HdN xs σ₀ i ys σ'
structure HdR (rows : List Row) (σ₃ : St) (i : Nat) (ys : List V) (σ' : St) : Prop where
  h0 : (ys.isEmpty = !anyRow (rows.take i))
  h1 : ys.length ≤ i
  h2 : Ext σ₃ σ'
theorem c_head_of (H : Pr G) {nl rl : Addr} {xs : List Str} {ds : List Addr} {rows : List Row} {len : Int} (hn : σ nl = some (.list (xs.map V.str))) (hr : σ rl = some (.list (ds.map V.ref))) (hR : Rows σ ds rows) (hx : xs.length ≤ 100) (hl : rows.length ≤ 100) (hm : ∀ r ∈ rows, r.length ≤ 100)
    (h : ∀ (d : Addr) (σ' : St) (ep : Nat) (fp pp : Row), Ext σ σ' → σ d = none → σ' d = some (.sdict (fp ++ pp ++ [(("Length" : Str), V.int len)]) ep) → (FilH σ' xs fp) → (ParH σ σ' rows pp) → Q (.ref d) σ') :
    Kp G (.ref 280) ∧ CallV G (n + 4) σ (.ref 280) [.ref nl, .ref rl, .int len] Q := by
  refine ⟨kp_head_of H, (in_head_of H fun L hf => ?_).call⟩
  have dsl := hR.1
  walk_at "mi"
  intro d hd
  have x0 : Ext σ (σ.set d (.sdict [] 0)) := (Ext.refl σ).more hd
  have s0 : (σ.set d (.sdict [] 0)) d = some (.sdict [] 0) := St.set_same _ _ _
  generalize σ.set d (.sdict [] 0) = σ₀ at x0 s0
  walk_at "mi"
  refine ex_assign_comp (cl := []) hf ?_ (of_decide_eq_true (by kernel_rfl)) (by kernel_rfl) (by kernel_rfl) (locals_of (by kernel_rfl)) (by kernel_rfl)
  walk_at "m"
  refine compH_list (HdN xs σ₀) hf (by kernel_rfl) (fun C => by kernel_rfl) (by kernel_rfl)
    (fun k ys σ₅ hj => by obtain ⟨_, _, _, e⟩ := hj; exact e _ _ (x0 _ _ hn)) (x0 _ _ hn) (by rw [List.length_map]; lia) ⟨[], rfl, ⟨by simp, fun i x hi => by simp at hi⟩, Ext.refl _⟩ ?_ ?_
  · rintro C i v ys σ₁ hfc hv ⟨as, rfl, hN, e1⟩
    rw [List.getElem?_map] at hv
    obtain ⟨x, hx', rfl⟩ := Option.map_eq_some_iff.mp hv
    refine tests_nil (if_tt ?_)
    walk_at "m"
    refine c_full_name H fun σ₂ e2 => ?_
    walk_at "m"
    refine c_Name H fun a σ₃ e3 ha hN' => ?_
    refine ⟨as ++ [a], by simp, ?_, (e1.trans e2).trans e3⟩
    rw [take_snoc hx']
    exact (hN.ext (e2.trans e3)).snoc hN'
  · rintro ys σ₁ ⟨as, rfl, hN, e1⟩ nm hnm
    rw [List.length_map, List.take_length] at hN
    have s1 := St.set_new (o := .list (as.map V.ref)) hnm (e1 _ _ s0)
    have s2 : (σ₁.set nm (.list (as.map V.ref))) nm = some (.list (as.map V.ref)) := St.set_same _ _ _
    replace hN := hN.ext ((Ext.refl _).more (o := .list (as.map V.ref)) hnm)
    have x1 := (x0.trans e1).more (o := .list (as.map V.ref)) hnm
    generalize σ₁.set nm (.list (as.map V.ref)) = σ₂ at s1 s2 hN x1
    have asl := hN.1
    iterate 2 walk_at "m_ev"
    refine ExR.mono (Q := HdA d rl len xs σ) ?_ ?_
    · walk_at "m"
      refine ⟨sz (by simp), fun z hz => ?_⟩
      refine cmp_ne_nil (St.set_new hz s2 |> Gd.look_of) (Gd.look_of (St.set_same _ _ _)) ?_
      walk_at "m"
      have t1 := St.set_new (o := .list []) hz s1
      have t2 := St.set_new (o := .list []) hz s2
      replace hN := hN.ext ((Ext.refl _).more (o := .list []) hz)
      have x2 := x1.more (o := .list []) hz
      generalize σ₂.set z (.list []) = σ₃ at t1 t2 hN x2
      refine if_bool (fun q => ?_) fun q => ?_
      · have hxs : xs ≠ [] := fun e => by subst e; simp at asl; subst asl; simp at q
        have hne : ∀ v, ([] : Row) ≠ [(("text" : Str), v)] := fun v e => by cases e
        walk_at "m"
        refine call_len_list (Gd.look_of t2) (sz (by rw [List.length_map]; lia)) ?_
        walk_at "m"
        rw [List.length_map, asl]
        refine if_bool (fun w => ?_) fun w => ?_
        · have hx1 : (xs.length : Int) = 1 := of_decide_eq_true w
          obtain ⟨x, rfl⟩ : ∃ x, xs = [x] := by
            match xs, hx1 with
            | [x], _ => exact ⟨x, rfl⟩
            | [], h => simp at h
            | _ :: _ :: _, h => simp at h; lia
          obtain ⟨a, ha1, ha2⟩ := hN.2 0 x rfl
          walk_at "m"
          refine item_list (Gd.look_of t2) (by decide) (by decide) (v := .ref a) (by rw [show (0 : Int).toNat = 0 from rfl, List.getElem?_map, ha1]; rfl) ?_
          walk_at "m"
          refine setI_sdict t1 (sz (by simp)) fun ep => ?_
          walk_at "m"
          exact ⟨rfl, by walk_at "m_lv", by walk_at "m_lv", by walk_at "m_lv", x2.upd hd, _, ep, St.set_same _ _ _, .inr ⟨hxs, .ref a, rfl, (FilV.put t1 hne (.inl ⟨x, a, rfl, rfl, ha2⟩))⟩⟩
        · have hx1 : xs.length ≠ 1 := fun e => by rw [e] at w; exact absurd w (by decide)
          walk_at "m"
          refine setI_sdict t1 (sz (by simp)) fun ep => ?_
          walk_at "m"
          exact ⟨rfl, by walk_at "m_lv", by walk_at "m_lv", by walk_at "m_lv", x2.upd hd, _, ep, St.set_same _ _ _, .inr ⟨hxs, .ref nm, rfl, (FilV.put t1 hne (.inr ⟨hx1, nm, as, rfl, t2, hN⟩))⟩⟩
      · have hxs : xs = [] := by
          cases xs with
          | nil => rfl
          | cons => cases as with
            | nil => simp at asl
            | cons => simp at q
        walk_at "m"
        exact ⟨rfl, by walk_at "m_lv", by walk_at "m_lv", by walk_at "m_lv", x2, [], 0, t1, .inl ⟨hxs, rfl⟩⟩
    · clear s1 s2 hN x1 e1
      rintro f lv₃ σ₃ ⟨rfl, l1, l2, l3, x3, fp, ep3, t1, hfp⟩
      have hne3 : ∀ v, fp ≠ [(("text" : Str), v)] := by
        rintro v rfl
        rcases hfp with ⟨_, e⟩ | ⟨_, w, e, _⟩
        · cases e
        · exact key1 (congrArg Prod.fst (List.cons.inj e).1).symm
      have r3 := x3 _ _ hr
      have hR3 := hR.ext x3
      iterate 2 walk_at "m_ev"
      refine ExR.mono (Q := HdB d len xs fp rows σ σ₃) ?_ ?_
      · refine ex_if ?_
        refine ts_cmp ?_
        refine ev_comp (cl := []) ?_ (by kernel_rfl) (by kernel_rfl) (locals_of (by kernel_rfl))
        walk_at "m"
        refine compH_list (HdR rows σ₃) hf (by kernel_rfl) (fun C => by kernel_rfl) (by kernel_rfl)
          (fun k ys σ₅ hj => hj.h2 _ _ r3) r3 (by rw [List.length_map]; lia) ⟨rfl, Nat.le_refl _, Ext.refl _⟩ ?_ ?_
        · rintro C i v ys σ₄ hfc hv ⟨j1, j2, e4⟩
          rw [List.getElem?_map] at hv
          obtain ⟨d', hd', rfl⟩ := Option.map_eq_some_iff.mp hv
          obtain ⟨row, hrow⟩ : ∃ row, rows[i]? = some row := ⟨_, List.getElem?_eq_getElem (by
            rcases Nat.lt_or_ge i ds.length with q | q
            · lia
            · rw [List.getElem?_eq_none q] at hd'; cases hd')⟩
          obtain ⟨d2, ep2, g1, g2⟩ := hR3.2 i row hrow
          rw [hd'] at g1
          cases g1
          refine tests_one ?_
          walk_at "m"
          intro y hy
          refine cmp_ne_sdict0 (St.set_new hy (e4 _ _ g2)) (St.set_same _ _ _) ?_
          walk_at "m"
          have ea := anyRow_take hrow
          refine if_bool (fun w => ?_) fun w => ?_
          · walk_at "m"
            refine ⟨?_, by simp; lia, e4.more hy⟩
            rw [ea, w]; simp
          · refine ⟨?_, by lia, e4.more hy⟩
            rw [ea, w, Bool.or_false]; exact j1
        · rintro ys σ₄ ⟨j1, j2, e4⟩ D hD
          rw [List.length_map, dsl, List.take_length] at j1
          walk_at "m"
          refine ⟨sz (by simp), fun z hz => ?_⟩
          refine cmp_ne_nil (Gd.look_of (St.set_new hz (St.set_same _ _ _))) (Gd.look_of (St.set_same _ _ _)) ?_
          walk_at "m"
          rw [j1, Bool.not_not]
          have e5 : Ext σ₃ ((σ₄.set D (.list ys)).set z (.list [])) := (e4.more hD).more hz
          generalize (σ₄.set D (.list ys)).set z (.list []) = σ₅ at e5
          refine if_bool (fun w => ?_) fun w => ?_
          · walk_at "m_ev"
            refine ex_assign_comp (cl := []) hf ?_ (of_decide_eq_true (by kernel_rfl)) (by kernel_rfl) (by kernel_rfl) (locals_of (by kernel_rfl)) (by kernel_rfl)
            walk_at "m"
            refine compH_list (fun i ys σ' => Parts σ₃ σ' ys (rows.take i) ∧ Ext σ₅ σ') hf (by kernel_rfl) (fun C => by kernel_rfl) (by kernel_rfl)
              (fun k ys σ₆ hj => hj.2 _ _ (e5 _ _ r3)) (e5 _ _ r3) (by rw [List.length_map]; lia) ⟨⟨by simp, fun i x hi => by simp at hi⟩, Ext.refl _⟩ ?_ ?_
            · rintro C i v ys σ₆ hfc hv ⟨j1, e6⟩
              rw [List.getElem?_map] at hv
              obtain ⟨d', hd', rfl⟩ := Option.map_eq_some_iff.mp hv
              obtain ⟨row, hrow⟩ : ∃ row, rows[i]? = some row := ⟨_, List.getElem?_eq_getElem (by
                rcases Nat.lt_or_ge i ds.length with q | q
                · lia
                · rw [List.getElem?_eq_none q] at hd'; cases hd')⟩
              obtain ⟨d2, ep2, g1, g2⟩ := hR3.2 i row hrow
              rw [hd'] at g1
              cases g1
              have hml := hm row (List.mem_of_getElem? hrow)
              have g3 := e6 _ _ (e5 _ _ g2)
              refine tests_nil (if_tt ?_)
              walk_at "m"
              intro y hy
              refine cmp_ne_sdict0 (St.set_new hy g3) (St.set_same _ _ _) ?_
              walk_at "m"
              rw [take_snoc hrow]
              refine if_bool (fun w1 => ?_) fun w1 => ?_
              · walk_at "m"
                refine call_dict_copy (St.set_new hy g3) (sz (by lia)) fun r ep hr => ?_
                have e7 := (e6.more (o := .sdict [] 0) hy).more (o := .sdict row ep) hr
                refine ⟨(j1.ext (((Ext.refl _).more hy).more hr)).snoc (.inr ⟨(fun e => by subst e; cases w1), r, ep, rfl, St.set_same _ _ _, ((e5.trans e6).more hy).no hr⟩), e7⟩
              · walk_at "m"
                have hre : row = [] := by cases row with
                  | nil => rfl
                  | cons => cases w1
                exact ⟨(j1.ext ((Ext.refl _).more hy)).snoc (.inl ⟨hre, rfl⟩), e6.more hy⟩
            · rintro items σ₆ ⟨j1, e6⟩ P hP
              rw [List.length_map, dsl, List.take_length] at j1
              have il := j1.1
              have t6 := St.set_new (o := .list items) hP (e6 _ _ (e5 _ _ t1))
              have p6 : (σ₆.set P (.list items)) P = some (.list items) := St.set_same _ _ _
              have e7 : Ext σ₃ (σ₆.set P (.list items)) := (e5.trans e6).more hP
              replace j1 := j1.ext ((Ext.refl _).more (o := .list items) hP)
              generalize σ₆.set P (.list items) = σ₇ at t6 p6 e7 j1
              have hset : ∀ v, vset fp (("DecodeParms" : Str)) v = fp ++ [(("DecodeParms" : Str), v)] := fun v => vat_snoc (by
                rcases hfp with ⟨_, rfl⟩ | ⟨_, v, rfl, _⟩ <;> kernel_rfl)
              have hf7 := filh_ext hfp e7
              have fl : fp.length ≤ 1 := by rcases hfp with ⟨_, rfl⟩ | ⟨_, v, rfl, _⟩ <;> simp
              walk_at "m"
              refine call_len_list (Gd.look_of p6) (sz (by lia)) ?_
              walk_at "m"
              rw [il]
              refine if_bool (fun w1 => ?_) fun w1 => ?_
              · have hx1 : (rows.length : Int) = 1 := of_decide_eq_true w1
                obtain ⟨row, hrow1⟩ : ∃ row, rows = [row] := by
                  match rows, hx1 with
                  | [x], _ => exact ⟨x, rfl⟩
                  | [], h => simp at h
                  | _ :: _ :: _, h => simp at h; lia
                obtain ⟨v, hv1, hv2⟩ := j1.2 0 row (by rw [hrow1]; rfl)
                walk_at "m"
                refine item_list (Gd.look_of p6) (by decide) (by decide) (v := v) hv1 ?_
                walk_at "m"
                refine setI_sdict t6 (sz (by lia)) fun ep => ?_
                rw [hset]
                walk_at "m"
                exact ⟨rfl, l1, by walk_at "m_lv", (x3.trans e7).upd hd, _, ep, St.set_same _ _ _, filh_put hf7 t6 hne3, .inr ⟨w, v, rfl, ParV.put t1 t6 (.inl ⟨row, hrow1, hv2⟩)⟩⟩
              · have hx1 : rows.length ≠ 1 := fun e => by rw [e] at w1; exact absurd w1 (by decide)
                walk_at "m"
                refine setI_sdict t6 (sz (by lia)) fun ep => ?_
                rw [hset]
                walk_at "m"
                exact ⟨rfl, by walk_at "m_lv", by walk_at "m_lv", (x3.trans e7).upd hd, _, ep, St.set_same _ _ _, filh_put hf7 t6 hne3, .inr ⟨w, .ref P, rfl, ParV.put t1 t6 (.inr ⟨hx1, P, items, rfl, p6, j1⟩)⟩⟩
          · walk_at "m"
            exact ⟨rfl, l1, l3, x3.trans e5, [], ep3, by rw [List.append_nil]; exact e5 _ _ t1, filh_ext hfp e5, .inl ⟨w, rfl⟩⟩
      · rintro f lv₄ σ₄ ⟨rfl, l4, l5, x4, pp, ep4, t4, hf4, hp4⟩
        walk_at "m"
        have hkeys : vat (fp ++ pp) (("Length" : Str)) = none := by
          rcases hfp with ⟨_, rfl⟩ | ⟨_, v, rfl, _⟩ <;> rcases hp4 with ⟨_, rfl⟩ | ⟨_, w, rfl, _⟩ <;> kernel_rfl
        refine setI_sdict t4 (sz ?_) fun ep => ?_
        · rcases hfp with ⟨_, rfl⟩ | ⟨_, v, rfl, _⟩ <;> rcases hp4 with ⟨_, rfl⟩ | ⟨_, w, rfl, _⟩ <;> simp
        rw [vat_snoc hkeys]
        walk_at "m"
        have hne4 : ∀ v, fp ++ pp ≠ [(("text" : Str), v)] := by
          intro v e
          have := congrArg (fun l => l.map Prod.fst) e
          rcases hfp with ⟨_, rfl⟩ | ⟨_, v, rfl, _⟩ <;> rcases hp4 with ⟨_, rfl⟩ | ⟨_, w, rfl, _⟩ <;> exact absurd this (by simp [show (("Filter" : Str) = "text") = False from by simp; decide +kernel, show (("DecodeParms" : Str) = "text") = False from by simp; decide +kernel])
        exact h d _ ep fp pp (x4.upd hd) hd (St.set_same _ _ _) (filh_put hf4 t4 hne4) (hp4.imp id fun ⟨a, v, b, c⟩ => ⟨a, v, b, (c.put t1 t4).base x3⟩)
end
set_option hygiene false
section
variable {G : Gd} {n : Nat} {σ : St} {env : Env} {lv : Lv} {Q : V → St → Prop}
/-- only p (and t) may turn -/
noncomputable def Mut (T : List Addr) (σ σ' : St) : Prop := ∀ b o, b ∉ T → σ b = some o → σ' b = some o
theorem Mut.refl (T : List Addr) (σ : St) : Mut T σ σ := fun _ _ _ e => e
theorem Mut.trans {T : List Addr} {a b c : St} (x : Mut T a b) (y : Mut T b c) : Mut T a c := fun i o h e => y i o h (x i o h e)
theorem Mut.ext {T : List Addr} {σ' : St} (e : Ext σ σ') : Mut T σ σ' := fun b o _ h => e b o h
theorem Mut.more {T : List Addr} {σ₀ : St} {a : Addr} {o : O} (x : Mut T σ₀ σ) (h : σ a = none) : Mut T σ₀ (σ.set a o) := x.trans (Mut.ext (Ext.new h))
theorem Mut.upd {T : List Addr} {σ₀ : St} {a : Addr} {o : O} (x : Mut T σ₀ σ) (h : a ∈ T) : Mut T σ₀ (σ.set a o) := fun b o' hb e => St.upd (fun q => hb (q ▸ h)) (x b o' hb e)
theorem Mut.upd0 {T : List Addr} {σ₀ : St} {a : Addr} {o : O} (x : Mut T σ₀ σ) (h : σ₀ a = none) : Mut T σ₀ (σ.set a o) := fun b o' hb e => St.upd (fun q => by rw [q, h] at e; cases e) (x b o' hb e)
theorem Mut.le {T T' : List Addr} {σ' : St} (x : Mut T σ σ') (h : ∀ a ∈ T, a ∈ T') : Mut T' σ σ' := fun b o hb e => x b o (fun q => hb (h b q)) e
theorem Mut.no {T : List Addr} {σ' : St} {a : Addr} (x : Mut T σ σ') (hT : a ∉ T) (h : σ' a = none) : σ a = none := by
  cases e : σ a with
  | none => rfl
  | some o => rw [x a o hT e] at h; cases h
noncomputable def Pen (σ : St) (p l : Addr) (k : Nat) : Prop := ∃ (ns : List Int) (i1 i2 i3 : Int), σ p = some (.list [.ref l, .int i1, .int i2, .int i3]) ∧ σ l = some (.list (ns.map V.int)) ∧ p ≠ l ∧ ns.length ≤ 100 ∧ 0 ≤ i1 ∧ i1 + k ≤ 1000000000 ∧ 0 ≤ i2 ∧ 0 ≤ i3 ∧ i3 < 1009
theorem Pen.le {p l : Addr} {k k' : Nat} (h : Pen σ p l k) (hk : k' ≤ k) : Pen σ p l k' := let ⟨ns, i1, i2, i3, a, b, c, d, e, f, g⟩ := h; ⟨ns, i1, i2, i3, a, b, c, d, e, by lia, g⟩
theorem Pen.ext {σ' : St} {p l : Addr} {k : Nat} (h : Pen σ p l k) (e : Ext σ σ') : Pen σ' p l k := let ⟨ns, i1, i2, i3, a, b, r⟩ := h; ⟨ns, i1, i2, i3, e _ _ a, e _ _ b, r⟩
theorem Pen.upd {p l a : Addr} {o : O} {k : Nat} (h : Pen σ p l k) (ha : p ≠ a) (hb : l ≠ a) : Pen (σ.set a o) p l k := let ⟨ns, i1, i2, i3, a1, b, r⟩ := h; ⟨ns, i1, i2, i3, St.upd ha a1, St.upd hb b, r⟩
theorem Pen.at {p l : Addr} {k : Nat} (h : Pen σ p l k) : (∃ xs, σ p = some (.list xs)) ∧ ∃ xs, σ l = some (.list xs) := let ⟨_, _, _, _, a, b, _⟩ := h; ⟨⟨_, a⟩, ⟨_, b⟩⟩
theorem fmod_range {a : Int} {m : Nat} (hm : 0 < m) : ∃ d : Nat, a.fmod m = d ∧ d < m := by
  have h1 := Int.fmod_nonneg_of_pos a (b := (m : Int)) (Int.natCast_pos.2 hm)
  have h2 := Int.fmod_lt_of_pos a (b := (m : Int)) (Int.natCast_pos.2 hm)
  exact ⟨(a.fmod m).toNat, (Int.toNat_of_nonneg h1).symm, (Int.toNat_lt h1).2 h2⟩
theorem c_draw (H : Pr G) {p l : Addr} {m k : Nat} (hm : 0 < m) (hm2 : m ≤ 1000) (hp : Pen σ p l (k + 1)) (h : ∀ (d : Nat) σ', d < m → Pen σ' p l k → Mut [p] σ σ' → Q (.int d) σ') : Kp G (.ref 297) ∧ CallV G (n + 1) σ (.ref 297) [.ref p, .int m] Q := by
  refine ⟨kp_law_draw H, (in_law_draw H fun L hf => ?_).call⟩
  obtain ⟨ns, i1, i2, i3, s1, s2, npl, hns, h1, h2, h3, h4, h5⟩ := hp
  have hm0 : (m : Int) ≠ 0 := by lia
  have fin : ∀ (a : Int) σ', Pen σ' p l k → Mut [p] σ σ' → Q (.int (a.fmod m)) σ' := fun a σ' hP hM => by
    obtain ⟨d, e, hd⟩ := fmod_range (a := a) hm
    rw [e]; exact h d σ' hd hP hM
  walk_at "m"
  refine item_list (Gd.look_of s1) (by decide) (by decide) (v := .int i2) rfl ?_
  walk_at "m"
  refine if_dec (fun w => ?_) fun w => ?_
  · walk_at "m"
    refine item_list (Gd.look_of s1) (by decide) (by decide) (v := .int i2) rfl ?_
    walk_at "m"
    refine bin_mod hm0 ?_
    walk_at "m"
    refine item_list (Gd.look_of s1) (by decide) (by decide) (v := .int i2) rfl ?_
    walk_at "m"
    refine bin_floordiv hm0 (by lia) ?_
    walk_at "m"
    refine setI_list s1 (by decide) (by decide) (by simp) ?_
    walk_at "m"
    refine fin i2 _ ⟨ns, i1, i2.fdiv m, i3, St.set_same _ _ _, St.upd (Ne.symm npl) s2, npl, hns, h1, by lia, ?_, h4, h5⟩ ((Mut.refl _ _).upd (by simp))
    rw [Int.fdiv_eq_ediv_of_nonneg _ (by lia)]
    exact Int.ediv_nonneg h3 (by lia)
  · walk_at "m"
    refine item_list (Gd.look_of s1) (by decide) (by decide) (v := .int i1) rfl ?_
    walk_at "m"
    refine setI_list s1 (by decide) (by decide) (by simp) ?_
    have t1 : (σ.set p (.list ([V.ref l, .int i1, .int i2, .int i3].set (1 : Int).toNat (.int (i1 + 1))))) p = some (.list [V.ref l, .int (i1 + 1), .int i2, .int i3]) := St.set_same _ _ _
    have t2 : (σ.set p (.list ([V.ref l, .int i1, .int i2, .int i3].set (1 : Int).toNat (.int (i1 + 1))))) l = some (.list (ns.map V.int)) := St.upd (Ne.symm npl) s2
    have x1 : Mut [p] σ (σ.set p (.list ([V.ref l, .int i1, .int i2, .int i3].set (1 : Int).toNat (.int (i1 + 1))))) := (Mut.refl _ _).upd (by simp)
    generalize σ.set p (.list ([V.ref l, .int i1, .int i2, .int i3].set (1 : Int).toNat (.int (i1 + 1)))) = σ₁ at t1 t2 x1
    have P1 : Pen σ₁ p l k := ⟨ns, i1 + 1, i2, i3, t1, t2, npl, hns, by lia, by lia, h3, h4, h5⟩
    walk_at "m"
    refine item_list (Gd.look_of t1) (by decide) (by decide) (v := .ref l) rfl ?_
    walk_at "m"
    refine call_len_list (Gd.look_of t2) (sz (by rw [List.length_map]; lia)) ?_
    walk_at "m"
    rw [List.length_map]
    refine if_dec (fun w1 => ?_) fun w1 => ?_
    · walk_at "m"
      refine item_list (Gd.look_of t1) (by decide) (by decide) (v := .int i3) rfl ?_
      walk_at "m"
      refine bin_mul (intMulOk_left (by lia)) ?_
      walk_at "m"
      refine bin_mul (intMulOk_right (by lia)) ?_
      walk_at "m"
      refine bin_floordiv (by decide) (by decide) ?_
      walk_at "m"
      refine bin_mod hm0 ?_
      walk_at "m"
      exact fin _ _ P1 x1
    · walk_at "m"
      refine item_list (Gd.look_of t1) (by decide) (by decide) (v := .ref l) rfl ?_
      walk_at "m"
      obtain ⟨c, hc⟩ : ∃ c, ns[i1.toNat]? = some c := ⟨_, List.getElem?_eq_getElem (by lia)⟩
      refine item_list (Gd.look_of t2) h1 (by lia) (v := .int c) (by rw [List.getElem?_map, hc]; rfl) ?_
      walk_at "m"
      refine call_abs ?_
      walk_at "m"
      refine bin_pow (by decide) (by decide) (by decide) ?_
      walk_at "m"
      refine if_dec (fun w2 => ?_) fun w2 => ?_
      · walk_at "m"
        refine bin_mod hm0 ?_
        walk_at "m"
        exact fin _ _ P1 x1
      · walk_at "m"
        refine call_abs ?_
        walk_at "m"
        refine bin_pow (by decide) (by decide) (by decide) ?_
        walk_at "m"
        refine bin_mul (intMulOk_left (by decide)) ?_
        walk_at "m"
        have w3 : (10 : Int) ^ (18 : Int).toNat ≤ (if c < 0 then -c else c) := Int.not_lt.mp w2
        generalize (10 : Int) ^ (18 : Int).toNat = T at w3
        generalize (if c < 0 then -c else c) = A at w3
        have tail : ∀ g : Int, 0 ≤ g → Pen (σ₁.set p (.list ([V.ref l, .int (i1 + 1), .int i2, .int i3].set (2 : Int).toNat (.int (g.fdiv m))))) p l k ∧ Mut [p] σ (σ₁.set p (.list ([V.ref l, .int (i1 + 1), .int i2, .int i3].set (2 : Int).toNat (.int (g.fdiv m))))) := fun g hg =>
          ⟨⟨ns, i1 + 1, g.fdiv m, i3, St.set_same _ _ _, St.upd (Ne.symm npl) t2, npl, hns, by lia, by lia, by rw [Int.fdiv_eq_ediv_of_nonneg _ (by lia)]; exact Int.ediv_nonneg hg (by lia), h4, h5⟩, x1.upd (by simp)⟩
        refine if_dec (fun w4 => ?_) fun w4 => ?_
        · walk_at "m"
          refine bin_floordiv hm0 (by lia) ?_
          walk_at "m"
          refine setI_list t1 (by decide) (by decide) (by simp) ?_
          walk_at "m"
          refine bin_mod hm0 ?_
          walk_at "m"
          exact fin _ _ (tail _ (by lia)).1 (tail _ (by lia)).2
        · walk_at "m"
          refine bin_floordiv hm0 (by lia) ?_
          walk_at "m"
          refine setI_list t1 (by decide) (by decide) (by simp) ?_
          walk_at "m"
          refine bin_mod hm0 ?_
          walk_at "m"
          exact fin _ _ (tail _ (by lia)).1 (tail _ (by lia)).2
end
set_option hygiene false
section
variable {G : Gd} {n : Nat} {σ : St} {env : Env} {lv : Lv} {Q : V → St → Prop}
inductive OcJ (p : Addr) (f : Addr) (l : Addr) (k : Nat) (σ : St) (i : Nat) (lv : Lv) (σ' : St) : Prop where
  | mk (h0 : lv "pen" = some (.ref p)) (h1 : lv "found" = some (.ref f)) (h2 : Pen σ' p l (k + 99 - 2 * i)) (h3 : Mut [p] σ σ') (h4 : ∃ L : List Int, σ' f = some (.list (L.map V.int)) ∧ L.length = i ∧ ∀ z ∈ L, 0 ≤ z ∧ z < 256) : OcJ p f l k σ i lv σ'
theorem c_octets (H : Pr G) {p l : Addr} {k : Nat} (hp : Pen σ p l (k + 100)) (h : ∀ (b : Array UInt8) σ', b.size ≤ 9 → Pen σ' p l k → Mut [p] σ σ' → Q (.bytes b) σ') : Kp G (.ref 311) ∧ CallV G (n + 2) σ (.ref 311) [.ref p, .int 9] Q := by
  refine ⟨kp_law_octets H, (in_law_octets H fun L hf => ?_).call⟩
  obtain ⟨⟨_, hpo⟩, _, hlo⟩ := hp.at
  walk_at "mi"
  refine ⟨sz (by simp), fun f hf0 => ?_⟩
  have npf : p ≠ f := ne_of_some_none hpo hf0
  have nlf : l ≠ f := ne_of_some_none hlo hf0
  have nfp : f ≠ p := Ne.symm npf
  have hfT : f ∉ [p] := by simpa using nfp
  walk_at "mi"
  refine for_range ?_
  walk_at "m"
  refine c_draw (m := 10) (k := k + 99) H (by decide) (by decide) (hp.ext ((Ext.refl _).more hf0)) fun d σ₁ hd P1 M1 => ?_
  have s1 : σ₁ f = some (.list []) := M1 f _ hfT (St.set_same _ _ _)
  have M1' : Mut [p] σ σ₁ := (Mut.ext ((Ext.refl _).more hf0)).trans M1
  walk_at "m"
  refine call_range1 fun r hr => ?_
  refine ⟨r, 0, d, 1, d, OcJ p f l k σ, rfl, St.set_same _ _ _, small_one (by lia) (by lia) (by lia) (by lia), by rw [rangeSize_one]; split <;> lia,
    ⟨by walk_at "m_lv", by walk_at "m_lv", P1.ext ((Ext.refl _).more hr), M1'.more hr, [], St.set_new hr s1, rfl, fun z hz => by cases hz⟩, ?_, ?_⟩
  · rintro i lv₂ σ₂ hi ⟨l1, l2, P2, M2, L', s2, hl, hL⟩
    have done : ∀ (z : Int) (σ' : St), 0 ≤ z → z < 256 → Pen σ' p l (k + 99 - 2 * (i + 1)) → Mut [p] σ σ' → Pen (σ'.set f (.list ((L' ++ [z]).map V.int))) p l (k + 99 - 2 * (i + 1)) ∧ Mut [p] σ (σ'.set f (.list ((L' ++ [z]).map V.int))) ∧
        ∃ L : List Int, (σ'.set f (.list ((L' ++ [z]).map V.int))) f = some (.list (L.map V.int)) ∧ L.length = i + 1 ∧ ∀ y ∈ L, 0 ≤ y ∧ y < 256 := by
      intro z σ' h0 h1 P M
      refine ⟨P.upd npf nlf, M.upd0 hf0, L' ++ [z], St.set_same _ _ _, by simp [hl], fun y hy => ?_⟩
      rcases List.mem_append.mp hy with q | q
      · exact hL y q
      · rw [List.mem_singleton.mp q]; exact ⟨h0, h1⟩
    walk_at "m"
    refine c_draw (m := 3) (k := k + 99 - 2 * (i + 1) + 1) H (by decide) (by decide) (P2.le (by lia)) fun w σ₃ hw P3 M3 => ?_
    have s3 := M3 f _ hfT s2
    have M3' := M2.trans M3
    walk_at "m"
    refine ⟨_, _, getm_append (Gd.look_of s3), ?_⟩
    walk_at "m"
    refine if_bool (fun w1 => ?_) fun w1 => ?_
    · walk_at "m"
      refine call_append s3 (sz (by rw [List.length_map]; lia)) ⟨rfl, ?_⟩
      rw [map_snoc]
      walk_at "m"
      obtain ⟨a, b, c⟩ := done 0 σ₃ (by decide) (by decide) (P3.le (by lia)) M3'
      exact ⟨by walk_at "m_lv", by walk_at "m_lv", a, b, c⟩
    · walk_at "m"
      refine if_bool (fun w2 => ?_) fun w2 => ?_
      · walk_at "m"
        refine ⟨sz (by simp), fun z hz => ?_⟩
        refine bin_concat (ys := [.int 255]) (Gd.look_of (St.set_new hz s3)) (Gd.look_of (St.set_same _ _ _)) (sz (by rw [List.length_map]; simp; lia)) fun u hu => ?_
        rw [map_snoc]
        have s5 := St.set_new (o := .list ((L' ++ [255]).map V.int)) hu (St.set_new (o := .list [.int 255]) hz s3)
        have u5 : (((σ₃.set z (.list [.int 255])).set u (.list ((L' ++ [255]).map V.int)))) u = some (.list ((L' ++ [255]).map V.int)) := St.set_same _ _ _
        have P5 : Pen ((σ₃.set z (.list [.int 255])).set u (.list ((L' ++ [255]).map V.int))) p l (k + 99 - 2 * (i + 1)) := (P3.le (by lia)).ext (((Ext.refl _).more hz).more hu)
        have M5 : Mut [p] σ ((σ₃.set z (.list [.int 255])).set u (.list ((L' ++ [255]).map V.int))) := (M3'.more hz).more hu
        generalize (σ₃.set z (.list [.int 255])).set u (.list ((L' ++ [255]).map V.int)) = σ₅ at s5 u5 P5 M5
        have at_ : ∀ j : Int, 0 ≤ j → j ≤ i → ∃ y : Int, ((L' ++ [255]).map V.int)[j.toNat]? = some (.int y) ∧ 0 ≤ y ∧ y < 256 := by
          intro j h0 h1
          have hj : j.toNat < (L' ++ [(255 : Int)]).length := by simp; lia
          refine ⟨(L' ++ [(255 : Int)])[j.toNat]'hj, by rw [List.getElem?_map, List.getElem?_eq_getElem hj]; rfl, ?_⟩
          have hm := List.getElem_mem hj
          rcases List.mem_append.mp hm with q | q
          · exact hL _ q
          · rw [List.mem_singleton.mp q]; decide
        walk_at "m"
        refine if_dec (fun w4 => ?_) fun w4 => ?_
        · walk_at "m"
          obtain ⟨y, hy, h0, h1⟩ := at_ (0 + (i : Int) * 1 - 1) (by lia) (by lia)
          refine item_list (Gd.look_of u5) (by lia) (by lia) hy ?_
          walk_at "m"
          refine call_append s5 (sz (by rw [List.length_map]; lia)) ⟨rfl, ?_⟩
          rw [map_snoc]
          walk_at "m"
          obtain ⟨a, b, c⟩ := done y σ₅ h0 h1 P5 M5
          exact ⟨by walk_at "m_lv", by walk_at "m_lv", a, b, c⟩
        · walk_at "m"
          obtain ⟨y, hy, h0, h1⟩ := at_ 0 (by lia) (by lia)
          refine item_list (Gd.look_of u5) (by decide) (by decide) hy ?_
          walk_at "m"
          refine call_append s5 (sz (by rw [List.length_map]; lia)) ⟨rfl, ?_⟩
          rw [map_snoc]
          walk_at "m"
          obtain ⟨a, b, c⟩ := done y σ₅ h0 h1 P5 M5
          exact ⟨by walk_at "m_lv", by walk_at "m_lv", a, b, c⟩
      · walk_at "m"
        refine c_draw (m := 256) (k := k + 99 - 2 * (i + 1)) H (by decide) (by decide) P3 fun y σ₄ hy P4 M4 => ?_
        have s4 := M4 f _ hfT s3
        walk_at "m"
        refine call_append s4 (sz (by rw [List.length_map]; lia)) ⟨rfl, ?_⟩
        rw [map_snoc]
        walk_at "m"
        obtain ⟨a, b, c⟩ := done y σ₄ (by lia) (by lia) P4 (M3'.trans M4)
        exact ⟨by walk_at "m_lv", by walk_at "m_lv", a, b, c⟩
  · rintro lv₂ σ₂ ⟨l1, l2, P2, M2, L', s2, hl, hL⟩
    walk_at "m"
    refine call_bytes (Gd.look_of s2) hL (sz (by lia)) ?_
    walk_at "m"
    refine h _ _ ?_ (P2.le (by lia)) M2
    simp [byteArr]; lia
end
set_option hygiene false
section
variable {G : Gd} {n : Nat} {σ : St} {env : Env} {lv : Lv} {Q : V → St → Prop}
/-- what may turn is lists and int dicts alone -/
noncomputable def Soft (σ : St) (T : List Addr) : Prop := ∀ t ∈ T, (∃ xs, σ t = some (.list xs)) ∨ ∃ es ep, σ t = some (.idict es ep)
theorem Mut.keep {T : List Addr} {σ' : St} (x : Mut T σ σ') (s : Soft σ T) {a : Addr} {o : O} (h : σ a = some o) (hl : ∀ xs, o ≠ .list xs) (hd : ∀ es ep, o ≠ .idict es ep) : σ' a = some o := by
  refine x a o (fun q => ?_) h
  rcases s a q with ⟨xs, e⟩ | ⟨es, ep, e⟩
  · rw [h] at e; exact hl _ (Option.some.inj e)
  · rw [h] at e; exact hd _ _ (Option.some.inj e)
theorem IsRef.mut {T : List Addr} {σ' : St} (x : Mut T σ σ') (s : Soft σ T) {a : Addr} {i j : Int} (h : IsRef σ a i j) : IsRef σ' a i j :=
  let ⟨d, ep, h1, h2⟩ := h; ⟨d, ep, x.keep s h1 (fun _ e => by cases e) (fun _ _ e => by cases e), x.keep s h2 (fun _ e => by cases e) (fun _ _ e => by cases e)⟩
theorem soft_pen {p l : Addr} {k : Nat} (h : Pen σ p l k) : Soft σ [p] := fun t ht => by rw [List.mem_singleton.mp ht]; exact .inl h.at.1
inductive Chain (σ : St) (es : List (Int × V)) : Nat → V → V → Prop
  | zero {v : V} : Chain σ es 0 v v
  | succ {j : Nat} {a t : Addr} {num gen : Int} {w v : V} (h : IsRef σ a num gen) (hv : vat es num = some (.ref t)) (ht : σ t = some (.tuple [.int gen, w])) (hr : Chain σ es j w v) : Chain σ es (j + 1) (.ref a) v
theorem Chain.mut {T : List Addr} {σ' : St} (x : Mut T σ σ') (s : Soft σ T) {es es' : List (Int × V)} (he : ∀ k y, vat es k = some y → vat es' k = some y) {j : Nat} {w v : V} (h : Chain σ es j w v) : Chain σ' es' j w v := by
  induction h with
  | zero => exact .zero
  | succ h hv ht _ ih => exact .succ (h.mut x s) (he _ _ hv) (x.keep s ht (fun _ e => by cases e) (fun _ _ e => by cases e)) ih
theorem Chain.res {es : List (Int × V)} {m j : Nat} {w v r : V} (h : Chain σ es j w v) (hr : Res σ es m v r) : Res σ es (m + j) w r := by
  induction h with
  | zero => exact hr
  | succ h hv ht _ ih => exact .go h hv ht (ih hr)
noncomputable def Tab (σ : St) (T : Addr) (es : List (Int × V)) : Prop := (∃ ep, σ T = some (.idict es ep)) ∧ (∀ p ∈ es, p.1 < 5 + es.length)
theorem vat_none_of {es : List (Int × V)} {k : Int} (h : ∀ p ∈ es, p.1 ≠ k) : vat es k = none := by
  induction es with
  | nil => rfl
  | cons p r ih =>
    unfold vat
    rw [if_neg (h p (.head _))]
    exact ih fun q hq => h q (.tail _ hq)
theorem vat_append {es : List (Int × V)} {k : Int} {y : V} {more : List (Int × V)} (h : vat es k = some y) : vat (es ++ more) k = some y := by
  induction es with
  | nil => cases h
  | cons p r ih =>
    unfold vat at h
    show vat (p :: (r ++ more)) k = _
    unfold vat
    split at h
    · rename_i q; rw [if_pos q]; exact h
    · rename_i q; rw [if_neg q]; exact ih h
theorem vat_last {es : List (Int × V)} {k : Int} {v : V} (h : vat es k = none) : vat (es ++ [(k, v)]) k = some v := by
  induction es with
  | nil => simp [vat]
  | cons p r ih =>
    unfold vat at h
    show vat (p :: (r ++ [(k, v)])) k = _
    unfold vat
    split at h
    · cases h
    · rename_i q; rw [if_neg q]; exact ih h
/-- numbers that lead to nothing -/
noncomputable def LostAt (num gen : Int) : Prop := (num = 99 ∧ gen = 0) ∨ (num = 2 ∧ gen = 7) ∨ (num = 3 ∧ gen = 0) ∨ (num = 4 ∧ gen = 0)
theorem c_lost (H : Pr G) {p l : Addr} {k : Nat} (hp : Pen σ p l (k + 1)) (h : ∀ (a : Addr) (num gen : Int) σ', LostAt num gen → IsRef σ' a num gen → Pen σ' p l k → Mut [p] σ σ' → Q (.ref a) σ') : Kp G (.ref 332) ∧ CallV G (n + 3) σ (.ref 332) [.ref p] Q := by
  refine ⟨kp_law_lost H, (in_law_lost H fun L hf => ?_).call⟩
  walk_at "m"
  refine c_Reference H fun a σ₁ e1 _ r1 => ?_
  walk_at "m"
  refine c_Reference H fun b σ₂ e2 _ r2 => ?_
  walk_at "m"
  refine c_Reference H fun c σ₃ e3 _ r3 => ?_
  walk_at "m"
  refine c_Reference H fun d σ₄ e4 _ r4 => ?_
  walk_at "m"
  refine ⟨sz (by simp), fun t ht => ?_⟩
  have x4 : Ext σ (σ₄.set t (.tuple [.ref a, .ref b, .ref c, .ref d])) := (((e1.trans e2).trans e3).trans e4).more ht
  have q1 := r1.ext (((e2.trans e3).trans e4).more (o := .tuple [.ref a, .ref b, .ref c, .ref d]) ht)
  have q2 := r2.ext ((e3.trans e4).more (o := .tuple [.ref a, .ref b, .ref c, .ref d]) ht)
  have q3 := r3.ext (e4.more (o := .tuple [.ref a, .ref b, .ref c, .ref d]) ht)
  have q4 := r4.ext ((Ext.refl σ₄).more (o := .tuple [.ref a, .ref b, .ref c, .ref d]) ht)
  have tt : (σ₄.set t (.tuple [.ref a, .ref b, .ref c, .ref d])) t = some (.tuple [.ref a, .ref b, .ref c, .ref d]) := St.set_same _ _ _
  generalize σ₄.set t (.tuple [.ref a, .ref b, .ref c, .ref d]) = σ₅ at x4 q1 q2 q3 q4 tt
  have P5 := hp.ext x4
  have sf := soft_pen P5
  walk_at "m"
  refine c_draw (m := 4) H (by decide) (by decide) P5 fun w σ₆ hw P6 M6 => ?_
  have t6 := M6.keep sf tt (fun _ e => by cases e) (fun _ _ e => by cases e)
  have M := (Mut.ext (T := [p]) x4).trans M6
  match w, hw with
  | 0, _ => refine item_tuple (Gd.look_of t6) (by decide) (by decide) (v := .ref a) rfl ?_; walk_at "m"; exact h a _ _ _ (.inl ⟨rfl, rfl⟩) (q1.mut M6 sf) P6 M
  | 1, _ => refine item_tuple (Gd.look_of t6) (by decide) (by decide) (v := .ref b) rfl ?_; walk_at "m"; exact h b _ _ _ (.inr (.inl ⟨rfl, rfl⟩)) (q2.mut M6 sf) P6 M
  | 2, _ => refine item_tuple (Gd.look_of t6) (by decide) (by decide) (v := .ref c) rfl ?_; walk_at "m"; exact h c _ _ _ (.inr (.inr (.inl ⟨rfl, rfl⟩))) (q3.mut M6 sf) P6 M
  | 3, _ => refine item_tuple (Gd.look_of t6) (by decide) (by decide) (v := .ref d) rfl ?_; walk_at "m"; exact h d _ _ _ (.inr (.inr (.inr ⟨rfl, rfl⟩))) (q4.mut M6 sf) P6 M
inductive BnJ (p : Addr) (l : Addr) (T : Addr) (k : Nat) (es : List (Int × V)) (v : V) (σ : St) (i : Nat) (lv : Lv) (σ' : St) : Prop where
  | mk (w : V) (es' : List (Int × V)) (h0 : lv "value" = some w) (h1 : lv "table" = some (.ref T)) (h2 : Chain σ' es' i w v) (h3 : Tab σ' T es') (h4 : (∀ k y, vat es k = some y → vat es' k = some y)) (h5 : es'.length = es.length + i) (h6 : Pen σ' p l k) (h7 : Mut [p, T] σ σ') : BnJ p l T k es v σ i lv σ'
theorem c_bent (H : Pr G) {p l T : Addr} {k : Nat} {es : List (Int × V)} {v : V} (hp : Pen σ p l (k + 1)) (hT : Tab σ T es) (hlen : es.length ≤ 500)
    (h : ∀ (v' : V) (es' : List (Int × V)) (σ' : St) (j : Nat), 1 ≤ j → j ≤ 3 → Chain σ' es' j v' v → Tab σ' T es' → (∀ k y, vat es k = some y → vat es' k = some y) → es'.length ≤ es.length + 3 → Pen σ' p l k → Mut [p, T] σ σ' → Q v' σ') : Kp G (.ref 325) ∧ CallV G (n + 3) σ (.ref 325) [.ref p, v, .ref T] Q := by
  refine ⟨kp_law_bent H, (in_law_bent H fun L hf => ?_).call⟩
  obtain ⟨⟨ep, hT0⟩, hT1⟩ := hT
  obtain ⟨⟨_, hpo⟩, _, hlo⟩ := hp.at
  have npT : p ≠ T := ne_of_diff hpo hT0 (by intro q; cases q)
  have nlT : l ≠ T := ne_of_diff hlo hT0 (by intro q; cases q)
  walk_at "mi"
  refine for_range ?_
  walk_at "m"
  refine c_draw (m := 3) H (by decide) (by decide) hp fun d σ₁ hd P1 M1 => ?_
  walk_at "m"
  refine call_range1 fun r hr => ?_
  have t1 : (σ₁.set r (.rng 0 (1 + (d : Int)) 1)) T = some (.idict es ep) := St.set_new hr (M1 T _ (by simp; exact Ne.symm npT) hT0)
  refine ⟨r, 0, 1 + d, 1, 1 + d, BnJ p l T k es v σ, rfl, St.set_same _ _ _, small_one (by lia) (by lia) (by lia) (by lia), by rw [rangeSize_one]; split <;> lia,
    ⟨v, es, by walk_at "m_lv", by walk_at "m_lv", .zero, ⟨⟨ep, t1⟩, hT1⟩, fun k y e => e, rfl, P1.ext ((Ext.refl _).more hr), (M1.le (fun a ha => by rw [List.mem_singleton.mp ha]; simp)).more hr⟩, ?_, ?_⟩
  · rintro i lv₂ σ₂ hi ⟨w, es', l1, l2, hc, ⟨⟨ep2, t2⟩, hk2⟩, hsub, hel, P2, M2⟩
    have hnew : vat es' (5 + (es'.length : Int)) = none := vat_none_of fun q hq => by have := hk2 q hq; lia
    walk_at "m"
    refine call_len_idict t2 (sz (by lia)) ?_
    walk_at "m"
    refine ⟨sz (by simp), fun t ht => ?_⟩
    walk_at "m"
    refine setI_idict (St.set_new ht t2) (sz (by lia)) fun ep3 => ?_
    rw [vat_snoc hnew]
    have ntT : t ≠ T := Ne.symm (ne_of_some_none t2 ht)
    have P3 := (P2.ext ((Ext.refl σ₂).more (o := .tuple [.int (0 + (i : Int) * 1), w]) ht)).upd (o := .idict (es' ++ [(5 + (es'.length : Int), .ref t)]) ep3) npT nlT
    have t3 : ((σ₂.set t (.tuple [.int (0 + (i : Int) * 1), w])).set T (.idict (es' ++ [(5 + (es'.length : Int), .ref t)]) ep3)) T = some (.idict (es' ++ [(5 + (es'.length : Int), .ref t)]) ep3) := St.set_same _ _ _
    have u3 : ((σ₂.set t (.tuple [.int (0 + (i : Int) * 1), w])).set T (.idict (es' ++ [(5 + (es'.length : Int), .ref t)]) ep3)) t = some (.tuple [.int (0 + (i : Int) * 1), w]) := St.upd ntT (St.set_same _ _ _)
    have st : Soft σ₂ [p, T] := fun x hx => by
      rcases List.mem_cons.mp hx with rfl | hx
      · exact .inl P2.at.1
      · rw [List.mem_singleton.mp hx]; exact .inr ⟨_, _, t2⟩
    have m23 : Mut [p, T] σ₂ ((σ₂.set t (.tuple [.int (0 + (i : Int) * 1), w])).set T (.idict (es' ++ [(5 + (es'.length : Int), .ref t)]) ep3)) := ((Mut.refl _ _).more ht).upd (by simp)
    have hc3 := hc.mut m23 st (es' := es' ++ [(5 + (es'.length : Int), .ref t)]) fun k y e => vat_append e
    generalize (σ₂.set t (.tuple [.int (0 + (i : Int) * 1), w])).set T (.idict (es' ++ [(5 + (es'.length : Int), .ref t)]) ep3) = σ₃ at P3 t3 u3 m23 hc3
    walk_at "m"
    refine c_Reference H fun a σ₄ e4 _ r4 => ?_
    walk_at "m"
    refine ⟨.ref a, es' ++ [(5 + (es'.length : Int), .ref t)], by walk_at "m_lv", by walk_at "m_lv", .succ r4 (vat_last hnew) (e4 _ _ u3) ?_, ⟨⟨ep3, e4 _ _ t3⟩, fun q hq => ?_⟩, fun k y e => vat_append (hsub k y e), by simp; lia, P3.ext e4, (M2.trans m23).trans (Mut.ext e4)⟩
    · exact hc3.mut (T := []) (Mut.ext e4) (fun t ht => by cases ht) fun k y e => e
    · rw [List.length_append]
      rcases List.mem_append.mp hq with q' | q'
      · have := hk2 q q'; simp; lia
      · rw [List.mem_singleton.mp q']; simp; lia
  · rintro lv₂ σ₂ ⟨w, es', l1, l2, hc, hTb, hsub, hel, P2, M2⟩
    walk_at "m"
    exact h w es' σ₂ (1 + d) (by lia) (by lia) hc hTb hsub (by lia) P2 M2
/-! the filters without parameters -/
noncomputable def fulls : List Str := ["ASCIIHexDecode", "ASCII85Decode", "RunLengthDecode", "FlateDecode", "LZWDecode", "CCITTFaxDecode", "DCTDecode", "JPXDecode", "fl"]
inductive MadeOf (b : Array UInt8) : Nat → V → Prop
  | hex : MadeOf b 0 (.bytes (byteArr (hexEnc (bInts b) ++ [62])))
  | b85 : MadeOf b 1 (.bytes (byteArr (b85 (bInts b) ++ [126, 62])))
  | run {segs : List Seg} (hok : ∀ s ∈ segs, Seg.ok s) (ho : segOut segs = bInts b) : MadeOf b 2 (.bytes (byteArr (segCodes segs ++ [128])))
  | none {w : Nat} (h : 3 ≤ w) : MadeOf b w .none
theorem full_eqs : ∀ w : Fin 9, ∀ x, fulls[w.val]? = some x → (x == ("ASCIIHexDecode" : Str)) = decide (w.val = 0) ∧ (x == ("ASCII85Decode" : Str)) = decide (w.val = 1) ∧ (x == ("RunLengthDecode" : Str)) = decide (w.val = 2) := by
  have : ∀ w : Fin 9, ((fulls[w.val]?.getD "") == ("ASCIIHexDecode" : Str)) = decide (w.val = 0) ∧ ((fulls[w.val]?.getD "") == ("ASCII85Decode" : Str)) = decide (w.val = 1) ∧ ((fulls[w.val]?.getD "") == ("RunLengthDecode" : Str)) = decide (w.val = 2) := by decide +kernel
  intro w x hx
  have := this w
  rw [hx] at this
  exact this
theorem c_apply (H : Pr G) {w : Nat} (hw : w < 9) {x : Str} (hx : fulls[w]? = some x) {b : Array UInt8} (hb : b.size ≤ 9) (h : ∀ v σ', MadeOf b w v → Ext σ σ' → Q v σ') : Kp G (.ref 275) ∧ CallV G (n + 3) σ (.ref 275) [.str x, .bytes b] Q := by
  refine ⟨kp_apply_plain H, (in_apply_plain H fun L hf => ?_).call⟩
  obtain ⟨q0, q1, q2⟩ := full_eqs ⟨w, hw⟩ x hx
  dsimp only at q0 q1 q2
  walk_at "m"
  rw [q0]
  refine if_dec (fun e => ?_) fun _ => ?_
  · subst e
    walk_at "m"
    refine c_hex_encoded H (by lia) fun σ₁ e1 => ?_
    walk_at "m"
    exact h _ _ .hex e1
  · walk_at "m"
    rw [q1]
    refine if_dec (fun e => ?_) fun _ => ?_
    · subst e
      walk_at "m"
      refine c_base85_encoded H (by lia) fun σ₁ e1 => ?_
      walk_at "m"
      exact h _ _ .b85 e1
    · walk_at "m"
      rw [q2]
      refine if_dec (fun e => ?_) fun _ => ?_
      · subst e
        walk_at "m"
        refine c_run_encoded H (by lia) fun segs σ₁ hok ho e1 => ?_
        walk_at "m"
        exact h _ _ (.run hok ho) e1
      · walk_at "m"
        exact h _ _ (.none (by lia)) (Ext.refl _)
theorem c_undo (H : Pr G) {w : Nat} (hw : w < 9) {x : Str} (hx : fulls[w]? = some x) {b : Array UInt8} (hb : b.size ≤ 9) {v : V} (hv : MadeOf b w v) (h : ∀ σ', Ext σ σ' → Q (if w < 3 then .bytes b else .none) σ') : Kp G (.ref 268) ∧ CallV G (n + 3) σ (.ref 268) [.str x, v] Q := by
  refine ⟨kp_undo_plain H, (in_undo_plain H fun L hf => ?_).call⟩
  obtain ⟨q0, q1, q2⟩ := full_eqs ⟨w, hw⟩ x hx
  dsimp only at q0 q1 q2
  walk_at "m"
  rw [q0]
  cases hv with
  | hex =>
    refine if_tt ?_
    walk_at "m"
    refine c_hex_decoded H (b := b) (by lia) (bInts_byteArr fun k hk => ?_) fun σ₁ e1 => ?_
    · rcases List.mem_append.mp hk with q | q
      · exact hexEnc_range (bInts_range b) k q
      · rw [List.mem_singleton.mp q]; decide
    walk_at "m"
    exact h _ e1
  | b85 =>
    refine if_ff ?_
    walk_at "m"
    rw [q1]
    refine if_tt ?_
    walk_at "m"
    refine c_base85_decoded H (b := b) (by lia) (bInts_byteArr fun k hk => ?_) fun σ₁ e1 => ?_
    · rcases List.mem_append.mp hk with q | q
      · exact b85_range (bInts_range b) k q
      · simp at q; lia
    walk_at "m"
    exact h _ e1
  | run hok ho =>
    refine if_ff ?_
    walk_at "m"
    rw [q1]
    refine if_ff ?_
    walk_at "m"
    rw [q2]
    refine if_tt ?_
    walk_at "m"
    refine c_run_decoded H (b := b) (by lia) hok ho (bInts_byteArr fun k hk => ?_) fun σ₁ e1 => ?_
    · rcases List.mem_append.mp hk with q | q
      · exact seg_range hok (by rw [ho]; exact bInts_range b) k q
      · rw [List.mem_singleton.mp q]; decide
    walk_at "m"
    exact h _ e1
  | none hw3 =>
    rw [if_neg (by lia)] at h
    refine if_dec (fun e => by lia) fun _ => ?_
    walk_at "m"
    rw [q1]
    refine if_dec (fun e => by lia) fun _ => ?_
    walk_at "m"
    rw [q2]
    refine if_dec (fun e => by lia) fun _ => ?_
    walk_at "m"
    exact h _ (Ext.refl _)
end
set_option hygiene false
section
variable {G : Gd} {n : Nat} {σ : St} {env : Env} {lv : Lv} {Q : V → St → Prop}
noncomputable def e_law (L : Addr) : Env := callEnvC (fdOf k337) L 337
noncomputable def ls (i : Nat) : Stmt := match (fbody (top 50))[i]? with
  | some s => s
  | none => .Pass ⟨0, 0, 0, 0⟩
theorem kc_pen (L : Addr) : (e_law L).cells.lookup ("pen" : Str) = some (L + 1) := by kernel_rfl
theorem kc_table (L : Addr) : (e_law L).cells.lookup ("table" : Str) = some (L + 2) := by kernel_rfl
theorem kc_early (L : Addr) : (e_law L).cells.lookup ("early" : Str) = some (L + 3) := by kernel_rfl
noncomputable def shorts : List Str := ["AHx", "A85", "RL", "Fl", "LZW", "CCF", "DCT", "JPXDecode", "fl"]
noncomputable def nmOf (ab : Nat × Nat) : Str := if ab.2 = 0 then fulls.getD ab.1 "" else shorts.getD ab.1 ""
noncomputable def flOf (ab : Nat × Nat) : Str := fulls.getD ab.1 ""
theorem fullOf_nm {ab : Nat × Nat} (h1 : ab.1 < 9) (h2 : ab.2 < 2) : fullOf (nmOf ab) = flOf ab := by
  have : ∀ (a : Fin 9) (b : Fin 2), fullOf (nmOf (a.val, b.val)) = flOf (a.val, b.val) := by decide +kernel
  exact this ⟨ab.1, h1⟩ ⟨ab.2, h2⟩
theorem fulls_at {a : Nat} (h : a < 9) : fulls[a]? = some (fulls.getD a "") := by
  rw [List.getD_eq_getElem?_getD, List.getElem?_eq_getElem (show a < fulls.length from h)]; rfl
noncomputable def lawTup : List V := [.ref 281, .ref 282, .ref 283, .ref 284, .ref 285, .ref 286, .ref 287, .ref 288, .ref 289]
theorem lawTup_rom (G : Gd) : rom0 290 = some (.tuple lawTup) := by kernel_rfl
theorem lawTup_at (G : Gd) : ∀ a : Nat, a < 9 → ∃ r, lawTup[a]? = some (.ref r) ∧ rom0 r = some (.tuple [.str (fulls.getD a ""), .str (shorts.getD a "")])
  | 0, _ => ⟨_, rfl, by kernel_rfl⟩
  | 1, _ => ⟨_, rfl, by kernel_rfl⟩
  | 2, _ => ⟨_, rfl, by kernel_rfl⟩
  | 3, _ => ⟨_, rfl, by kernel_rfl⟩
  | 4, _ => ⟨_, rfl, by kernel_rfl⟩
  | 5, _ => ⟨_, rfl, by kernel_rfl⟩
  | 6, _ => ⟨_, rfl, by kernel_rfl⟩
  | 7, _ => ⟨_, rfl, by kernel_rfl⟩
  | 8, _ => ⟨_, rfl, by kernel_rfl⟩
  | n + 9, h => absurd h (by lia)
noncomputable def Picks (σ : St) (ts : List Addr) (sp : List (Nat × Nat)) : Prop := ts.length = sp.length ∧ ∀ (i : Nat) (ab : Nat × Nat), sp[i]? = some ab → ab.1 < 9 ∧ ab.2 < 2 ∧ ∃ t, ts[i]? = some t ∧ σ t = some (.tuple [.int ab.1, .int ab.2])
theorem Picks.mut {T : List Addr} {σ' : St} (x : Mut T σ σ') (s : Soft σ T) {ts : List Addr} {sp : List (Nat × Nat)} (h : Picks σ ts sp) : Picks σ' ts sp :=
  ⟨h.1, fun i ab hi => let ⟨a, b, t, h1, h2⟩ := h.2 i ab hi; ⟨a, b, t, h1, x.keep s h2 (fun _ e => by cases e) (fun _ _ e => by cases e)⟩⟩
theorem Picks.snoc {ts : List Addr} {sp : List (Nat × Nat)} {t : Addr} {ab : Nat × Nat} (h : Picks σ ts sp) (h1 : ab.1 < 9) (h2 : ab.2 < 2) (ht : σ t = some (.tuple [.int ab.1, .int ab.2])) : Picks σ (ts ++ [t]) (sp ++ [ab]) := by
  refine ⟨by simp [h.1], fun i y hy => ?_⟩
  rcases snoc_at hy with ⟨q, hy⟩ | ⟨q, rfl⟩
  · obtain ⟨a, b, t', g1, g2⟩ := h.2 i y hy
    exact ⟨a, b, t', by rw [List.getElem?_append_left (by rw [h.1]; exact q)]; exact g1, g2⟩
  · exact ⟨h1, h2, t, at_snoc ts t (by rw [h.1]; exact q), ht⟩
theorem soft_nil (σ : St) : Soft σ [] := fun t ht => by cases ht
theorem Mut.ext0 {σ' : St} (x : Ext σ σ') : Mut [] σ σ' := fun b o _ h => x b o h
theorem Rows.mut {T : List Addr} {σ' : St} (x : Mut T σ σ') (s : Soft σ T) {ds : List Addr} {rows : List Row} (h : Rows σ ds rows) : Rows σ' ds rows :=
  ⟨h.1, fun i row hr => let ⟨d, ep, h1, h2⟩ := h.2 i row hr; ⟨d, ep, h1, x.keep s h2 (fun _ e => by cases e) (fun _ _ e => by cases e)⟩⟩
/-- what holds between the statements: the pen and the cells -/
structure Base (σ : St) (L p l : Addr) (k : Nat) (tb : Option V) : Prop where
  pen : Pen σ p l k
  c1 : σ (L + 1) = some (.cell (some (.ref p)))
  c2 : σ (L + 2) = some (.cell tb)
  c3 : σ (L + 3) = some (.cell none)
theorem Base.ext {σ' : St} {L p l : Addr} {k : Nat} {tb : Option V} (e : Ext σ σ') (h : Base σ L p l k tb) : Base σ' L p l k tb := ⟨h.pen.ext e, e _ _ h.c1, e _ _ h.c2, e _ _ h.c3⟩
theorem Base.draw {σ' : St} {L p l : Addr} {k k' : Nat} {tb : Option V} (h : Base σ L p l k tb) (P : Pen σ' p l k') (x : Mut [p] σ σ') : Base σ' L p l k' tb :=
  have s := soft_pen h.pen
  ⟨P, x.keep s h.c1 (fun _ e => by cases e) (fun _ _ e => by cases e), x.keep s h.c2 (fun _ e => by cases e) (fun _ _ e => by cases e), x.keep s h.c3 (fun _ e => by cases e) (fun _ _ e => by cases e)⟩
theorem Base.le {L p l : Addr} {k k' : Nat} {tb : Option V} (h : Base σ L p l k tb) (hk : k' ≤ k) : Base σ L p l k' tb := ⟨h.pen.le hk, h.c1, h.c2, h.c3⟩
theorem Base.put {L p l d : Addr} {k : Nat} {tb : Option V} {o o' : O} (h : Base σ L p l k tb) (hd : σ d = some o) (hl : ∀ xs, o ≠ .list xs) (hc : ∀ v, o ≠ .cell v) : Base (σ.set d o') L p l k tb := by
  obtain ⟨⟨_, h1⟩, ⟨_, h2⟩⟩ := h.pen.at
  exact ⟨h.pen.upd (ne_of_diff h1 hd (Ne.symm (hl _))) (ne_of_diff h2 hd (Ne.symm (hl _))), St.upd (ne_of_diff h.c1 hd (Ne.symm (hc _))) h.c1, St.upd (ne_of_diff h.c2 hd (Ne.symm (hc _))) h.c2, St.upd (ne_of_diff h.c3 hd (Ne.symm (hc _))) h.c3⟩
theorem Rows.fresh {σ₄ σ₇ : St} {ds : List Addr} {rows : List Row} {d : Addr} {o : O} (h4 : Rows σ₄ ds rows) (hd : σ₄ d = none) (h7 : Rows σ₇ ds rows) : Rows (σ₇.set d o) ds rows :=
  ⟨h7.1, fun i row hr => by
    obtain ⟨d1, e1, g1, g2⟩ := h4.2 i row hr
    obtain ⟨d2, e2, g3, g4⟩ := h7.2 i row hr
    rw [g1] at g3
    cases g3
    exact ⟨d1, e2, g1, St.upd (ne_of_some_none g2 hd) g4⟩⟩
noncomputable def RowOk (row : Row) : Prop := row = [] ∨ ∃ a b : Int, row = [(("Predictor" : Str), .int a), (("K" : Str), .int b)]
inductive L1J (L : Addr) (p : Addr) (l : Addr) (k : Nat) (tb : Option V) (σ : St) (i : Nat) (ys : List V) (σ' : St) : Prop where
  | mk (ts : List Addr) (sp : List (Nat × Nat)) (h0 : ys = ts.map V.ref) (h1 : Picks σ' ts sp) (h2 : sp.length = i) (h3 : Base σ' L p l (k + 99 - 2 * i) tb) (h4 : Mut [p] σ σ') : L1J L p l k tb σ i ys σ'
theorem law1 (H : Pr G) {L p l : Addr} {k : Nat} {tb : Option V} {Q : Fl → Lv → St → Prop} (hf : FnEnv (e_law L)) (B : Base σ L p l (k + 100) tb)
    (h : ∀ (q : Addr) (ts : List Addr) (sp : List (Nat × Nat)) σ', Base σ' L p l k tb → σ' q = some (.list (ts.map V.ref)) → q ≠ p → Picks σ' ts sp → sp.length ≤ 4 → Mut [p] σ σ' → Q .next (lv.set "picked" (.ref q)) σ') : Ex G (n + 4) (e_law L) lv σ (exec (ls 1) (e_law L)) Q := by
  have kc := kc_pen L
  have c1 := B.c1
  refine ex_assign_comp (cl := [(("pen" : Str), L + 1)]) hf ?_ (of_decide_eq_true (by kernel_rfl)) (by kernel_rfl) (by kernel_rfl) (locals_of (by kernel_rfl)) (by kernel_rfl)
  walk_at "m"
  refine c_draw (m := 5) (k := k + 99) H (by decide) (by decide) B.pen fun d σ₁ hd P1 M1 => ?_
  have B1 := B.draw P1 M1
  walk_at "m"
  refine call_range1 fun r hr => ?_
  have B2 := B1.ext ((Ext.refl _).more (o := .rng 0 d 1) hr)
  have M2 := M1.more (o := .rng 0 d 1) hr
  have r2 : (σ₁.set r (.rng 0 d 1)) r = some (.rng 0 d 1) := St.set_same _ _ _
  generalize σ₁.set r (.rng 0 d 1) = σ₂ at B2 M2 r2
  refine compH_range (a := 0) (b := (d : Int)) (c := 1) (m := d) (L1J L p l k tb σ) hf (by kernel_rfl) (fun C => by kernel_rfl) (by kernel_rfl) r2 (small_one (by lia) (by lia) (by lia) (by lia)) (by rw [rangeSize_one]; split <;> lia) (by lia)
    ⟨[], [], rfl, ⟨rfl, fun i ab hi => by simp at hi⟩, rfl, B2, M2⟩ ?_ ?_
  · rintro C i ys σ₃ hfc hi ⟨ts, sp, rfl, hP, hl, B3, M3⟩
    have q1 : (cEnv ⟨.function, [(Str.ofString ".0", .local), (Str.ofString "turn", .local), (Str.ofString "_law_draw", .globalImplicit), (Str.ofString "pen", .free)], false, false, []⟩ [(("pen" : Str), L + 1)] C (e_law L)).cells.lookup ("pen" : Str) = some (L + 1) := by kernel_rfl
    have c13 := B3.c1
    refine tests_nil (if_tt ?_)
    walk_at "m"
    refine c_draw (m := 9) (k := k + 99 - 2 * (i + 1) + 1) H (by decide) (by decide) (B3.pen.le (by lia)) fun a σ₄ ha P4 M4 => ?_
    have B4 := B3.draw P4 M4
    have c14 := B4.c1
    walk_at "m"
    refine c_draw (m := 2) (k := k + 99 - 2 * (i + 1)) H (by decide) (by decide) B4.pen fun b σ₅ hb P5 M5 => ?_
    have B5 := B4.draw P5 M5
    walk_at "m"
    refine ⟨sz (by simp), fun t ht => ⟨ts ++ [t], sp ++ [(a, b)], by simp, ?_, by simp [hl], B5.ext ((Ext.refl _).more ht), ((M3.trans M4).trans M5).more ht⟩⟩
    refine Picks.snoc ?_ ha hb (St.set_same _ _ _)
    exact (((hP.mut M4 (soft_pen B3.pen)).mut M5 (soft_pen B4.pen)).mut (Mut.ext0 ((Ext.refl _).more ht)) (soft_nil _))
  · rintro ys σ₃ ⟨ts, sp, rfl, hP, hl, B3, M3⟩ D hD
    obtain ⟨⟨_, hp3⟩, _⟩ := B3.pen.at
    exact h D ts sp _ ((B3.ext ((Ext.refl _).more hD)).le (by lia)) (St.set_same _ _ _) (Ne.symm (ne_of_some_none hp3 hD)) (hP.mut (Mut.ext0 ((Ext.refl _).more hD)) (soft_nil _)) (by lia) (M3.more hD)
inductive L2J (L : Addr) (p : Addr) (l : Addr) (k : Nat) (tb : Option V) (σ : St) (i : Nat) (ys : List V) (σ' : St) : Prop where
  | mk (ds : List Addr) (rows : List Row) (h0 : ys = ds.map V.ref) (h1 : Rows σ' ds rows) (h2 : (∀ row ∈ rows, RowOk row)) (h3 : rows.length = i) (h4 : Base σ' L p l (k + 100 - 3 * i) tb) (h5 : Mut [p] σ σ') : L2J L p l k tb σ i ys σ'
theorem law2 (H : Pr G) {L p l q : Addr} {k : Nat} {tb : Option V} {ts : List Addr} {sp : List (Nat × Nat)} {Q : Fl → Lv → St → Prop} (hf : FnEnv (e_law L)) (B : Base σ L p l (k + 100) tb) (hl : lv "picked" = some (.ref q)) (hq : σ q = some (.list (ts.map V.ref))) (hqp : q ≠ p) (hP : Picks σ ts sp) (hsp : sp.length ≤ 4)
    (h : ∀ (r : Addr) (ds : List Addr) (rows : List Row) σ', Base σ' L p l k tb → σ' r = some (.list (ds.map V.ref)) → r ≠ p → Rows σ' ds rows → (∀ row ∈ rows, RowOk row) → rows.length = sp.length → Mut [p] σ σ' → Q .next (lv.set "rows" (.ref r)) σ') : Ex G (n + 4) (e_law L) lv σ (exec (ls 2) (e_law L)) Q := by
  have kc := kc_pen L
  have tl := hP.1
  refine ex_assign_comp (cl := [(("pen" : Str), L + 1)]) hf ?_ (of_decide_eq_true (by kernel_rfl)) (by kernel_rfl) (by kernel_rfl) (locals_of (by kernel_rfl)) (by kernel_rfl)
  walk_at "m"
  refine compH_list (L2J L p l k tb σ) hf (by kernel_rfl) (fun C => by kernel_rfl) (by kernel_rfl)
    (fun i ys σ' hj => by obtain ⟨_, _, _, _, _, _, _, M⟩ := hj; exact M q _ (by simpa using hqp) hq) hq (by rw [List.length_map]; lia) ⟨[], [], rfl, ⟨rfl, fun i row hi => by simp at hi⟩, by simp, rfl, B, Mut.refl _ _⟩ ?_ ?_
  · rintro C i v ys σ₃ hfc hv ⟨ds, rows, rfl, hR, hok, hl, B3, M3⟩
    have hi : i < 4 := by
      rcases Nat.lt_or_ge i ((ts.map V.ref).length) with q | q
      · rw [List.length_map] at q; lia
      · rw [List.getElem?_eq_none q] at hv; cases hv
    have q1 : (cEnv ⟨.function, [(Str.ofString ".0", .local), (Str.ofString "spot", .local), (Str.ofString "_law_draw", .globalImplicit), (Str.ofString "pen", .free)], false, false, []⟩ [(("pen" : Str), L + 1)] C (e_law L)).cells.lookup ("pen" : Str) = some (L + 1) := by kernel_rfl
    have c13 := B3.c1
    refine tests_nil (if_tt ?_)
    walk_at "m"
    refine c_draw (m := 2) (k := k + 100 - 3 * (i + 1) + 2) H (by decide) (by decide) (B3.pen.le (by lia)) fun w σ₄ hw P4 M4 => ?_
    have B4 := B3.draw P4 M4
    have c14 := B4.c1
    have hR4 := hR.mut M4 (soft_pen B3.pen)
    walk_at "m"
    refine if_bool (fun w1 => ?_) fun w1 => ?_
    · walk_at "m"
      intro d hd
      refine ⟨ds ++ [d], rows ++ [[]], by simp, (hR4.ext ((Ext.refl _).more hd)).snoc (St.set_same _ _ _), fun row hrow => ?_, by simp [hl], (B4.ext ((Ext.refl _).more hd)).le (by lia), (M3.trans M4).more hd⟩
      rcases List.mem_append.mp hrow with z | z
      · exact hok row z
      · rw [List.mem_singleton.mp z]; exact .inl rfl
    · refine ev_sdict' (fun d hd => ?_) rfl rfl
      have B5 := B4.ext ((Ext.refl _).more (o := .sdict [] 0) hd)
      have M5 := (M3.trans M4).more (o := .sdict [] 0) hd
      have hR5 := hR4.ext ((Ext.refl _).more (o := .sdict [] 0) hd)
      have d5 : (σ₄.set d (.sdict [] 0)) d = some (.sdict [] 0) := St.set_same _ _ _
      generalize σ₄.set d (.sdict [] 0) = σ₅ at B5 M5 hR5 d5
      have c15 := B5.c1
      refine prs_cons ?_
      walk_at "m"
      refine c_draw (m := 15) (k := k + 100 - 3 * (i + 1) + 1) H (by decide) (by decide) B5.pen fun a σ₆ ha P6 M6 => ?_
      have B6 := B5.draw P6 M6
      have c16 := B6.c1
      have hR6 := hR5.mut M6 (soft_pen B5.pen)
      have d6 := M6.keep (soft_pen B5.pen) d5 (fun _ e => by cases e) (fun _ _ e => by cases e)
      walk_at "m"
      refine prs_cons ?_
      walk_at "m"
      refine c_draw (m := 9) (k := k + 100 - 3 * (i + 1)) H (by decide) (by decide) B6.pen fun b σ₇ hb P7 M7 => ?_
      have B7 := B6.draw P7 M7
      have hR7 := hR6.mut M7 (soft_pen B6.pen)
      have d7 := M7.keep (soft_pen B6.pen) d6 (fun _ e => by cases e) (fun _ _ e => by cases e)
      refine prs_nil ⟨[(("Predictor" : Str), .int (1 + (a : Int))), (("K" : Str), .int b)], rfl, d7, fun ep => ?_⟩
      rw [show vmerge [] [(("Predictor" : Str), V.int (1 + (a : Int))), (("K" : Str), V.int b)] = [(("Predictor" : Str), V.int (1 + (a : Int))), (("K" : Str), V.int b)] by kernel_rfl]
      obtain ⟨⟨_, hp4⟩, _⟩ := B4.pen.at
      have hd0 : σ d = none := (M3.trans M4).no (by simpa using Ne.symm (ne_of_some_none hp4 hd)) hd
      refine ⟨ds ++ [d], rows ++ [_], by simp, (hR4.fresh hd hR7).snoc (St.set_same _ _ _), fun row hrow => ?_, by simp [hl], B7.put d7 (fun _ e => by cases e) (fun _ e => by cases e), ((M5.trans M6).trans M7).upd0 hd0⟩
      rcases List.mem_append.mp hrow with z | z
      · exact hok row z
      · rw [List.mem_singleton.mp z]; exact .inr ⟨_, _, rfl⟩
  · rintro ys σ₃ ⟨ds, rows, rfl, hR, hok, hl, B3, M3⟩ D hD
    obtain ⟨⟨_, hp3⟩, _⟩ := B3.pen.at
    exact h D ds rows _ ((B3.ext ((Ext.refl _).more hD)).le (by rw [List.length_map]; lia)) (St.set_same _ _ _) (Ne.symm (ne_of_some_none hp3 hD)) (hR.ext ((Ext.refl _).more hD)) hok (by rw [hl, List.length_map, tl]) (M3.more hD)
theorem pick_names {sp : List (Nat × Nat)} {ts : List Addr} (h : Picks σ ts sp) : (sp.map nmOf).map fullOf = sp.map flOf := by
  rw [List.map_map]
  apply List.map_congr_left
  intro ab hab
  obtain ⟨i, hi, e⟩ := List.mem_iff_getElem.mp hab
  obtain ⟨h1, h2, _⟩ := h.2 i ab (by rw [List.getElem?_eq_getElem hi, e])
  exact fullOf_nm h1 h2
theorem law3 (H : Pr G) {L p l q : Addr} {k : Nat} {tb : Option V} {ts : List Addr} {sp : List (Nat × Nat)} {Q : Fl → Lv → St → Prop} (hf : FnEnv (e_law L)) (B : Base σ L p l (k + 1) tb) (hl : lv "picked" = some (.ref q)) (hq : σ q = some (.list (ts.map V.ref))) (hP : Picks σ ts sp) (hsp : sp.length ≤ 4)
    (h : ∀ (r : Addr) (len : Nat) lv' σ', Base σ' L p l k tb → σ' r = some (.list ((sp.map nmOf).map V.str)) → r ≠ p → Mut [p] σ σ' → len < 1000 → lv' = (lv.set "length" (.int len)).set "names" (.ref r) → Q .next lv' σ') : Ex G (n + 4) (e_law L) lv σ (exec (ls 3) (e_law L)) Q := by
  have kc := kc_pen L
  have tl := hP.1
  obtain ⟨⟨_, hp0⟩, _⟩ := B.pen.at
  refine ex_swap' ["names", "length"] ?_ hf (by kernel_rfl)
  walk_at "m"
  refine ev_comp (cl := []) ?_ (by kernel_rfl) (by kernel_rfl) (locals_of (by kernel_rfl))
  walk_at "m"
  refine compH_list (fun i ys σ' => ys = ((sp.take i).map nmOf).map V.str ∧ Ext σ σ') hf (by kernel_rfl) (fun C => by kernel_rfl) (by kernel_rfl) (fun i ys σ' hj => hj.2 _ _ hq) hq (by rw [List.length_map]; lia) ⟨rfl, Ext.refl _⟩ ?_ ?_
  · rintro C i v ys σ₃ hfc hv ⟨rfl, e3⟩
    rw [List.getElem?_map] at hv
    obtain ⟨t, ht, rfl⟩ := Option.map_eq_some_iff.mp hv
    have hi : i < sp.length := by
      rcases Nat.lt_or_ge i ts.length with w | w
      · lia
      · rw [List.getElem?_eq_none w] at ht; cases ht
    obtain ⟨ab, hab⟩ : ∃ ab, sp[i]? = some ab := ⟨_, List.getElem?_eq_getElem hi⟩
    obtain ⟨h1, h2, t', g1, g2⟩ := hP.2 i ab hab
    rw [ht] at g1
    cases g1
    obtain ⟨r, r1, r2⟩ := lawTup_at G ab.1 h1
    refine tests_nil (if_tt ?_)
    walk_at "m"
    refine item_tuple (Gd.look_of (e3 _ _ g2)) (by decide) (by decide) (v := .int ab.1) rfl ?_
    refine item_rom H (lawTup_rom G) (by lia) (by lia) (by rw [Int.toNat_natCast]; exact r1) ?_
    walk_at "m"
    refine item_tuple (Gd.look_of (e3 _ _ g2)) (by decide) (by decide) (v := .int ab.2) rfl ?_
    refine item_rom H r2 (by lia) (by lia) (v := .str (nmOf ab)) ?_ ?_
    · unfold nmOf
      rw [Int.toNat_natCast]
      rcases (by lia : ab.2 = 0 ∨ ab.2 = 1) with e | e <;> rw [e] <;> rfl
    · exact ⟨by rw [take_snoc hab]; simp, e3⟩
  · rintro ys σ₃ ⟨rfl, e3⟩ D hD
    rw [List.length_map, tl, List.take_length]
    have B4 := B.ext (e3.more (o := .list ((sp.map nmOf).map V.str)) hD)
    have x4 := e3.more (o := .list ((sp.map nmOf).map V.str)) hD
    have d4 : (σ₃.set D (.list ((sp.map nmOf).map V.str))) D = some (.list ((sp.map nmOf).map V.str)) := St.set_same _ _ _
    have nDp : D ≠ p := Ne.symm (ne_of_some_none (e3 _ _ hp0) hD)
    generalize σ₃.set D (.list ((sp.map nmOf).map V.str)) = σ₄ at B4 x4 d4
    have c14 := B4.c1
    walk_at "m"
    refine c_draw (m := 1000) H (by decide) (by decide) B4.pen fun len σ₅ hlen P5 M5 => ?_
    have B5 := B4.draw P5 M5
    walk_at "m"
    refine ⟨sz (by simp), fun t ht => ⟨t, _, rfl, St.set_same _ _ _, rfl, fun lv' elv => ?_⟩⟩
    exact h D len lv' _ (B5.ext ((Ext.refl _).more ht)) (St.set_new ht (M5 D _ (by simpa using nDp) d4)) nDp (((Mut.ext x4).trans M5).more ht) hlen elv
theorem law4 (H : Pr G) {L q : Addr} {ts : List Addr} {sp : List (Nat × Nat)} {Q : Fl → Lv → St → Prop} (hf : FnEnv (e_law L)) (hl : lv "picked" = some (.ref q)) (hq : σ q = some (.list (ts.map V.ref))) (hP : Picks σ ts sp) (hsp : sp.length ≤ 4)
    (h : ∀ (r : Addr) σ', Ext σ σ' → σ r = none → σ' r = some (.list ((sp.map flOf).map V.str)) → Q .next (lv.set "full" (.ref r)) σ') : Ex G (n + 4) (e_law L) lv σ (exec (ls 4) (e_law L)) Q := by
  have tl := hP.1
  refine ex_assign_comp (cl := []) hf ?_ (of_decide_eq_true (by kernel_rfl)) (by kernel_rfl) (by kernel_rfl) (locals_of (by kernel_rfl)) (by kernel_rfl)
  walk_at "m"
  refine compH_list (fun i ys σ' => ys = ((sp.take i).map flOf).map V.str ∧ Ext σ σ') hf (by kernel_rfl) (fun C => by kernel_rfl) (by kernel_rfl) (fun i ys σ' hj => hj.2 _ _ hq) hq (by rw [List.length_map]; lia) ⟨rfl, Ext.refl _⟩ ?_ ?_
  · rintro C i v ys σ₃ hfc hv ⟨rfl, e3⟩
    rw [List.getElem?_map] at hv
    obtain ⟨t, ht, rfl⟩ := Option.map_eq_some_iff.mp hv
    have hi : i < sp.length := by
      rcases Nat.lt_or_ge i ts.length with w | w
      · lia
      · rw [List.getElem?_eq_none w] at ht; cases ht
    obtain ⟨ab, hab⟩ : ∃ ab, sp[i]? = some ab := ⟨_, List.getElem?_eq_getElem hi⟩
    obtain ⟨h1, h2, t', g1, g2⟩ := hP.2 i ab hab
    rw [ht] at g1
    cases g1
    obtain ⟨r, r1, r2⟩ := lawTup_at G ab.1 h1
    refine tests_nil (if_tt ?_)
    walk_at "m"
    refine item_tuple (Gd.look_of (e3 _ _ g2)) (by decide) (by decide) (v := .int ab.1) rfl ?_
    refine item_rom H (lawTup_rom G) (by lia) (by lia) (by rw [Int.toNat_natCast]; exact r1) ?_
    walk_at "m"
    refine item_rom H r2 (by decide) (by decide) (v := .str (flOf ab)) rfl ?_
    exact ⟨by rw [take_snoc hab]; simp, e3⟩
  · rintro ys σ₃ ⟨rfl, e3⟩ D hD
    rw [List.length_map, tl, List.take_length]
    exact h D _ (e3.more hD) (e3.no hD) (St.set_same _ _ _)
end
set_option hygiene false
section
variable {G : Gd} {n : Nat} {σ : St} {env : Env} {lv : Lv} {Q : V → St → Prop}
theorem ok_len {rows : List Row} (h : ∀ row ∈ rows, RowOk row) : ∀ r ∈ rows, r.length ≤ 100 := fun r hr => by
  rcases h r hr with rfl | ⟨a, b, rfl⟩ <;> simp
/-- the head that the law holds -/
structure Head (σ₀ σ : St) (hd : Addr) (xs : List Str) (rows : List Row) (len : Int) (fp pp : Row) : Prop where
  at_ : ∃ ep, σ hd = some (.sdict (fp ++ pp ++ [(("Length" : Str), V.int len)]) ep)
  f : (xs = [] ∧ fp = []) ∨ (xs ≠ [] ∧ ∃ v, fp = [(("Filter" : Str), v)] ∧ FilV σ xs v)
  p : (anyRow rows = false ∧ pp = []) ∨ (anyRow rows = true ∧ ∃ v, pp = [(("DecodeParms" : Str), v)] ∧ ParV σ₀ σ rows v)
theorem ParV.ext {σ₀ σ' : St} (e : Ext σ σ') {rows : List Row} {v : V} (h : ParV σ₀ σ rows v) : ParV σ₀ σ' rows v := by
  rcases h with ⟨row, h1, h2⟩ | ⟨h1, l, items, h2, h3, h4⟩
  · exact .inl ⟨row, h1, h2.ext e⟩
  · exact .inr ⟨h1, l, items, h2, e _ _ h3, h4.ext e⟩
theorem Head.ext {σ₀ σ' : St} (e : Ext σ σ') {hd : Addr} {xs : List Str} {rows : List Row} {len : Int} {fp pp : Row} (h : Head σ₀ σ hd xs rows len fp pp) : Head σ₀ σ' hd xs rows len fp pp :=
  ⟨h.at_.imp fun _ a => e _ _ a, h.f.imp id fun ⟨a, v, b, c⟩ => ⟨a, v, b, c.ext e⟩, h.p.imp id fun ⟨a, v, b, c⟩ => ⟨a, v, b, c.ext e⟩⟩
theorem law5 (H : Pr G) {L nl rl : Addr} {xs : List Str} {ds : List Addr} {rows : List Row} {len : Nat} {Q : Fl → Lv → St → Prop} (hf : FnEnv (e_law L)) (l1 : lv "names" = some (.ref nl)) (l2 : lv "rows" = some (.ref rl)) (l3 : lv "length" = some (.int len)) (hn : σ nl = some (.list (xs.map V.str))) (hr : σ rl = some (.list (ds.map V.ref))) (hR : Rows σ ds rows) (hx : xs.length ≤ 100) (hl : rows.length ≤ 100) (hok : ∀ row ∈ rows, RowOk row)
    (h : ∀ (hd : Addr) (fp pp : Row) σ', Ext σ σ' → σ hd = none → Head σ σ' hd xs rows len fp pp → Q .next (lv.set "head" (.ref hd)) σ') : Ex G (n + 4) (e_law L) lv σ (exec (ls 5) (e_law L)) Q := by
  refine ex_assign ?_
  walk_at "m"
  refine c_head_of H hn hr hR hx hl (ok_len hok) fun d σ' ep fp pp e hd h1 h2 h3 => ?_
  walk_at "m"
  exact h d fp pp σ' e hd ⟨⟨ep, h1⟩, h2, h3⟩
noncomputable def keysOf (xs : Bool) (rows : Bool) : List Str := [("Length" : Str)] ++ (if xs = true then [("Filter" : Str)] else []) ++ (if rows = true then [("DecodeParms" : Str)] else [])
theorem law6 (H : Pr G) {L q rl : Addr} {ts ds : List Addr} {rows : List Row} {Q : Fl → Lv → St → Prop} (hf : FnEnv (e_law L)) (l1 : lv "picked" = some (.ref q)) (l2 : lv "rows" = some (.ref rl)) (hq : σ q = some (.list (ts.map V.ref))) (hr : σ rl = some (.list (ds.map V.ref))) (hR : Rows σ ds rows) (hl : rows.length ≤ 100)
    (h : ∀ (r : Addr) σ', Ext σ σ' → σ' r = some (.list ((keysOf (!ts.isEmpty) (anyRow rows)).map V.str)) → Q .next (lv.set "keys" (.ref r)) σ') : Ex G (n + 4) (e_law L) lv σ (exec (ls 6) (e_law L)) Q := by
  have dsl := hR.1
  refine ex_assign ?_
  walk_at "mi"
  refine ⟨sz (by simp), fun a ha => ?_⟩
  refine Run.mono (Q := fun v σ' => ∃ r, v = .ref r ∧ σ' r = some (.list ((if (!ts.isEmpty) = true then [("Filter" : Str)] else []).map V.str)) ∧ Ext (σ.set a (.list [.str "Length"])) σ') ?_ ?_
  · refine ev_if ?_
    walk_at "m"
    refine ⟨sz (by simp), fun z hz => ?_⟩
    refine cmp_ne_nil (Gd.look_of (St.set_new hz (St.set_new ha hq))) (Gd.look_of (St.set_same _ _ _)) ?_
    walk_at "m"
    have e : (ts.map V.ref).isEmpty = ts.isEmpty := by cases ts <;> rfl
    rw [e]
    refine if_bool (fun w => ?_) fun w => ?_
    · walk_at "m"
      refine ⟨sz (by simp), fun y hy => ⟨y, rfl, ?_, ((Ext.refl _).more hz).more hy⟩⟩
      rw [if_pos w]; exact St.set_same _ _ _
    · walk_at "m"
      refine ⟨sz (by simp), fun y hy => ⟨y, rfl, ?_, ((Ext.refl _).more hz).more hy⟩⟩
      rw [if_neg (by rw [w]; decide)]; exact St.set_same _ _ _
  rintro v σ₁ ⟨b, rfl, hb, e1⟩
  have a1 := e1 _ _ (St.set_same σ a (.list [.str "Length"]))
  refine bin_concat (xs := [.str "Length"]) (Gd.look_of a1) (Gd.look_of hb) (sz (by rw [List.length_map]; split <;> simp)) fun c hc => ?_
  have x1 : Ext σ (σ₁.set c (.list ([.str "Length"] ++ (if (!ts.isEmpty) = true then [("Filter" : Str)] else []).map V.str))) := (((Ext.refl σ).more ha).trans e1).more hc
  have c1 : (σ₁.set c (.list ([.str "Length"] ++ (if (!ts.isEmpty) = true then [("Filter" : Str)] else []).map V.str))) c = some (.list ([.str "Length"] ++ (if (!ts.isEmpty) = true then [("Filter" : Str)] else []).map V.str)) := St.set_same _ _ _
  generalize σ₁.set c (.list ([.str "Length"] ++ (if (!ts.isEmpty) = true then [("Filter" : Str)] else []).map V.str)) = σ₂ at x1 c1
  refine Run.mono (Q := fun v σ' => ∃ r, v = .ref r ∧ σ' r = some (.list ((if anyRow rows = true then [("DecodeParms" : Str)] else []).map V.str)) ∧ Ext σ₂ σ') ?_ ?_
  · have r3 := x1 _ _ hr
    have hR3 := hR.ext x1
    refine ev_if (ts_cmp ?_)
    refine ev_comp (cl := []) ?_ (by kernel_rfl) (by kernel_rfl) (locals_of (by kernel_rfl))
    walk_at "m"
    refine compH_list (fun i ys σ' => (ys.isEmpty = !anyRow (rows.take i)) ∧ ys.length ≤ i ∧ Ext σ₂ σ') hf (by kernel_rfl) (fun C => by kernel_rfl) (by kernel_rfl)
      (fun k ys σ₅ hj => hj.2.2 _ _ r3) r3 (by rw [List.length_map]; lia) ⟨rfl, Nat.le_refl _, Ext.refl _⟩ ?_ ?_
    · rintro C i v ys σ₄ hfc hv ⟨j1, j2, e4⟩
      rw [List.getElem?_map] at hv
      obtain ⟨d', hd', rfl⟩ := Option.map_eq_some_iff.mp hv
      obtain ⟨row, hrow⟩ : ∃ row, rows[i]? = some row := ⟨_, List.getElem?_eq_getElem (by
        rcases Nat.lt_or_ge i ds.length with q | q
        · lia
        · rw [List.getElem?_eq_none q] at hd'; cases hd')⟩
      obtain ⟨d2, ep2, g1, g2⟩ := hR3.2 i row hrow
      rw [hd'] at g1
      cases g1
      refine tests_one ?_
      walk_at "m"
      intro y hy
      refine cmp_ne_sdict0 (St.set_new hy (e4 _ _ g2)) (St.set_same _ _ _) ?_
      walk_at "m"
      have ea := anyRow_take hrow
      refine if_bool (fun w => ?_) fun w => ?_
      · walk_at "m"
        refine ⟨?_, by simp; lia, e4.more hy⟩
        rw [ea, w]; simp
      · refine ⟨?_, by lia, e4.more hy⟩
        rw [ea, w, Bool.or_false]; exact j1
    · rintro ys σ₄ ⟨j1, j2, e4⟩ D hD
      rw [List.length_map, dsl, List.take_length] at j1
      walk_at "m"
      refine ⟨sz (by simp), fun z hz => ?_⟩
      refine cmp_ne_nil (Gd.look_of (St.set_new hz (St.set_same _ _ _))) (Gd.look_of (St.set_same _ _ _)) ?_
      walk_at "m"
      rw [j1, Bool.not_not]
      have e5 : Ext σ₂ ((σ₄.set D (.list ys)).set z (.list [])) := (e4.more hD).more hz
      refine if_bool (fun w => ?_) fun w => ?_
      · walk_at "m"
        refine ⟨sz (by simp), fun y hy => ⟨y, rfl, ?_, e5.more hy⟩⟩
        rw [if_pos w]; exact St.set_same _ _ _
      · walk_at "m"
        refine ⟨sz (by simp), fun y hy => ⟨y, rfl, ?_, e5.more hy⟩⟩
        rw [if_neg (by rw [w]; decide)]; exact St.set_same _ _ _
  rintro v σ₃ ⟨d, rfl, hd, e3⟩
  refine bin_concat (Gd.look_of (e3 _ _ c1)) (Gd.look_of hd) (sz (by rw [List.length_append, List.length_map, List.length_map]; split <;> split <;> simp)) fun r hr => ?_
  walk_at "m"
  refine h r _ ((x1.trans e3).more hr) ?_
  rw [St.set_same]
  unfold keysOf
  simp
theorem law7 (H : Pr G) {σ₀ : St} {L hd rl : Addr} {xs : List Str} {ds : List Addr} {rows : List Row} {len : Int} {fp pp : Row} {Q : Fl → Lv → St → Prop} (hf : FnEnv (e_law L)) (l1 : lv "head" = some (.ref hd)) (l2 : lv "rows" = some (.ref rl)) (hr : σ rl = some (.list (ds.map V.ref))) (hR : Rows σ ds rows) (hl : rows.length ≤ 100) (hH : Head σ₀ σ hd xs rows len fp pp)
    (h : ∀ (sv pv : V) lv' σ', Ext σ σ' → ((xs = [] ∧ ∃ e, sv = .ref e ∧ σ' e = some (.list [])) ∨ (xs ≠ [] ∧ FilV σ' xs sv)) → ((anyRow rows = false ∧ ∃ e, pv = .ref e ∧ σ' e = some (.list (List.replicate rows.length .none))) ∨ (anyRow rows = true ∧ ParV σ₀ σ' rows pv)) → lv' = (lv.set "parts" pv).set "some" sv → Q .next lv' σ') : Ex G (n + 4) (e_law L) lv σ (exec (ls 7) (e_law L)) Q := by
  obtain ⟨⟨ep, h1⟩, h2, h3⟩ := hH
  have dsl := hR.1
  refine ex_swap' ["some", "parts"] ?_ hf (by kernel_rfl)
  walk_at "m"
  refine ⟨_, _, getm_get (.inl ⟨_, _, h1⟩), ?_⟩
  walk_at "m"
  refine ⟨sz (by simp), fun e he => ?_⟩
  walk_at "m"
  refine call_get2 (St.set_new he h1) ?_
  have k1 : vat (fp ++ pp ++ [(("Length" : Str), V.int len)]) ("Filter" : Str) = if xs = [] then none else (fp.head?.map Prod.snd) := by
    rcases h2 with ⟨hx, rfl⟩ | ⟨hx, v, rfl, _⟩
    · rw [if_pos hx]
      rcases h3 with ⟨_, rfl⟩ | ⟨_, v, rfl, _⟩ <;> kernel_rfl
    · rw [if_neg hx]
      rcases h3 with ⟨_, rfl⟩ | ⟨_, w, rfl, _⟩ <;> kernel_rfl
  have k2 : vat (fp ++ pp ++ [(("Length" : Str), V.int len)]) ("DecodeParms" : Str) = if anyRow rows = false then none else (pp.head?.map Prod.snd) := by
    rcases h3 with ⟨hx, rfl⟩ | ⟨hx, v, rfl, _⟩
    · rw [if_pos hx]
      rcases h2 with ⟨_, rfl⟩ | ⟨_, v, rfl, _⟩ <;> kernel_rfl
    · rw [if_neg (by rw [hx]; decide)]
      rcases h2 with ⟨_, rfl⟩ | ⟨_, w, rfl, _⟩ <;> kernel_rfl
  rw [k1]
  generalize hsv : (if xs = [] then none else (fp.head?.map Prod.snd)).getD (V.ref e) = sv
  walk_at "m"
  refine ⟨_, _, getm_get (.inl ⟨_, _, St.set_new he h1⟩), ?_⟩
  walk_at "m"
  refine ⟨sz (by simp), fun z hz => ?_⟩
  walk_at "m"
  refine call_len_list (Gd.look_of (St.set_new hz (St.set_new he hr))) (sz (by rw [List.length_map]; lia)) ?_
  rw [List.length_map, dsl]
  refine bin_repeat (Gd.look_of (St.set_same _ _ _)) (by lia) (by lia) (by simp; lia) fun u hu => ?_
  have er : rep (rows.length : Int).toNat [V.none] = List.replicate rows.length V.none := by rw [Int.toNat_natCast]; unfold rep; induction rows.length with
    | zero => rfl
    | succ k ih => rw [List.replicate_succ, List.flatten_cons, ih]; rfl
  rw [er]
  walk_at "m"
  refine call_get2 (St.set_new hu (St.set_new hz (St.set_new he h1))) ?_
  rw [k2]
  generalize hpv : (if anyRow rows = false then none else (pp.head?.map Prod.snd)).getD (V.ref u) = pv
  walk_at "m"
  refine ⟨sz (by simp), fun t ht => ⟨t, _, rfl, St.set_same _ _ _, rfl, fun lv' elv => ?_⟩⟩
  have x1 : Ext σ ((((σ.set e (.list [])).set z (.list [.none])).set u (.list (List.replicate rows.length .none))).set t (.tuple [sv, pv])) := ((((Ext.refl _).more he).more hz).more hu).more ht
  refine h sv pv lv' _ x1 ?_ ?_ elv
  · rcases h2 with ⟨hx, rfl⟩ | ⟨hx, v, rfl, hv⟩
    · rw [if_pos hx] at hsv
      exact .inl ⟨hx, e, hsv.symm, St.set_new ht (St.set_new hu (St.set_new hz (St.set_same _ _ _)))⟩
    · rw [if_neg hx] at hsv
      have : v = sv := hsv
      subst this
      exact .inr ⟨hx, hv.ext x1⟩
  · rcases h3 with ⟨hx, rfl⟩ | ⟨hx, v, rfl, hv⟩
    · rw [if_pos hx] at hpv
      exact .inl ⟨hx, u, hpv.symm, St.set_new ht (St.set_same _ _ _)⟩
    · rw [if_neg (by rw [hx]; decide)] at hpv
      have : v = pv := hpv
      subst this
      exact .inr ⟨hx, hv.ext x1⟩
end
set_option hygiene false
section
variable {G : Gd} {n : Nat} {σ : St} {env : Env} {lv : Lv} {Q : V → St → Prop}
noncomputable def sortedKeys (b1 b2 : Bool) : List Str := (if b2 = true then [("DecodeParms" : Str)] else []) ++ (if b1 = true then [("Filter" : Str)] else []) ++ [("Length" : Str)]
theorem perm1 {α : Type} {ss : List α} {a : α} (h : ss.Perm [a]) : ss = [a] := List.perm_singleton.mp h
theorem len_2 {α : Type} {l : List α} (h : l.length = 2) : ∃ a b, l = [a, b] := by
  match l, h with
  | [a, b], _ => exact ⟨a, b, rfl⟩
theorem len_3 {α : Type} {l : List α} (h : l.length = 3) : ∃ a b c, l = [a, b, c] := by
  match l, h with
  | [a, b, c], _ => exact ⟨a, b, c, rfl⟩
theorem sort_key {b1 b2 : Bool} {ss : List Str} (hp : ss.Perm (keysOf b1 b2)) (hs : sortedS ss = true) : ss = sortedKeys b1 b2 := by
  cases b1 <;> cases b2
  · exact perm1 hp
  · obtain ⟨a, b, rfl⟩ := len_2 (hp.length_eq)
    have h1 := hp.mem_iff (a := a)
    have h2 := hp.mem_iff (a := b)
    simp [keysOf] at h1 h2
    rcases h1 with rfl | rfl <;> rcases h2 with rfl | rfl <;> first | rfl | exact absurd hs (by decide +kernel) | exact absurd hp (by decide +kernel)
  · obtain ⟨a, b, rfl⟩ := len_2 (hp.length_eq)
    have h1 := hp.mem_iff (a := a)
    have h2 := hp.mem_iff (a := b)
    simp [keysOf] at h1 h2
    rcases h1 with rfl | rfl <;> rcases h2 with rfl | rfl <;> first | rfl | exact absurd hs (by decide +kernel) | exact absurd hp (by decide +kernel)
  · obtain ⟨a, b, c, rfl⟩ := len_3 (hp.length_eq)
    have h1 := hp.mem_iff (a := a)
    have h2 := hp.mem_iff (a := b)
    have h3 := hp.mem_iff (a := c)
    simp [keysOf] at h1 h2 h3
    rcases h1 with rfl | rfl | rfl <;> rcases h2 with rfl | rfl | rfl <;> rcases h3 with rfl | rfl | rfl <;> first | rfl | exact absurd hs (by decide +kernel) | exact absurd hp (by decide +kernel)
theorem Head.keys {σ₀ : St} {hd : Addr} {xs : List Str} {rows : List Row} {len : Int} {fp pp : Row} (hH : Head σ₀ σ hd xs rows len fp pp) : ((fp ++ pp ++ [(("Length" : Str), V.int len)]).map (·.1)).Perm (keysOf (!xs.isEmpty) (anyRow rows)) ∧ (fp ++ pp ++ [(("Length" : Str), V.int len)]).length ≤ 3 := by
  have e : ∀ xs : List Str, xs ≠ [] → (!xs.isEmpty) = true := fun xs h => by cases xs <;> simp at h ⊢
  rcases hH.f with ⟨rfl, rfl⟩ | ⟨hx, v, rfl, _⟩ <;> rcases hH.p with ⟨hr, rfl⟩ | ⟨hr, w, rfl, _⟩
  · rw [hr]; exact ⟨(by decide +kernel : ([("Length" : Str)] : List Str).Perm (keysOf false false)), by simp⟩
  · rw [hr]; exact ⟨(by decide +kernel : ([("DecodeParms" : Str), ("Length" : Str)] : List Str).Perm (keysOf false true)), by simp⟩
  · rw [hr, e _ hx]; exact ⟨(by decide +kernel : ([("Filter" : Str), ("Length" : Str)] : List Str).Perm (keysOf true false)), by simp⟩
  · rw [hr, e _ hx]; exact ⟨(by decide +kernel : ([("Filter" : Str), ("DecodeParms" : Str), ("Length" : Str)] : List Str).Perm (keysOf true true)), by simp⟩
theorem str_flat : ∀ x y : Str, flatEq (V.str x) (V.str y) = some (decide (x = y)) := fun _ _ => rfl
theorem law8 (H : Pr G) {σ₀ : St} {L hd kl nl fl : Addr} {xs : List Str} {rows : List Row} {len : Nat} {fp pp : Row} {Q : Fl → Lv → St → Prop} (hf : FnEnv (e_law L)) (l1 : lv "head" = some (.ref hd)) (l2 : lv "keys" = some (.ref kl)) (l3 : lv "length" = some (.int len)) (l4 : lv "names" = some (.ref nl)) (l5 : lv "full" = some (.ref fl))
    (hH : Head σ₀ σ hd xs rows len fp pp) (hk : σ kl = some (.list ((keysOf (!xs.isEmpty) (anyRow rows)).map V.str))) (hn : σ nl = some (.list (xs.map V.str))) (hx : xs.length ≤ 100) (hfl : σ fl = some (.list ((xs.map fullOf).map V.str)))
    (h : ∀ σ', Ext σ σ' → Q .next lv σ') : Ex G (n + 4) (e_law L) lv σ (exec (ls 8) (e_law L)) Q := by
  obtain ⟨kp, kl3⟩ := hH.keys
  obtain ⟨⟨ep, h1⟩, h2, h3⟩ := hH
  refine ex_if ?_
  walk_at "m"
  refine call_sorted_dict h1 (by lia) fun r1 ss1 hr1 p1 s1 => ?_
  rw [sort_key (p1.trans kp) s1]
  walk_at "m"
  refine call_sorted (Gd.look_of (St.set_new hr1 hk)) (by unfold keysOf; split <;> split <;> simp) fun r2 ss2 hr2 p2 s2 => ?_
  rw [sort_key p2 s2]
  refine cmp_ne_map str_flat (Gd.look_of (St.set_new hr2 (St.set_same _ _ _))) (Gd.look_of (St.set_same _ _ _)) ?_
  rw [decide_eq_true (rfl : sortedKeys (!xs.isEmpty) (anyRow rows) = _)]
  have e2 : Ext σ ((σ.set r1 (.list ((sortedKeys (!xs.isEmpty) (anyRow rows)).map V.str))).set r2 (.list ((sortedKeys (!xs.isEmpty) (anyRow rows)).map V.str))) := ((Ext.refl _).more hr1).more hr2
  generalize (σ.set r1 (.list ((sortedKeys (!xs.isEmpty) (anyRow rows)).map V.str))).set r2 (.list ((sortedKeys (!xs.isEmpty) (anyRow rows)).map V.str)) = σ₂ at e2
  walk_at "m"
  refine item_sdict (e2 _ _ h1) (v := .int len) ?_ ?_
  · rcases h2 with ⟨_, rfl⟩ | ⟨_, v, rfl, _⟩ <;> rcases h3 with ⟨_, rfl⟩ | ⟨_, w, rfl, _⟩ <;> kernel_rfl
  walk_at "m"
  rw [show ((len : Int) != (len : Int)) = false by simp]
  walk_at "m"
  refine ev_comp (cl := []) ?_ (by kernel_rfl) (by kernel_rfl) (locals_of (by kernel_rfl))
  walk_at "m"
  refine compH_list (fun i ys σ' => ys = ((xs.take i).map fullOf).map V.str ∧ Ext σ₂ σ') hf (by kernel_rfl) (fun C => by kernel_rfl) (by kernel_rfl) (fun i ys σ' hj => hj.2 _ _ (e2 _ _ hn)) (e2 _ _ hn) (by rw [List.length_map]; lia) ⟨rfl, Ext.refl _⟩ ?_ ?_
  · rintro C i v ys σ₃ hfc hv ⟨rfl, e3⟩
    rw [List.getElem?_map] at hv
    obtain ⟨x, hx', rfl⟩ := Option.map_eq_some_iff.mp hv
    refine tests_nil (if_tt ?_)
    walk_at "m"
    refine c_full_name H fun σ₄ e4 => ?_
    exact ⟨by rw [take_snoc hx']; simp, e3.trans e4⟩
  · rintro ys σ₃ ⟨rfl, e3⟩ D hD
    rw [List.length_map, List.take_length]
    walk_at "m"
    refine cmp_ne_map str_flat (Gd.look_of (St.set_same _ _ _)) (Gd.look_of (St.set_new hD (e3 _ _ (e2 _ _ hfl)))) ?_
    rw [decide_eq_true (rfl : xs.map fullOf = _)]
    walk_at "m"
    exact h _ (e2.trans (e3.more hD))
inductive NamI (xs : List Str) (σ : St) (v : V) (σ' : St) : Prop where
  | mk (r : Addr) (as : List Addr) (h0 : v = .ref r) (h1 : σ' r = some (.list (as.map V.ref))) (h2 : Names σ' as xs) (h3 : Ext σ σ') : NamI xs σ v σ'
theorem law9 (H : Pr G) {L nl fl : Addr} {xs : List Str} {sv : V} {Q : Fl → Lv → St → Prop} (hf : FnEnv (e_law L)) (l1 : lv "some" = some sv) (l4 : lv "names" = some (.ref nl)) (l5 : lv "full" = some (.ref fl))
    (hs : (xs = [] ∧ ∃ e, sv = .ref e ∧ σ e = some (.list [])) ∨ (xs ≠ [] ∧ FilV σ xs sv)) (hn : σ nl = some (.list (xs.map V.str))) (hx : xs.length ≤ 100) (hfl : σ fl = some (.list ((xs.map fullOf).map V.str)))
    (h : ∀ σ', Ext σ σ' → Q .next lv σ') : Ex G (n + 4) (e_law L) lv σ (exec (ls 9) (e_law L)) Q := by
  refine ex_if ?_
  walk_at "m"
  refine ev_comp (cl := []) ?_ (by kernel_rfl) (by kernel_rfl) (locals_of (by kernel_rfl))
  refine Run.mono (Q := NamI xs σ) ?_ ?_
  · walk_at "m"
    refine call_len_list (Gd.look_of hn) (sz (by rw [List.length_map]; lia)) ?_
    rw [List.length_map]
    walk_at "m"
    refine if_bool (fun w => ?_) fun w => ?_
    · have hne : xs.length ≠ 1 := by intro q; rw [q] at w; simp at w
      walk_at "m"
      rcases hs with ⟨rfl, e, rfl, he⟩ | ⟨hne', hv⟩
      · exact ⟨e, [], rfl, he, ⟨rfl, fun i x hi => by simp at hi⟩, Ext.refl _⟩
      · rcases hv with ⟨x, a, rfl, _⟩ | ⟨_, l, as, rfl, hl, hN⟩
        · exact absurd rfl hne
        · exact ⟨l, as, rfl, hl, hN, Ext.refl _⟩
    · have he : xs.length = 1 := by
        have := of_decide_eq_false (p := (xs.length : Int) ≠ 1) (by simpa using w)
        lia
      walk_at "m"
      refine ⟨sz (by simp), fun r hr => ?_⟩
      rcases hs with ⟨rfl, _⟩ | ⟨hne', hv⟩
      · simp at he
      · rcases hv with ⟨x, a, rfl, rfl, hN⟩ | ⟨q, _⟩
        · refine ⟨r, [a], rfl, St.set_same _ _ _, ⟨rfl, fun i y hy => ?_⟩, (Ext.refl _).more hr⟩
          match i, hy with
          | 0, hy => cases hy; exact ⟨a, rfl, hN.ext (Ext.new hr)⟩
          | i + 1, hy => simp at hy
        · exact absurd he q
  · rintro v σ₁ ⟨r, as, rfl, hr, hN, e1⟩
    have al := hN.1
    refine compH_list (fun i ys σ' => ys = ((xs.take i).map fullOf).map V.str ∧ Ext σ₁ σ') hf (by kernel_rfl) (fun C => by kernel_rfl) (by kernel_rfl) (fun i ys σ' hj => hj.2 _ _ hr) hr (by rw [List.length_map]; lia) ⟨rfl, Ext.refl _⟩ ?_ ?_
    · rintro C i v ys σ₃ hfc hv ⟨rfl, e3⟩
      rw [List.getElem?_map] at hv
      obtain ⟨a, ha, rfl⟩ := Option.map_eq_some_iff.mp hv
      have hi : i < xs.length := by
        rcases Nat.lt_or_ge i as.length with w | w
        · lia
        · rw [List.getElem?_eq_none w] at ha; cases ha
      obtain ⟨x, hx'⟩ : ∃ x, xs[i]? = some x := ⟨_, List.getElem?_eq_getElem hi⟩
      obtain ⟨a', g1, d, ep, g2, g3⟩ := hN.2 i x hx'
      rw [ha] at g1
      cases g1
      refine tests_nil (if_tt ?_)
      walk_at "m"
      refine attr_inst (e3 _ _ g2) (e3 _ _ g3) rfl rfl (cls_name H) (by rw [H.k]; kernel_rfl) ?_
      exact ⟨by rw [take_snoc hx']; simp, e3⟩
    · rintro ys σ₃ ⟨rfl, e3⟩ D hD
      rw [List.length_map, al, List.take_length]
      walk_at "m"
      refine cmp_ne_map str_flat (Gd.look_of (St.set_same _ _ _)) (Gd.look_of (St.set_new hD (e3 _ _ (e1 _ _ hfl)))) ?_
      rw [decide_eq_true (rfl : xs.map fullOf = _)]
      walk_at "m"
      exact h _ (e1.trans (e3.more hD))
end
set_option hygiene false
section
variable {G : Gd} {n : Nat} {σ : St} {env : Env} {lv : Lv} {Q : V → St → Prop}
theorem compH_list_cell {r : Addr} {xs : List V} {scope : Scope} {cl : List (Str × Addr)} {x : Str} {px : Pos} {ifs : List Expr} {elt : Expr} {Z : List V → St → Prop} (J : Addr → Nat → List V → St → Prop) (hf : FnEnv env) (hk : scope.kind = .function) (hcells : ∀ C, cellsFrom (C + 1) scope.names [] = [(x, C + 1)])
    (hx : decide ((relabel scope env).names.lookup x = some .cell) = true) (hx2 : ∀ C, (cellsFrom (C + 1) scope.names cl).lookup x = some (C + 1))
    (hr : ∀ C i ys σ₂, J C i ys σ₂ → σ₂ r = some (.list xs)) (hc : ∀ C i ys σ₂, J C i ys σ₂ → ∃ w, σ₂ (C + 1) = some (.cell w)) (h1 : σ r = some (.list xs)) (hlen : xs.length ≤ 1000) (h0 : ∀ C, (∀ b y, σ b = some y → b < C) → J C 0 [] (σ.set (C + 1) (.cell none)))
    (hb : ∀ C i v ys σ₂, FnEnv (cEnv scope cl C env) → xs[i]? = some v → J C i ys σ₂ → Tests G n (cEnv scope cl C env) noV (σ₂.set (C + 1) (.cell (some v))) ifs (EltK G n (cEnv scope cl C env) noV elt (J C (i + 1)) ys))
    (he : ∀ C ys σ₂, J C xs.length ys σ₂ → Z ys σ₂) : CompH G n env scope cl x px ifs elt Z (.ref r) σ := by
  refine ⟨_, _, _, xs.length, iter_list (Gd.look_of h1), sz (by omega), fun C hC => ⟨fun i ys σ => i ≤ xs.length ∧ ys.length ≤ i ∧ J C i ys σ, ?_, ?_⟩⟩
  · rw [hcells]; exact ⟨Nat.zero_le _, Nat.le_refl _, h0 C hC⟩
  · rintro i ys σ₂ ⟨hi, hy, hj⟩
    refine ⟨hi, hy, ?_⟩
    have hl := Gd.look_of (G := G) (hr C i ys σ₂ hj)
    by_cases hlt : i < xs.length
    · refine .inl ⟨⟨xs, hl, hlt⟩, ?_⟩
      rintro v σ₃ ⟨rfl, zs, hz, hv⟩
      rw [hl] at hz
      cases hz
      obtain ⟨w, hw⟩ := hc C i ys _ hj
      refine tgt_name (fn_cEnv hf hk) (sto_cell hx (hx2 C) hw ?_)
      refine (hb C i v ys σ₃ (fn_cEnv hf hk) hv hj).mono fun b σ₅ hq => ?_
      cases b with
      | true => exact Run.mono hq fun y σ₆ hq => ⟨hlt, by rw [List.length_append]; exact Nat.succ_le_succ hy, hq⟩
      | false => exact ⟨hlt, Nat.le_succ_of_le hy, hq⟩
    · have : i = xs.length := by omega
      subst this
      exact .inr ⟨⟨xs, hl, Nat.le_refl _⟩, he _ _ _ hj⟩
/-- objects that no statement of the law changes -/
noncomputable def Calm : O → Prop
  | .list xs => ∀ i : Int, V.int i ∉ xs
  | .idict _ _ => False
  | .cell _ => False
  | _ => True
noncomputable def Fr (σ σ' : St) : Prop := ∀ b o, Calm o → σ b = some o → σ' b = some o
theorem Fr.refl (σ : St) : Fr σ σ := fun _ _ _ e => e
theorem Fr.trans {a b c : St} (x : Fr a b) (y : Fr b c) : Fr a c := fun i o h e => y i o h (x i o h e)
theorem Ext.fr {σ' : St} (x : Ext σ σ') : Fr σ σ' := fun b o _ e => x b o e
theorem calm_pen {p l : Addr} {k : Nat} (h : Pen σ p l k) {o : O} (hp : σ p = some o) : ¬ Calm o := by
  obtain ⟨ns, i1, i2, i3, h1, _⟩ := h
  rw [h1] at hp
  cases hp
  intro q
  exact q i1 (by simp)
theorem Mut.fr {σ' : St} {p l : Addr} {k : Nat} (x : Mut [p] σ σ') (h : Pen σ p l k) : Fr σ σ' := fun b o hc e => x b o (fun q => by
  rw [List.mem_singleton.mp q] at e
  exact calm_pen h e hc) e
theorem Mut.fr2 {σ' : St} {p l T : Addr} {k : Nat} {es : List (Int × V)} (x : Mut [p, T] σ σ') (h : Pen σ p l k) (hT : Tab σ T es) : Fr σ σ' := fun b o hc e => x b o (fun q => by
  rcases List.mem_cons.mp q with rfl | q
  · exact calm_pen h e hc
  · rw [List.mem_singleton.mp q] at e
    obtain ⟨⟨ep, g⟩, _⟩ := hT
    rw [g] at e
    cases e
    exact hc) e
theorem Fr.cell {c : Addr} {v : Option V} {o : O} (h : σ c = some (.cell v)) : Fr σ (σ.set c o) := fun b o' hc e => St.upd (fun q => by rw [q, h] at e; cases e; exact hc) e
theorem IsRef.fr {σ' : St} (x : Fr σ σ') {a : Addr} {i j : Int} (h : IsRef σ a i j) : IsRef σ' a i j := let ⟨d, ep, h1, h2⟩ := h; ⟨d, ep, x _ _ trivial h1, x _ _ trivial h2⟩
theorem IsName.fr {σ' : St} (x : Fr σ σ') {a : Addr} {y : Str} (h : IsName σ a y) : IsName σ' a y := let ⟨d, ep, h1, h2⟩ := h; ⟨d, ep, x _ _ trivial h1, x _ _ trivial h2⟩
theorem IsShelf.fr {σ' : St} (x : Fr σ σ') {a T : Addr} (h : IsShelf σ a T) : IsShelf σ' a T := let ⟨d, ep, tr, h1, h2⟩ := h; ⟨d, ep, tr, x _ _ trivial h1, x _ _ trivial h2⟩
theorem Rows.fr {σ' : St} (x : Fr σ σ') {ds : List Addr} {rows : List Row} (h : Rows σ ds rows) : Rows σ' ds rows :=
  ⟨h.1, fun i row hr => let ⟨d, ep, h1, h2⟩ := h.2 i row hr; ⟨d, ep, h1, x _ _ trivial h2⟩⟩
theorem Names.fr {σ' : St} (e : Fr σ σ') {as : List Addr} {xs : List Str} (h : Names σ as xs) : Names σ' as xs := ⟨h.1, fun i x hx => let ⟨a, h1, h2⟩ := h.2 i x hx; ⟨a, h1, h2.fr e⟩⟩
theorem calm_refs {as : List Addr} : Calm (.list (as.map V.ref)) := fun i h => by
  obtain ⟨a, _, e⟩ := List.mem_map.mp h
  cases e
theorem calm_strs {as : List Str} : Calm (.list (as.map V.str)) := fun i h => by
  obtain ⟨a, _, e⟩ := List.mem_map.mp h
  cases e
theorem FilV.fr {σ' : St} (e : Fr σ σ') {xs : List Str} {v : V} (h : FilV σ xs v) : FilV σ' xs v := by
  rcases h with ⟨x, a, h1, h2, h3⟩ | ⟨h1, l, as, h2, h3, h4⟩
  · exact .inl ⟨x, a, h1, h2, h3.fr e⟩
  · exact .inr ⟨h1, l, as, h2, e _ _ calm_refs h3, h4.fr e⟩
theorem PartAt.fr {σ₀ σ' : St} (e : Fr σ σ') {row : Row} {v : V} (h : PartAt σ₀ σ row v) : PartAt σ₀ σ' row v := by
  rcases h with ⟨h1, h2⟩ | ⟨h1, d, ep, h2, h3, h4⟩
  · exact .inl ⟨h1, h2⟩
  · exact .inr ⟨h1, d, ep, h2, e _ _ trivial h3, h4⟩
theorem Parts.fr {σ₀ σ' : St} (e : Fr σ σ') {items : List V} {rows : List Row} (h : Parts σ₀ σ items rows) : Parts σ₀ σ' items rows := ⟨h.1, fun i row hr => let ⟨v, h1, h2⟩ := h.2 i row hr; ⟨v, h1, h2.fr e⟩⟩
theorem Parts.calm {σ₀ : St} {items : List V} {rows : List Row} (h : Parts σ₀ σ items rows) : Calm (.list items) := fun i hi => by
  obtain ⟨j, hj, e⟩ := List.mem_iff_getElem.mp hi
  obtain ⟨v, h1, h2⟩ := h.2 j _ (List.getElem?_eq_getElem (show j < rows.length from h.1 ▸ hj))
  rw [List.getElem?_eq_getElem hj, e] at h1
  cases h1
  rcases h2 with ⟨_, q⟩ | ⟨_, d, ep, q, _⟩ <;> cases q
theorem ParV.fr {σ₀ σ' : St} (e : Fr σ σ') {rows : List Row} {v : V} (h : ParV σ₀ σ rows v) : ParV σ₀ σ' rows v := by
  rcases h with ⟨row, h1, h2⟩ | ⟨h1, l, items, h2, h3, h4⟩
  · exact .inl ⟨row, h1, h2.fr e⟩
  · exact .inr ⟨h1, l, items, h2, e _ _ h4.calm h3, h4.fr e⟩
theorem Head.fr {σ₀ σ' : St} (e : Fr σ σ') {hd : Addr} {xs : List Str} {rows : List Row} {len : Int} {fp pp : Row} (h : Head σ₀ σ hd xs rows len fp pp) : Head σ₀ σ' hd xs rows len fp pp :=
  ⟨h.at_.imp fun _ a => e _ _ trivial a, h.f.imp id fun ⟨a, v, b, c⟩ => ⟨a, v, b, c.fr e⟩, h.p.imp id fun ⟨a, v, b, c⟩ => ⟨a, v, b, c.fr e⟩⟩
theorem any_nil {rows : List Row} (h : anyRow rows = false) : ∀ r ∈ rows, r = [] := fun r hr => by
  have := List.any_eq_false.mp h r hr
  cases r with
  | nil => rfl
  | cons a b => simp at this
inductive PartI (rows : List Row) (σ₀ σ : St) (v : V) (σ' : St) : Prop where
  | mk (r : Addr) (items : List V) (h0 : v = .ref r) (h1 : σ' r = some (.list items)) (h2 : Parts σ₀ σ' items rows) (h3 : Ext σ σ') : PartI rows σ₀ σ v σ'
theorem law10 (H : Pr G) {σ₀ : St} {L hd rl : Addr} {pv : V} {xs : List Str} {ds : List Addr} {rows : List Row} {len : Int} {fp pp : Row} {Q : Fl → Lv → St → Prop} (hf : FnEnv (e_law L)) (l1 : lv "head" = some (.ref hd)) (l2 : lv "rows" = some (.ref rl)) (l3 : lv "parts" = some pv) (hr : σ rl = some (.list (ds.map V.ref))) (hR : Rows σ ds rows) (hl : rows.length ≤ 100) (hH : Head σ₀ σ hd xs rows len fp pp)
    (hp : (anyRow rows = false ∧ ∃ e, pv = .ref e ∧ σ e = some (.list (List.replicate rows.length .none))) ∨ (anyRow rows = true ∧ ParV σ₀ σ rows pv))
    (h : ∀ (r : Addr) (items : List V) σ', Ext σ σ' → σ' r = some (.list items) → Parts σ₀ σ' items rows → Q .next (lv.set "parts" (.ref r)) σ') : Ex G (n + 4) (e_law L) lv σ (exec (ls 10) (e_law L)) Q := by
  have dsl := hR.1
  obtain ⟨⟨ep, h1⟩, h2, h3⟩ := hH
  have k2 : (vat (fp ++ pp ++ [(("Length" : Str), V.int len)]) ("DecodeParms" : Str)).isSome = anyRow rows := by
    rcases h3 with ⟨hx, rfl⟩ | ⟨hx, v, rfl, _⟩
    · rw [hx]
      rcases h2 with ⟨_, rfl⟩ | ⟨_, v, rfl, _⟩ <;> kernel_rfl
    · rw [hx]
      rcases h2 with ⟨_, rfl⟩ | ⟨_, w, rfl, _⟩ <;> kernel_rfl
  have flat : anyRow rows = false → ∀ e, σ e = some (.list (List.replicate rows.length .none)) → pv = .ref e → PartI rows σ₀ σ pv σ := fun ha e he hpv =>
    ⟨e, _, hpv, he, ⟨by simp, fun i row hi => ⟨V.none, (by
      have q : i < rows.length := by
        rcases Nat.lt_or_ge i rows.length with q | q
        · exact q
        · rw [List.getElem?_eq_none q] at hi; cases hi
      rw [List.getElem?_replicate, if_pos q]), .inl ⟨any_nil ha row (List.mem_of_getElem? hi), rfl⟩⟩⟩, Ext.refl _⟩
  refine ex_assign ?_
  refine Run.mono (Q := PartI rows σ₀ σ) ?_ ?_
  · walk_at "m"
    refine call_len_list (Gd.look_of hr) (sz (by rw [List.length_map]; omega)) ?_
    rw [List.length_map, dsl]
    walk_at "m"
    refine if_bool (fun w => ?_) fun w => ?_
    · have hl1 : rows.length = 1 := by have := eq_of_beq w; omega
      walk_at "m"
      refine cmp_in_sdict h1 ?_
      rw [k2]
      walk_at "m"
      refine if_bool (fun w => ?_) fun w => ?_
      · walk_at "m"
        refine ⟨sz (by simp), fun r hr => ?_⟩
        rcases hp with ⟨q, _⟩ | ⟨_, hp⟩
        · rw [q] at w; cases w
        · rcases hp with ⟨row, rfl, hp⟩ | ⟨q, _⟩
          · refine ⟨r, [pv], rfl, St.set_same _ _ _, ⟨rfl, fun i y hy => ?_⟩, (Ext.refl _).more hr⟩
            match i, hy with
            | 0, hy => cases hy; exact ⟨pv, rfl, hp.ext (Ext.new hr)⟩
            | i + 1, hy => simp at hy
          · exact absurd hl1 q
      · walk_at "m"
        rcases hp with ⟨q, e, hpv, he⟩ | ⟨q, _⟩
        · exact flat q e he hpv
        · rw [q] at w; cases w
    · have hne : rows.length ≠ 1 := by intro q; rw [q] at w; simp at w
      walk_at "m"
      rcases hp with ⟨q, e, hpv, he⟩ | ⟨q, hp⟩
      · exact flat q e he hpv
      · rcases hp with ⟨row, rfl, hp⟩ | ⟨_, l, items, hpv, g1, g2⟩
        · exact absurd rfl hne
        · exact ⟨l, items, hpv, g1, g2, Ext.refl _⟩
  · rintro v σ₁ ⟨r, items, rfl, g1, g2, e1⟩
    walk_at "m"
    exact h r items _ e1 g1 g2
theorem paired_of {α β : Type} {R : α → β → Prop} : ∀ {xs : List α} {ys : List β}, xs.length = ys.length → (∀ (j : Nat) (x : α) (y : β), xs[j]? = some x → ys[j]? = some y → R x y) → Paired R xs ys
  | [], [], _, _ => .nil
  | x :: xs, y :: ys, hl, h => .cons (h 0 x y rfl rfl) (paired_of (Nat.succ.inj hl) fun j a b ha hb => h (j + 1) a b ha hb)
theorem flat_row {row : Row} (h : RowOk row) : Flat1 row := by
  rcases h with rfl | ⟨a, b, rfl⟩
  · intro p hp; cases hp
  · intro p hp
    rcases List.mem_cons.mp hp with rfl | hp
    · exact ⟨by kernel_rfl, by simp [flatEq]⟩
    · rw [List.mem_singleton.mp hp]
      exact ⟨by kernel_rfl, by simp [flatEq]⟩
structure PartJ (rows : List Row) (ds : List Addr) (σ : St) (i : Nat) (ys : List V) (σ' : St) : Prop where
  h0 : ys.length = i
  h1 : (∀ (j : Nat) (row : Row) (d : Addr), rows[j]? = some row → ds[j]? = some d → j < i → ys[j]? = some (if row.isEmpty = true then .none else .ref d))
  h2 : Ext σ σ'
theorem law11 (H : Pr G) {σ₀ : St} {L pl rl : Addr} {ds : List Addr} {rows : List Row} {items : List V} {Q : Fl → Lv → St → Prop} (hf : FnEnv (e_law L)) (l1 : lv "parts" = some (.ref pl)) (l2 : lv "rows" = some (.ref rl)) (hr : σ rl = some (.list (ds.map V.ref))) (hR : Rows σ ds rows) (hl : rows.length ≤ 100) (hok : ∀ row ∈ rows, RowOk row) (hp : σ pl = some (.list items)) (hP : Parts σ₀ σ items rows)
    (h : ∀ σ', Ext σ σ' → Q .next lv σ') : Ex G (n + 4) (e_law L) lv σ (exec (ls 11) (e_law L)) Q := by
  have dsl := hR.1
  refine ex_if ?_
  walk_at "m"
  refine ev_comp (cl := []) ?_ (by kernel_rfl) (by kernel_rfl) (locals_of (by kernel_rfl))
  walk_at "m"
  refine compH_list (PartJ rows ds σ) hf (by kernel_rfl) (fun C => by kernel_rfl) (by kernel_rfl) (fun i ys σ' hj => hj.h2 _ _ hr) hr (by rw [List.length_map]; omega) ⟨rfl, fun j row d _ _ q => absurd q (Nat.not_lt_zero _), Ext.refl _⟩ ?_ ?_
  · rintro C i v ys σ₃ hfc hv ⟨j1, j2, e3⟩
    rw [List.getElem?_map] at hv
    obtain ⟨d', hd', rfl⟩ := Option.map_eq_some_iff.mp hv
    obtain ⟨row, hrow⟩ : ∃ row, rows[i]? = some row := ⟨_, List.getElem?_eq_getElem (by
      rcases Nat.lt_or_ge i ds.length with q | q
      · omega
      · rw [List.getElem?_eq_none q] at hd'; cases hd')⟩
    obtain ⟨d2, ep2, g1, g2⟩ := hR.2 i row hrow
    rw [hd'] at g1
    cases g1
    have step : ∀ (w : V), w = (if row.isEmpty = true then .none else .ref d') → ∀ (j : Nat) (row : Row) (d : Addr), rows[j]? = some row → ds[j]? = some d → j < i + 1 → (ys ++ [w])[j]? = some (if row.isEmpty = true then .none else .ref d) := by
      intro w hw j row2 d q1 q2 q3
      rcases (by omega : j < i ∨ j = i) with q | rfl
      · rw [List.getElem?_append_left (by omega)]; exact j2 j row2 d q1 q2 q
      · rw [at_snoc ys w (by omega), hw]
        rw [hrow] at q1
        rw [hd'] at q2
        cases q1; cases q2; rfl
    refine tests_nil (if_tt ?_)
    walk_at "m"
    intro y hy
    refine cmp_ne_sdict0 (St.set_new hy (e3 _ _ g2)) (St.set_same _ _ _) ?_
    walk_at "m"
    refine if_bool (fun w => ?_) fun w => ?_
    · walk_at "m"
      exact ⟨by simp [j1], step _ (by cases hw : row.isEmpty <;> rw [hw] at w <;> simp at w ⊢), e3.more hy⟩
    · walk_at "m"
      exact ⟨by simp [j1], step _ (by cases hw : row.isEmpty <;> rw [hw] at w <;> simp at w ⊢), e3.more hy⟩
  · rintro ys σ₃ ⟨j1, j2, e3⟩ D hD
    rw [List.length_map] at j1 j2
    walk_at "m"
    refine cmp_ne_same (Gd.look_of (St.set_new hD (e3 _ _ hp))) (Gd.look_of (St.set_same _ _ _)) ?_ (by omega) ?_
    · refine paired_of (by rw [hP.1, j1, dsl]) fun j x y hx hy => ?_
      obtain ⟨row, hrow⟩ : ∃ row, rows[j]? = some row := ⟨_, List.getElem?_eq_getElem (by
        rcases Nat.lt_or_ge j items.length with q | q
        · have := hP.1; omega
        · rw [List.getElem?_eq_none q] at hx; cases hx)⟩
      obtain ⟨v, g1, g2⟩ := hP.2 j row hrow
      rw [hx] at g1
      cases g1
      obtain ⟨d, ep, g3, g4⟩ := hR.2 j row hrow
      have g5 := j2 j row d hrow g3 (by
        rcases Nat.lt_or_ge j ds.length with q | q
        · exact q
        · rw [List.getElem?_eq_none q] at g3; cases g3)
      rw [hy] at g5
      cases g5
      rcases g2 with ⟨rfl, rfl⟩ | ⟨hne, d2, ep2, rfl, g6, _⟩
      · exact .flat rfl
      · have : row.isEmpty = false := by cases row with
          | nil => exact absurd rfl hne
          | cons a b => rfl
        rw [if_neg (by rw [this]; decide)]
        exact .dict (St.set_new hD (e3 _ _ g6)) (St.set_new hD (e3 _ _ g4)) (flat_row (hok row (List.mem_of_getElem? hrow)))
    · walk_at "m"
      exact h _ (e3.more hD)
end
set_option hygiene false
section
variable {G : Gd} {n : Nat} {σ : St} {env : Env} {lv : Lv} {Q : V → St → Prop}
/-- objects that no statement of the law changes, the rows' dicts left out -/
noncomputable def Hard : O → Prop
  | .list xs => ∀ i : Int, V.int i ∉ xs
  | .idict _ _ => False
  | .cell _ => False
  | .sdict [] _ => False
  | .sdict ((k, _) :: _) _ => k = "text" ∨ k = "number" ∨ k = "table"
  | _ => True
noncomputable def Fz (σ σ' : St) : Prop := ∀ b o, Hard o → σ b = some o → σ' b = some o
theorem Hard.calm {o : O} (h : Hard o) : Calm o := by
  cases o <;> first | exact h | exact trivial | skip
theorem Fr.fz {σ' : St} (x : Fr σ σ') : Fz σ σ' := fun b o hc e => x b o hc.calm e
theorem Fz.trans {a b c : St} (x : Fz a b) (y : Fz b c) : Fz a c := fun i o h e => y i o h (x i o h e)
theorem Fz.put {d : Addr} {o o' : O} (hd : σ d = some o) (hn : ¬ Hard o) : Fz σ (σ.set d o') := fun b o hc e => St.upd (fun q => by rw [q, hd] at e; cases e; exact hn hc) e
theorem IsRef.fz {σ' : St} (x : Fz σ σ') {a : Addr} {i j : Int} (h : IsRef σ a i j) : IsRef σ' a i j := let ⟨d, ep, h1, h2⟩ := h; ⟨d, ep, x _ _ trivial h1, x _ _ (.inr (.inl rfl)) h2⟩
theorem IsName.fz {σ' : St} (x : Fz σ σ') {a : Addr} {y : Str} (h : IsName σ a y) : IsName σ' a y := let ⟨d, ep, h1, h2⟩ := h; ⟨d, ep, x _ _ trivial h1, x _ _ (.inl rfl) h2⟩
theorem IsShelf.fz {σ' : St} (x : Fz σ σ') {a T : Addr} (h : IsShelf σ a T) : IsShelf σ' a T := let ⟨d, ep, tr, h1, h2⟩ := h; ⟨d, ep, tr, x _ _ trivial h1, x _ _ (.inr (.inr rfl)) h2⟩
theorem Chain.fz {σ' : St} (x : Fz σ σ') {es es' : List (Int × V)} (he : ∀ k y, vat es k = some y → vat es' k = some y) {j : Nat} {w v : V} (h : Chain σ es j w v) : Chain σ' es' j w v := by
  induction h with
  | zero => exact .zero
  | succ h hv ht _ ih => exact .succ (h.fz x) (he _ _ hv) (x _ _ trivial ht) ih
/-- the ring in the table -/
noncomputable def Ring (σ : St) (es : List (Int × V)) : Prop := ∃ t2 t3 t4 r3 r4 : Addr, vat es 2 = some (.ref t2) ∧ vat es 3 = some (.ref t3) ∧ vat es 4 = some (.ref t4) ∧ σ t2 = some (.tuple [.int 0, .int 4]) ∧ σ t3 = some (.tuple [.int 0, .ref r4]) ∧ σ t4 = some (.tuple [.int 0, .ref r3]) ∧ IsRef σ r4 4 0 ∧ IsRef σ r3 3 0
theorem Ring.fz {σ' : St} (x : Fz σ σ') {es es' : List (Int × V)} (he : ∀ k y, vat es k = some y → vat es' k = some y) (h : Ring σ es) : Ring σ' es' := by
  obtain ⟨t2, t3, t4, r3, r4, h1, h2, h3, h4, h5, h6, h7, h8⟩ := h
  exact ⟨t2, t3, t4, r3, r4, he _ _ h1, he _ _ h2, he _ _ h3, x _ _ trivial h4, x _ _ trivial h5, x _ _ trivial h6, h7.fz x, h8.fz x⟩
theorem law12 (H : Pr G) {L p l : Addr} {k : Nat} {Q : Fl → Lv → St → Prop} (hf : FnEnv (e_law L)) (B : Base σ L p l k none)
    (h : ∀ (T : Addr) (es : List (Int × V)) σ', Base σ' L p l k (some (.ref T)) → Tab σ' T es → es.length = 3 → Ring σ' es → Fr σ σ' → Q .next lv σ') : Ex G (n + 4) (e_law L) lv σ (exec (ls 12) (e_law L)) Q := by
  have kc := kc_table L
  refine ex_assign ?_
  refine ev_idict' (fun T hT => ?_) rfl rfl
  have x0 : Ext σ (σ.set T (.idict [] 0)) := (Ext.refl _).more hT
  have d0 : (σ.set T (.idict [] 0)) T = some (.idict [] 0) := St.set_same _ _ _
  generalize σ.set T (.idict [] 0) = σ₀ at x0 d0
  refine prs_cons ?_
  walk_at "m"
  refine ⟨sz (by simp), fun t2 ht2 => ?_⟩
  have x1 : Ext σ₀ (σ₀.set t2 (.tuple [.int 0, .int 4])) := (Ext.refl _).more ht2
  have g2 : (σ₀.set t2 (.tuple [.int 0, .int 4])) t2 = some (.tuple [.int 0, .int 4]) := St.set_same _ _ _
  generalize σ₀.set t2 (.tuple [.int 0, .int 4]) = σ₁ at x1 g2
  refine prs_cons ?_
  walk_at "m"
  refine c_Reference H fun r4 σ₂ e2 _ q4 => ?_
  walk_at "m"
  refine ⟨sz (by simp), fun t3 ht3 => ?_⟩
  have x3 : Ext σ₁ (σ₂.set t3 (.tuple [.int 0, .ref r4])) := e2.more ht3
  have g3 : (σ₂.set t3 (.tuple [.int 0, .ref r4])) t3 = some (.tuple [.int 0, .ref r4]) := St.set_same _ _ _
  have q4 := q4.ext ((Ext.refl _).more (o := .tuple [.int 0, .ref r4]) ht3)
  generalize σ₂.set t3 (.tuple [.int 0, .ref r4]) = σ₃ at x3 g3 q4
  refine prs_cons ?_
  walk_at "m"
  refine c_Reference H fun r3 σ₄ e4 _ q3 => ?_
  walk_at "m"
  refine ⟨sz (by simp), fun t4 ht4 => ?_⟩
  have x5 : Ext σ₃ (σ₄.set t4 (.tuple [.int 0, .ref r3])) := e4.more ht4
  have g4 : (σ₄.set t4 (.tuple [.int 0, .ref r3])) t4 = some (.tuple [.int 0, .ref r3]) := St.set_same _ _ _
  have q3 := q3.ext ((Ext.refl _).more (o := .tuple [.int 0, .ref r3]) ht4)
  generalize σ₄.set t4 (.tuple [.int 0, .ref r3]) = σ₅ at x5 g4 q3
  refine prs_nil ⟨[((2 : Int), .ref t2), ((3 : Int), .ref t3), ((4 : Int), .ref t4)], rfl, x5 _ _ (x3 _ _ (x1 _ _ d0)), fun ep => ?_⟩
  rw [show vmerge [] [((2 : Int), V.ref t2), ((3 : Int), .ref t3), ((4 : Int), .ref t4)] = [((2 : Int), V.ref t2), ((3 : Int), .ref t3), ((4 : Int), .ref t4)] by kernel_rfl]
  have dT := x5 _ _ (x3 _ _ (x1 _ _ d0))
  have X : Ext σ σ₅ := ((x0.trans x1).trans x3).trans x5
  have B5 := B.ext X
  have hT0 : σ T = none := hT
  have fT : Fr σ₅ (σ₅.set T (.idict [((2 : Int), .ref t2), ((3 : Int), .ref t3), ((4 : Int), .ref t4)] ep)) := fun b o hc e => St.upd (fun q => by rw [q, dT] at e; cases e; exact hc) e
  have n2 : T ≠ L + 1 := Ne.symm (ne_of_some_none B.c1 hT0)
  have n3 : T ≠ L + 2 := Ne.symm (ne_of_some_none B.c2 hT0)
  have n4 : T ≠ L + 3 := Ne.symm (ne_of_some_none B.c3 hT0)
  obtain ⟨⟨_, u1⟩, ⟨_, u2⟩⟩ := B.pen.at
  have B6 : Base (σ₅.set T (.idict [((2 : Int), .ref t2), ((3 : Int), .ref t3), ((4 : Int), .ref t4)] ep)) L p l k none := ⟨B5.pen.upd (ne_of_some_none u1 hT0) (ne_of_some_none u2 hT0), St.upd (Ne.symm n2) B5.c1, St.upd (Ne.symm n3) B5.c2, St.upd (Ne.symm n4) B5.c3⟩
  have c2 := B6.c2
  have fA := X.fr.trans fT
  have rg : Ring (σ₅.set T (.idict [((2 : Int), .ref t2), ((3 : Int), .ref t3), ((4 : Int), .ref t4)] ep)) [((2 : Int), .ref t2), ((3 : Int), .ref t3), ((4 : Int), .ref t4)] :=
    ⟨t2, t3, t4, r3, r4, by kernel_rfl, by kernel_rfl, by kernel_rfl, fT _ _ trivial (x5 _ _ (x3 _ _ g2)), fT _ _ trivial (x5 _ _ g3), fT _ _ trivial g4, (q4.ext x5).fr fT, q3.fr fT⟩
  have tT : (σ₅.set T (.idict [((2 : Int), .ref t2), ((3 : Int), .ref t3), ((4 : Int), .ref t4)] ep)) T = some (.idict [((2 : Int), .ref t2), ((3 : Int), .ref t3), ((4 : Int), .ref t4)] ep) := St.set_same _ _ _
  generalize σ₅.set T (.idict [((2 : Int), .ref t2), ((3 : Int), .ref t3), ((4 : Int), .ref t4)] ep) = σ₆ at B6 c2 fA rg tT
  walk_at "m"
  have f7 : Fr σ₆ (σ₆.set (L + 2) (.cell (some (.ref T)))) := Fr.cell c2
  have nP1 : p ≠ L + 2 := by obtain ⟨⟨_, w⟩, _⟩ := B6.pen.at; exact ne_of_diff w c2 (by intro q; cases q)
  have nP2 : l ≠ L + 2 := by obtain ⟨_, ⟨_, w⟩⟩ := B6.pen.at; exact ne_of_diff w c2 (by intro q; cases q)
  have n12 : L + 1 ≠ L + 2 := fun e => absurd (Nat.add_left_cancel e) (by decide)
  have n32 : L + 3 ≠ L + 2 := fun e => absurd (Nat.add_left_cancel e) (by decide)
  refine h T _ _ ⟨B6.pen.upd nP1 nP2, St.upd n12 B6.c1, St.set_same _ _ _, St.upd n32 B6.c3⟩ ⟨⟨ep, St.upd n3 tT⟩, ?_⟩ rfl (rg.fz f7.fz fun _ _ q => q) (fA.trans f7)
  intro q hq
  simp at hq
  rcases hq with rfl | rfl | rfl <;> simp
noncomputable def Grow (es es' : List (Int × V)) : Prop := ∀ k y, vat es k = some y → vat es' k = some y
theorem Base.bent {σ' : St} {L p l T : Addr} {k k' : Nat} {es : List (Int × V)} (h : Base σ L p l k (some (.ref T))) (hT : Tab σ T es) (P : Pen σ' p l k') (x : Mut [p, T] σ σ') : Base σ' L p l k' (some (.ref T)) := by
  obtain ⟨⟨_, u1⟩, _⟩ := h.pen.at
  obtain ⟨⟨_, u2⟩, _⟩ := hT
  have d : ∀ (c : Addr) (v : Option V), σ c = some (.cell v) → c ∉ [p, T] := fun c v hc q => by
    simp at q
    rcases q with rfl | rfl
    · rw [u1] at hc; cases hc
    · rw [u2] at hc; cases hc
  exact ⟨P, x _ _ (d _ _ h.c1) h.c1, x _ _ (d _ _ h.c2) h.c2, x _ _ (d _ _ h.c3) h.c3⟩
/-- a name behind at most three references -/
noncomputable def BName (σ : St) (es : List (Int × V)) (w : V) (x : Str) : Prop := ∃ (j : Nat) (a : Addr), j ≤ 3 ∧ Chain σ es j w (.ref a) ∧ IsName σ a x
theorem BName.fz {σ' : St} (x : Fz σ σ') {es es' : List (Int × V)} (he : Grow es es') {w : V} {y : Str} (h : BName σ es w y) : BName σ' es' w y :=
  let ⟨j, a, h1, h2, h3⟩ := h; ⟨j, a, h1, h2.fz x he, h3.fz x⟩
noncomputable def BNames (σ : St) (es : List (Int × V)) (items : List V) (xs : List Str) : Prop := items.length = xs.length ∧ ∀ (i : Nat) (x : Str), xs[i]? = some x → ∃ w, items[i]? = some w ∧ BName σ es w x
theorem BNames.fz {σ' : St} (x : Fz σ σ') {es es' : List (Int × V)} (he : Grow es es') {items : List V} {xs : List Str} (h : BNames σ es items xs) : BNames σ' es' items xs :=
  ⟨h.1, fun i y hy => let ⟨w, h1, h2⟩ := h.2 i y hy; ⟨w, h1, h2.fz x he⟩⟩
theorem BNames.snoc {es : List (Int × V)} {items : List V} {xs : List Str} {w : V} {x : Str} (h : BNames σ es items xs) (hw : BName σ es w x) : BNames σ es (items ++ [w]) (xs ++ [x]) := by
  refine ⟨by simp [h.1], fun i y hy => ?_⟩
  rcases snoc_at hy with ⟨q, hy⟩ | ⟨q, rfl⟩
  · obtain ⟨b, h1, h2⟩ := h.2 i y hy
    exact ⟨b, by rw [List.getElem?_append_left (by rw [h.1]; exact q)]; exact h1, h2⟩
  · exact ⟨w, at_snoc items w (by rw [h.1]; exact q), hw⟩
theorem calm_bnames {es : List (Int × V)} {items : List V} {xs : List Str} (h : BNames σ es items xs) : Calm (.list items) := fun i hi => by
  obtain ⟨j, hj, e⟩ := List.mem_iff_getElem.mp hi
  obtain ⟨v, h1, j2, a, _, h3, _⟩ := h.2 j _ (List.getElem?_eq_getElem (show j < xs.length from h.1 ▸ hj))
  rw [List.getElem?_eq_getElem hj, e] at h1
  cases h1
  cases h3
inductive L13J (xs : List Str) (L : Addr) (p : Addr) (l : Addr) (T : Addr) (k : Nat) (es : List (Int × V)) (σ₀ : St) (i : Nat) (ys : List V) (σ' : St) : Prop where
  | mk (es' : List (Int × V)) (h0 : BNames σ' es' ys (xs.take i)) (h1 : Base σ' L p l (k + 100 - i) (some (.ref T))) (h2 : Tab σ' T es') (h3 : Grow es es') (h4 : es'.length ≤ 3 + 3 * i) (h5 : Fr σ₀ σ') : L13J xs L p l T k es σ₀ i ys σ'
theorem law13 (H : Pr G) {L p l T nl : Addr} {k : Nat} {xs : List Str} {es : List (Int × V)} {Q : Fl → Lv → St → Prop} (hf : FnEnv (e_law L)) (B : Base σ L p l (k + 100) (some (.ref T))) (hT : Tab σ T es) (hes : es.length ≤ 3) (l1 : lv "names" = some (.ref nl)) (hn : σ nl = some (.list (xs.map V.str))) (hx : xs.length ≤ 4)
    (h : ∀ (bd : Addr) (ep : Nat) (fv : V) (fl : Addr) (items : List V) (j : Nat) (es' : List (Int × V)) σ', Base σ' L p l k (some (.ref T)) → Tab σ' T es' → Grow es es' → es'.length ≤ 18 → Fr σ σ' → σ' bd = some (.sdict [(("Filter" : Str), fv)] ep) → σ bd = none → j ≤ 3 → Chain σ' es' j fv (.ref fl) → σ' fl = some (.list items) → BNames σ' es' items xs → Q .next (lv.set "bent" (.ref bd)) σ') : Ex G (n + 4) (e_law L) lv σ (exec (ls 13) (e_law L)) Q := by
  have kc := kc_pen L
  have kt := kc_table L
  refine ex_assign ?_
  refine ev_sdict' (fun bd hbd => ?_) rfl rfl
  have x0 : Ext σ (σ.set bd (.sdict [] 0)) := (Ext.refl _).more hbd
  have d0 : (σ.set bd (.sdict [] 0)) bd = some (.sdict [] 0) := St.set_same _ _ _
  have T0 : Tab (σ.set bd (.sdict [] 0)) T es := ⟨hT.1.imp fun _ q => x0 _ _ q, hT.2⟩
  have B0 := B.ext x0
  generalize σ.set bd (.sdict [] 0) = σ₀ at x0 d0 B0 T0
  have c1 := B0.c1
  have c2 := B0.c2
  have hn0 := x0 _ _ hn
  refine prs_cons ?_
  walk_at "m"
  refine ev_comp (cl := [(("table" : Str), L + 2), (("pen" : Str), L + 1)]) ?_ (by kernel_rfl) (by kernel_rfl) (locals_of (by kernel_rfl))
  walk_at "m"
  refine compH_list (L13J xs L p l T k es σ₀) hf (by kernel_rfl) (fun C => by kernel_rfl) (by kernel_rfl)
    (fun i ys σ' hj => by obtain ⟨_, _, _, _, _, _, F⟩ := hj; exact F _ _ calm_strs hn0) hn0 (by rw [List.length_map]; lia) ⟨es, ⟨rfl, fun i x hi => by simp at hi⟩, B0, T0, fun _ _ q => q, by lia, Fr.refl _⟩ ?_ ?_
  · rintro C i v ys σ₃ hfc hv ⟨es₃, hN, B3, T3, g3, l3, F3⟩
    rw [List.getElem?_map] at hv
    obtain ⟨x, hx', rfl⟩ := Option.map_eq_some_iff.mp hv
    have hi : i < 4 := by
      rcases Nat.lt_or_ge i xs.length with q | q
      · lia
      · rw [List.getElem?_eq_none q] at hx'; cases hx'
    have q1 : (cEnv ⟨.function, [(Str.ofString ".0", .local), (Str.ofString "name", .local), (Str.ofString "_law_bent", .globalImplicit), (Str.ofString "Name", .globalImplicit), (Str.ofString "pen", .free), (Str.ofString "table", .free)], false, false, []⟩ [(("table" : Str), L + 2), (("pen" : Str), L + 1)] C (e_law L)).cells.lookup ("pen" : Str) = some (L + 1) := by kernel_rfl
    have q2 : (cEnv ⟨.function, [(Str.ofString ".0", .local), (Str.ofString "name", .local), (Str.ofString "_law_bent", .globalImplicit), (Str.ofString "Name", .globalImplicit), (Str.ofString "pen", .free), (Str.ofString "table", .free)], false, false, []⟩ [(("table" : Str), L + 2), (("pen" : Str), L + 1)] C (e_law L)).cells.lookup ("table" : Str) = some (L + 2) := by kernel_rfl
    have c13 := B3.c1
    have c23 := B3.c2
    refine tests_nil (if_tt ?_)
    walk_at "m"
    refine c_Name H fun a σ₄ e4 _ hN4 => ?_
    have B4 := B3.ext e4
    have T4 : Tab σ₄ T es₃ := ⟨T3.1.imp fun _ q => e4 _ _ q, T3.2⟩
    have c24 := B4.c2
    walk_at "m"
    refine c_bent (k := k + 100 - (i + 1)) H (B4.pen.le (by lia)) T4 (by lia) fun v' es₅ σ₅ j hj1 hj3 hc T5 g5 l5 P5 M5 => ?_
    have F5 := M5.fr2 B4.pen T4
    have B5 := B4.bent T4 P5 M5
    refine ⟨es₅, ?_, B5, T5, fun k y q => g5 _ _ (g3 _ _ q), by lia, (F3.trans e4.fr).trans F5⟩
    rw [take_snoc hx']
    exact (hN.fz (e4.fr.trans F5).fz g5).snoc ⟨j, a, hj3, hc, hN4.fr F5⟩
  · rintro ys σ₃ ⟨es₃, hN, B3, T3, g3, l3, F3⟩ D hD
    rw [List.length_map, List.take_length] at hN
    rw [List.length_map] at B3 l3
    have e4 : Ext σ₃ (σ₃.set D (.list ys)) := (Ext.refl _).more hD
    have hN4 := hN.fz e4.fr.fz (fun _ _ q => q)
    have B4 := B3.ext e4
    have T4 : Tab (σ₃.set D (.list ys)) T es₃ := ⟨T3.1.imp fun _ q => e4 _ _ q, T3.2⟩
    have dD : (σ₃.set D (.list ys)) D = some (.list ys) := St.set_same _ _ _
    generalize σ₃.set D (.list ys) = σ₄ at e4 hN4 B4 T4 dD
    have c24 := B4.c2
    walk_at "m"
    refine c_bent (k := k) H (B4.pen.le (by lia)) T4 (by lia) fun v' es₅ σ₅ j hj1 hj3 hc T5 g5 l5 P5 M5 => ?_
    have F5 := M5.fr2 B4.pen T4
    have B5 := B4.bent T4 P5 M5
    have FA : Fr σ₀ σ₅ := (F3.trans e4.fr).trans F5
    have dd : σ₅ bd = some (.sdict [] 0) := FA _ (.sdict [] 0) trivial d0
    refine prs_nil ⟨[(("Filter" : Str), v')], rfl, dd, fun ep => ?_⟩
    rw [show vmerge [] [(("Filter" : Str), v')] = [(("Filter" : Str), v')] by kernel_rfl]
    walk_at "m"
    have fp : Fz σ₅ (σ₅.set bd (.sdict [(("Filter" : Str), v')] ep)) := Fz.put dd id
    have nT : T ≠ bd := by
      obtain ⟨⟨e0, q⟩, _⟩ := T5
      exact ne_of_diff q dd (by intro q; cases q)
    have nD : D ≠ bd := ne_of_diff (F5 _ _ (calm_bnames hN4) dD) dd (by intro q; cases q)
    cases hv : j with
    | zero => lia
    | succ j' =>
    subst hv
    exact h bd ep v' D ys (j' + 1) es₅ _ (B5.put dd (fun _ e => by cases e) (fun _ e => by cases e)) ⟨T5.1.imp fun _ q => St.upd nT q, T5.2⟩ (fun k y q => g5 _ _ (g3 _ _ q)) (by lia)
      (fun b o hc e => St.upd (fun q => by rw [q, hbd] at e; cases e) (FA b o hc (x0 b o e))) (St.set_same _ _ _) hbd hj3 (hc.fz fp fun _ _ q => q) (St.upd nD (F5 _ _ (calm_bnames hN4) dD)) (hN4.fz (F5.fz.trans fp) g5)
end
set_option hygiene false
section
variable {G : Gd} {n : Nat} {σ : St} {env : Env} {lv : Lv} {Q : V → St → Prop}
theorem Fr.sd {σ' : St} (x : Fr σ σ') {a : Addr} {es : Row} {ep : Nat} (h : σ a = some (.sdict es ep)) : σ' a = some (.sdict es ep) := x a _ (by exact trivial) h
theorem cells_same {env : Env} (_ : FnEnv env) {x : Str} {a : Addr} (h : env.cells.lookup x = some a) : env.cells.lookup x = some a := h
theorem Base.cell {L p l c : Addr} {k : Nat} {tb w v : Option V} (h : Base σ L p l k tb) (hL : L + 3 < c) (hc : σ c = some (.cell w)) : Base (σ.set c (.cell v)) L p l k tb := by
  obtain ⟨⟨_, h1⟩, ⟨_, h2⟩⟩ := h.pen.at
  have a1 : L + 1 ≠ c := Nat.ne_of_lt (Nat.lt_trans (Nat.add_lt_add_left (by decide) L) hL)
  have a2 : L + 2 ≠ c := Nat.ne_of_lt (Nat.lt_trans (Nat.add_lt_add_left (by decide) L) hL)
  have a3 : L + 3 ≠ c := Nat.ne_of_lt hL
  exact ⟨h.pen.upd (ne_of_diff h1 hc (by intro q; cases q)) (ne_of_diff h2 hc (by intro q; cases q)), St.upd a1 h.c1, St.upd a2 h.c2, St.upd a3 h.c3⟩
noncomputable def LostV (σ : St) (w : V) : Prop := ∃ a num gen, w = .ref a ∧ LostAt num gen ∧ IsRef σ a num gen
noncomputable def FsOf (σ : St) (es : List (Int × V)) (fs row : Row) : Prop := fs.length = row.length ∧ ∀ (i : Nat) (k : Str) (x : V), row[i]? = some (k, x) → ∃ w j, j ≤ 3 ∧ fs[i]? = some (k, w) ∧ Chain σ es j w x
noncomputable def BRow (σ : St) (es : List (Int × V)) (w : V) (row : Row) : Prop := (row = [] ∧ LostV σ w) ∨ (row ≠ [] ∧ ∃ d fs ep j, j ≤ 3 ∧ Chain σ es j w (.ref d) ∧ σ d = some (.sdict fs ep) ∧ FsOf σ es fs row)
theorem LostV.fz {σ' : St} (x : Fz σ σ') {w : V} (h : LostV σ w) : LostV σ' w := let ⟨a, i, j, h1, h2, h3⟩ := h; ⟨a, i, j, h1, h2, h3.fz x⟩
theorem FsOf.fz {σ' : St} (x : Fz σ σ') {es es' : List (Int × V)} (he : Grow es es') {fs row : Row} (h : FsOf σ es fs row) : FsOf σ' es' fs row :=
  ⟨h.1, fun i k y hr => let ⟨w, j, h1, h2, h3⟩ := h.2 i k y hr; ⟨w, j, h1, h2, h3.fz x he⟩⟩
theorem BRow.fr {σ' : St} (x : Fr σ σ') {es es' : List (Int × V)} (he : Grow es es') {w : V} {row : Row} (h : BRow σ es w row) : BRow σ' es' w row := by
  rcases h with ⟨h1, h2⟩ | ⟨h1, d, fs, ep, j, h2, h3, h4, h5⟩
  · exact .inl ⟨h1, h2.fz x.fz⟩
  · exact .inr ⟨h1, d, fs, ep, j, h2, h3.fz x.fz he, x _ _ trivial h4, h5.fz x.fz he⟩
theorem BRow.put {bd : Addr} {v : V} {ep : Nat} {o : O} (hd : σ bd = some (.sdict [(("Filter" : Str), v)] ep)) {es : List (Int × V)} {w : V} {row : Row} (hok : RowOk row) (h : BRow σ es w row) : BRow (σ.set bd o) es w row := by
  have fp : Fz σ (σ.set bd o) := Fz.put hd (by rintro (q | q | q) <;> revert q <;> decide +kernel)
  rcases h with ⟨h1, h2⟩ | ⟨h1, d, fs, ep, j, h2, h3, h4, h5⟩
  · exact .inl ⟨h1, h2.fz fp⟩
  · refine .inr ⟨h1, d, fs, ep, j, h2, h3.fz fp (fun _ _ q => q), St.upd (ne_of_diff h4 hd ?_) h4, h5.fz fp (fun _ _ q => q)⟩
    intro q
    have hl := h5.1
    rcases hok with rfl | ⟨a, b, rfl⟩
    · exact h1 rfl
    · cases q; simp at hl
noncomputable def BRows (σ : St) (es : List (Int × V)) (items : List V) (rows : List Row) : Prop := items.length = rows.length ∧ ∀ (i : Nat) (row : Row), rows[i]? = some row → ∃ w, items[i]? = some w ∧ BRow σ es w row
theorem BRows.fr {σ' : St} (x : Fr σ σ') {es es' : List (Int × V)} (he : Grow es es') {items : List V} {rows : List Row} (h : BRows σ es items rows) : BRows σ' es' items rows :=
  ⟨h.1, fun i y hy => let ⟨w, h1, h2⟩ := h.2 i y hy; ⟨w, h1, h2.fr x he⟩⟩
theorem BRows.put {bd : Addr} {v : V} {ep : Nat} {o : O} (hd : σ bd = some (.sdict [(("Filter" : Str), v)] ep)) {es : List (Int × V)} {items : List V} {rows : List Row} (hok : ∀ row ∈ rows, RowOk row) (h : BRows σ es items rows) : BRows (σ.set bd o) es items rows :=
  ⟨h.1, fun i y hy => let ⟨w, h1, h2⟩ := h.2 i y hy; ⟨w, h1, h2.put hd (hok y (List.mem_of_getElem? hy))⟩⟩
theorem BRows.snoc {es : List (Int × V)} {items : List V} {rows : List Row} {w : V} {row : Row} (h : BRows σ es items rows) (hw : BRow σ es w row) : BRows σ es (items ++ [w]) (rows ++ [row]) := by
  refine ⟨by simp [h.1], fun i y hy => ?_⟩
  rcases snoc_at hy with ⟨q, hy⟩ | ⟨q, rfl⟩
  · obtain ⟨b, h1, h2⟩ := h.2 i y hy
    exact ⟨b, by rw [List.getElem?_append_left (by rw [h.1]; exact q)]; exact h1, h2⟩
  · exact ⟨w, at_snoc items w (by rw [h.1]; exact q), hw⟩
theorem calm_brows {es : List (Int × V)} {items : List V} {rows : List Row} (h : BRows σ es items rows) : Calm (.list items) := fun i hi => by
  obtain ⟨j, hj, e⟩ := List.mem_iff_getElem.mp hi
  obtain ⟨v, h1, h2⟩ := h.2 j _ (List.getElem?_eq_getElem (show j < rows.length from h.1 ▸ hj))
  rw [List.getElem?_eq_getElem hj, e] at h1
  cases h1
  rcases h2 with ⟨_, a, _, _, q, _⟩ | ⟨_, d, fs, ep, j, _, q, _⟩ <;> cases q
theorem Tab.ext {σ' : St} (e : Ext σ σ') {T : Addr} {es : List (Int × V)} (h : Tab σ T es) : Tab σ' T es := ⟨h.1.imp fun _ q => e _ _ q, h.2⟩
theorem Tab.draw {σ' : St} {p l : Addr} {k : Nat} (P : Pen σ p l k) (e : Mut [p] σ σ') {T : Addr} {es : List (Int × V)} (h : Tab σ T es) : Tab σ' T es := ⟨h.1.imp fun _ q => e _ _ (fun w => by
  obtain ⟨⟨_, u⟩, _⟩ := P.at
  rw [List.mem_singleton.mp w, u] at q
  cases q) q, h.2⟩
theorem Tab.put {T d : Addr} {es : List (Int × V)} {o o' : O} (h : Tab σ T es) (hd : σ d = some o) (hn : ∀ es ep, o ≠ .idict es ep) : Tab (σ.set d o') T es :=
  ⟨h.1.imp fun _ q => St.upd (ne_of_diff q hd (Ne.symm (hn _ _))) q, h.2⟩
/-- pairs that dict() takes -/
noncomputable def Pairs (σ : St) (es : List (Int × V)) (ts : List Addr) (row : Row) : Prop := ts.length = row.length ∧ ∀ (i : Nat) (k : Str) (x : V), row[i]? = some (k, x) → ∃ t w j, j ≤ 3 ∧ ts[i]? = some t ∧ σ t = some (.tuple [.str k, w]) ∧ Chain σ es j w x
theorem Pairs.fz {σ' : St} (x : Fz σ σ') {es es' : List (Int × V)} (he : Grow es es') {ts : List Addr} {row : Row} (h : Pairs σ es ts row) : Pairs σ' es' ts row :=
  ⟨h.1, fun i k y hr => let ⟨t, w, j, h1, h2, h3, h4⟩ := h.2 i k y hr; ⟨t, w, j, h1, h2, x _ _ trivial h3, h4.fz x he⟩⟩
theorem Pairs.snoc {es : List (Int × V)} {ts : List Addr} {row : Row} {t : Addr} {k : Str} {x w : V} {j : Nat} (h : Pairs σ es ts row) (hj : j ≤ 3) (ht : σ t = some (.tuple [.str k, w])) (hc : Chain σ es j w x) : Pairs σ es (ts ++ [t]) (row ++ [(k, x)]) := by
  refine ⟨by simp [h.1], fun i k' y hy => ?_⟩
  rcases snoc_at hy with ⟨q, hy⟩ | ⟨q, hy⟩
  · obtain ⟨t', w, j, h1, h2, h3⟩ := h.2 i k' y hy
    exact ⟨t', w, j, h1, by rw [List.getElem?_append_left (by rw [h.1]; exact q)]; exact h2, h3⟩
  · cases hy
    exact ⟨t, w, j, hj, at_snoc ts t (by rw [h.1]; exact q), ht, hc⟩
theorem row_keys {row : Row} (h : RowOk row) : (∀ k w, (k, w) ∈ row → vat row k = some w) ∧ row.length ≤ 2 ∧ vmerge [] row = row := by
  rcases h with rfl | ⟨a, b, rfl⟩
  · exact ⟨fun k w q => (by cases q), by simp, rfl⟩
  · refine ⟨fun k w q => ?_, by simp, by kernel_rfl⟩
    simp at q
    rcases q with ⟨rfl, rfl⟩ | ⟨rfl, rfl⟩ <;> kernel_rfl
theorem Pairs.fs {es : List (Int × V)} {ts : List Addr} {row : Row} (hok : RowOk row) (h : Pairs σ es ts row) : ∃ fs : Row, ts.length = fs.length ∧ vmerge [] fs = fs ∧ (∀ (j : Nat) (t : Addr) (p : Str × V), ts[j]? = some t → fs[j]? = some p → σ t = some (.tuple [.str p.1, p.2])) ∧ FsOf σ es fs row := by
  rcases hok with rfl | ⟨a, b, rfl⟩
  · refine ⟨[], h.1, rfl, fun j t p _ q => (by simp at q), rfl, fun i k x q => (by simp at q)⟩
  · obtain ⟨t0, w0, j0, a1, a2, a3, a4⟩ := h.2 0 _ _ rfl
    obtain ⟨t1, w1, j1, b1, b2, b3, b4⟩ := h.2 1 _ _ rfl
    refine ⟨[(("Predictor" : Str), w0), (("K" : Str), w1)], h.1, by kernel_rfl, fun j t p q1 q2 => ?_, rfl, fun i k x q => ?_⟩
    · match j, q1, q2 with
      | 0, q1, q2 => cases q2; rw [a2] at q1; cases q1; exact a3
      | 1, q1, q2 => cases q2; rw [b2] at q1; cases q1; exact b3
      | j + 2, _, q2 => simp at q2
    · match i, q with
      | 0, q => cases q; exact ⟨w0, j0, a1, rfl, a4⟩
      | 1, q => cases q; exact ⟨w1, j1, b1, rfl, b4⟩
      | i + 2, q => simp at q
theorem cell_bent {σ' : St} {p l T c : Addr} {k : Nat} {es : List (Int × V)} {w : Option V} (x : Mut [p, T] σ σ') (h : Pen σ p l k) (hT : Tab σ T es) (hc : σ c = some (.cell w)) : σ' c = some (.cell w) := x _ _ (fun q => by
  rcases List.mem_cons.mp q with rfl | q
  · obtain ⟨⟨_, u⟩, _⟩ := h.at; rw [u] at hc; cases hc
  · rw [List.mem_singleton.mp q] at hc
    obtain ⟨⟨ep, g⟩, _⟩ := hT
    rw [g] at hc
    cases hc) hc
theorem cell_draw {σ' : St} {p l c : Addr} {k : Nat} {w : Option V} (x : Mut [p] σ σ') (h : Pen σ p l k) (hc : σ c = some (.cell w)) : σ' c = some (.cell w) := x _ _ (fun q => by
  obtain ⟨⟨_, u⟩, _⟩ := h.at
  rw [List.mem_singleton.mp q, u] at hc; cases hc) hc
inductive L14J (rows : List Row) (L : Addr) (p : Addr) (l : Addr) (T : Addr) (k : Nat) (es : List (Int × V)) (σ : St) (C : Addr) (i : Nat) (ys : List V) (σ' : St) : Prop where
  | mk (es' : List (Int × V)) (h0 : BRows σ' es' ys (rows.take i)) (h1 : Base σ' L p l (k + 100 - 5 * i) (some (.ref T))) (h2 : Tab σ' T es') (h3 : Grow es es') (h4 : es'.length ≤ 18 + 9 * i) (h5 : Fr σ σ') (h6 : L + 3 < C) (w : Option V) (h7 : σ' (C + 1) = some (.cell w)) : L14J rows L p l T k es σ C i ys σ'
theorem law14 (H : Pr G) {L p l T rl bd : Addr} {k bep : Nat} {fv : V} {ds : List Addr} {rows : List Row} {es : List (Int × V)} {Q : Fl → Lv → St → Prop} (hf : FnEnv (e_law L)) (B : Base σ L p l (k + 100) (some (.ref T))) (hT : Tab σ T es) (hes : es.length ≤ 18) (l1 : lv "rows" = some (.ref rl)) (l2 : lv "bent" = some (.ref bd)) (hr : σ rl = some (.list (ds.map V.ref))) (hR : Rows σ ds rows) (hl : rows.length ≤ 4) (hok : ∀ row ∈ rows, RowOk row) (hb : σ bd = some (.sdict [(("Filter" : Str), fv)] bep))
    (h : ∀ (pv : V) (ep : Nat) (pl : Addr) (items : List V) (j : Nat) (es' : List (Int × V)) σ', Base σ' L p l k (some (.ref T)) → Tab σ' T es' → Grow es es' → es'.length ≤ 80 → (∀ b o, b ≠ bd → Calm o → σ b = some o → σ' b = some o) → Fz σ σ' → σ' bd = some (.sdict [(("Filter" : Str), fv), (("DecodeParms" : Str), pv)] ep) → j ≤ 3 → Chain σ' es' j pv (.ref pl) → σ' pl = some (.list items) → BRows σ' es' items rows → Q .next lv σ') : Ex G (n + 4) (e_law L) lv σ (exec (ls 14) (e_law L)) Q := by
  have kc := kc_pen L
  have kt := kc_table L
  have dsl := hR.1
  have c1 := B.c1
  have c2 := B.c2
  refine ex_assign ?_
  walk_at "m"
  refine ev_comp (cl := [(("table" : Str), L + 2), (("pen" : Str), L + 1)]) ?_ (by kernel_rfl) (by kernel_rfl) (locals_of (by kernel_rfl))
  walk_at "m"
  refine compH_list_cell (L14J rows L p l T k es σ) hf (by kernel_rfl) (fun C => by kernel_rfl) (by kernel_rfl) (fun C => by kernel_rfl)
    (fun C i ys σ' hj => by obtain ⟨_, _, _, _, _, _, F, _⟩ := hj; exact F _ _ calm_refs hr) (fun C i ys σ' hj => by obtain ⟨_, _, _, _, _, _, _, _, w, hw⟩ := hj; exact ⟨w, hw⟩) hr (by rw [List.length_map]; lia) (fun C hC => ?_) ?_ ?_
  · have hc : σ (C + 1) = none := by
      cases e : σ (C + 1) with
      | none => rfl
      | some o => exact absurd (hC _ _ e) (Nat.not_lt.mpr (Nat.le_succ C))
    have e1 : Ext σ (σ.set (C + 1) (.cell none)) := (Ext.refl _).more hc
    exact ⟨es, ⟨rfl, fun i x hi => by simp at hi⟩, B.ext e1, hT.ext e1, fun _ _ q => q, by lia, e1.fr, hC _ _ B.c3, none, St.set_same _ _ _⟩
  · rintro C i v ys σ₃ hfc hv ⟨es₃, hN, B3, T3, g3, l3, F3, hLC, w3, hw3⟩
    rw [List.getElem?_map] at hv
    obtain ⟨d', hd', rfl⟩ := Option.map_eq_some_iff.mp hv
    have hi : i < rows.length := by
      rcases Nat.lt_or_ge i ds.length with q | q
      · lia
      · rw [List.getElem?_eq_none q] at hd'; cases hd'
    obtain ⟨row, hrow⟩ : ∃ row, rows[i]? = some row := ⟨_, List.getElem?_eq_getElem hi⟩
    obtain ⟨d2, ep2, g1, g2⟩ := hR.2 i row hrow
    rw [hd'] at g1
    cases g1
    have rok := hok row (List.mem_of_getElem? hrow)
    have g2 := F3.sd g2
    have fC : Fr σ₃ (σ₃.set (C + 1) (.cell (some (.ref d')))) := Fr.cell hw3
    have hLC1 : L + 3 < C + 1 := Nat.lt_succ_of_lt hLC
    have B4 := B3.cell (v := some (.ref d')) hLC1 hw3
    have T4 := T3.put (o' := .cell (some (.ref d'))) hw3 (fun _ _ q => by cases q)
    have N4 := hN.fr fC (fun _ _ q => q)
    have F4 := F3.trans fC
    have g4 := fC.sd g2
    have w4 : (σ₃.set (C + 1) (.cell (some (.ref d')))) (C + 1) = some (.cell (some (.ref d'))) := St.set_same _ _ _
    generalize σ₃.set (C + 1) (.cell (some (.ref d'))) = σ₄ at B4 T4 N4 F4 g4 w4
    have q1 := cells_same hfc (x := "pen") (a := L + 1) (by kernel_rfl)
    have q2 := cells_same hfc (x := "table") (a := L + 2) (by kernel_rfl)
    have q3 := cells_same hfc (x := "row") (a := C + 1) (by kernel_rfl)
    have c14 := B4.c1
    have c24 := B4.c2
    refine tests_nil (if_tt ?_)
    walk_at "m"
    intro y hy
    refine cmp_eq_sdict0 (St.set_new hy g4) (St.set_same _ _ _) ?_
    walk_at "m"
    have e5 : Ext σ₄ (σ₄.set y (.sdict [] 0)) := (Ext.refl _).more hy
    have B5 := B4.ext e5
    have T5 := T4.ext e5
    have N5 := N4.fr e5.fr (fun _ _ q => q)
    have F5 := F4.trans e5.fr
    have g5 := e5 _ _ g4
    have w5 := e5 _ _ w4
    generalize σ₄.set y (.sdict [] 0) = σ₅ at e5 B5 T5 N5 F5 g5 w5
    have c15 := B5.c1
    have c25 := B5.c2
    refine if_bool (fun w => ?_) fun w => ?_
    · have hrn : row = [] := by cases row with
        | nil => rfl
        | cons a b => cases w
      walk_at "m"
      refine c_lost (k := k + 100 - 5 * (i + 1)) H (B5.pen.le (by lia)) fun a num gen σ₆ hlost hir P6 M6 => ?_
      have F6 := M6.fr B5.pen
      refine ⟨es₃, ?_, B5.draw P6 M6, T5.draw B5.pen M6, g3, by lia, F5.trans F6, hLC, _, cell_draw M6 B5.pen w5⟩
      rw [take_snoc hrow]
      exact (N5.fr F6 (fun _ _ q => q)).snoc (.inl ⟨hrn, a, num, gen, rfl, hlost, hir⟩)
    · have hrn : row ≠ [] := by rintro rfl; cases w
      obtain ⟨rk1, rk2, rk3⟩ := row_keys rok
      walk_at "m"
      refine ev_comp (cl := [(("table" : Str), L + 2), (("row" : Str), C + 1), (("pen" : Str), L + 1)]) ?_ (by kernel_rfl) (by kernel_rfl) (locals_of (by kernel_rfl))
      walk_at "m"
      refine compH_keys (fun m zs σ' => ∃ ts es', zs = ts.map V.ref ∧ Pairs σ' es' ts (row.take m) ∧ Base σ' L p l (k + 100 - 5 * i - m) (some (.ref T)) ∧ Tab σ' T es' ∧ Grow es₃ es' ∧ es'.length ≤ 18 + 9 * i + 3 * m ∧ Fr σ₅ σ' ∧ σ' (C + 1) = some (.cell (some (.ref d')))) hfc (by kernel_rfl) (fun C => by kernel_rfl) (by kernel_rfl)
        (fun m zs σ' hj => by obtain ⟨_, _, _, _, _, _, _, _, F, _⟩ := hj; exact F.sd g5) g5 (by lia) ⟨[], es₃, rfl, ⟨rfl, fun i k x hi => by simp at hi⟩, B5.le (by lia), T5, fun _ _ q => q, by lia, Fr.refl _, w5⟩ ?_ ?_
      · rintro E m ⟨key, x⟩ zs σ₆ hfe hkey ⟨ts, es₆, rfl, P6, B6, T6, g6, l6, F6, w6⟩
        have hm : m < 2 := by
          rcases Nat.lt_or_ge m row.length with q | q
          · lia
          · rw [List.getElem?_eq_none q] at hkey; cases hkey
        have r1 := cells_same hfe (x := "pen") (a := L + 1) (by kernel_rfl)
        have r2 := cells_same hfe (x := "table") (a := L + 2) (by kernel_rfl)
        have r3 := cells_same hfe (x := "row") (a := C + 1) (by kernel_rfl)
        have c16 := B6.c1
        have c26 := B6.c2
        refine tests_nil (if_tt ?_)
        walk_at "m"
        refine item_sdict (F6.sd g5) (rk1 key x (List.mem_of_getElem? hkey)) ?_
        walk_at "m"
        refine c_bent (k := k + 100 - 5 * i - (m + 1)) H (B6.pen.le (by lia)) T6 (by lia) fun v' es₇ σ₇ j hj1 hj3 hc T7 g7 l7 P7 M7 => ?_
        have F7 := M7.fr2 B6.pen T6
        have B7 := B6.bent T6 P7 M7
        have w7 := cell_bent M7 B6.pen T6 w6
        walk_at "m"
        refine ⟨sz (by simp), fun t ht => ?_⟩
        have e8 : Ext σ₇ (σ₇.set t (.tuple [.str key, v'])) := (Ext.refl _).more ht
        refine ⟨ts ++ [t], es₇, by simp, ?_, B7.ext e8, T7.ext e8, fun k y q => g7 _ _ (g6 _ _ q), by lia, (F6.trans F7).trans e8.fr, e8 _ _ w7⟩
        rw [take_snoc hkey]
        exact (P6.fz (F7.trans e8.fr).fz g7).snoc hj3 (St.set_same _ _ _) (hc.fz e8.fr.fz fun _ _ q => q)
      · rintro zs σ₆ ⟨ts, es₆, rfl, P6, B6, T6, g6, l6, F6, w6⟩ D hD
        rw [List.take_length] at P6
        have e7 : Ext σ₆ (σ₆.set D (.list (ts.map V.ref))) := (Ext.refl _).more hD
        have P7 := P6.fz e7.fr.fz (fun _ _ q => q)
        have B7 := B6.ext e7
        have T7 := T6.ext e7
        have w7 := e7 _ _ w6
        have dD : (σ₆.set D (.list (ts.map V.ref))) D = some (.list (ts.map V.ref)) := St.set_same _ _ _
        have F7 := (F5.trans F6).trans e7.fr
        have N7 := N5.fr (F6.trans e7.fr) g6
        generalize σ₆.set D (.list (ts.map V.ref)) = σ₇ at P7 B7 T7 w7 dD F7 N7
        obtain ⟨fs, s1, s2, s3, s4⟩ := P7.fs rok
        walk_at "m"
        refine call_dict_pairs (ps := fs) (Gd.look_of dD) s1 (fun m t p hm hp => Gd.look_of (s3 m t p hm hp)) (by have := s4.1; lia) fun d₈ ep₈ hd₈ => ?_
        rw [s2]
        have e8 : Ext σ₇ (σ₇.set d₈ (.sdict fs ep₈)) := (Ext.refl _).more hd₈
        have B8 := B7.ext e8
        have T8 := T7.ext e8
        have w8 := e8 _ _ w7
        have d8 : (σ₇.set d₈ (.sdict fs ep₈)) d₈ = some (.sdict fs ep₈) := St.set_same _ _ _
        have s8 := s4.fz e8.fr.fz (fun _ _ q => q)
        have F8 := F7.trans e8.fr
        have N8 := N7.fr e8.fr (fun _ _ q => q)
        generalize σ₇.set d₈ (.sdict fs ep₈) = σ₈ at B8 T8 w8 d8 s8 F8 N8
        have c18 := B8.c1
        have c28 := B8.c2
        walk_at "m"
        refine c_bent (k := k + 100 - 5 * (i + 1)) H (B8.pen.le (by lia)) T8 (by lia) fun v' es₉ σ₉ j hj1 hj3 hc T9 g9 l9 P9 M9 => ?_
        have F9 := M9.fr2 B8.pen T8
        refine ⟨es₉, ?_, B8.bent T8 P9 M9, T9, fun k y q => g9 _ _ (g6 _ _ (g3 _ _ q)), by lia, F8.trans F9, hLC, _, cell_bent M9 B8.pen T8 w8⟩
        rw [take_snoc hrow]
        exact (N8.fr F9 g9).snoc (.inr ⟨hrn, d₈, fs, ep₈, j, hj3, hc, F9.sd d8, s8.fz F9.fz g9⟩)
  · rintro C ys σ₃ ⟨es₃, hN, B3, T3, g3, l3, F3, hLC, w3, hw3⟩ D hD
    rw [List.length_map, dsl, List.take_length] at hN
    rw [List.length_map] at B3 l3
    have e4 : Ext σ₃ (σ₃.set D (.list ys)) := (Ext.refl _).more hD
    have N4 := hN.fr e4.fr (fun _ _ q => q)
    have B4 := B3.ext e4
    have T4 := T3.ext e4
    have dD : (σ₃.set D (.list ys)) D = some (.list ys) := St.set_same _ _ _
    have F4 := F3.trans e4.fr
    generalize σ₃.set D (.list ys) = σ₄ at e4 N4 B4 T4 dD F4
    have c24 := B4.c2
    walk_at "m"
    refine c_bent (k := k) H (B4.pen.le (by lia)) T4 (by lia) fun v' es₅ σ₅ j hj1 hj3 hc T5 g5 l5 P5 M5 => ?_
    have F5 := M5.fr2 B4.pen T4
    have B5 := B4.bent T4 P5 M5
    have FA : Fr σ σ₅ := F4.trans F5
    have hb5 : σ₅ bd = some (.sdict [(("Filter" : Str), fv)] bep) := FA bd (.sdict [(("Filter" : Str), fv)] bep) trivial hb
    walk_at "m"
    refine setI_sdict hb5 (sz (by simp)) fun ep' => ?_
    rw [show vset [(("Filter" : Str), fv)] ("DecodeParms" : Str) v' = [(("Filter" : Str), fv), (("DecodeParms" : Str), v')] by kernel_rfl]
    have fp : Fz σ₅ (σ₅.set bd (.sdict [(("Filter" : Str), fv), (("DecodeParms" : Str), v')] ep')) := Fz.put hb5 (by rintro (q | q | q) <;> revert q <;> decide +kernel)
    have dD5 := F5 _ _ (calm_brows N4) dD
    exact h v' ep' D ys j es₅ _ (B5.put hb5 (fun _ e => by cases e) (fun _ e => by cases e)) (T5.put hb5 (fun _ _ q => by cases q)) (fun k y q => g5 _ _ (g3 _ _ q)) (by lia)
      (fun b o hn hcalm e => St.upd hn (FA b o hcalm e)) (FA.fz.trans fp) (St.set_same _ _ _) hj3 (hc.fz fp fun _ _ q => q) (St.upd (ne_of_diff dD5 hb5 (by intro q; cases q)) dD5) ((N4.fr F5 g5).put hb5 hok)
end
set_option hygiene false
section
variable {G : Gd} {n : Nat} {σ : St} {env : Env} {lv : Lv} {Q : V → St → Prop}
theorem lost_res {es : List (Int × V)} (hk : ∀ p ∈ es, p.1 < 95) (hr : Ring σ es) {w : V} (h : LostV σ w) (m : Nat) : Res σ es m w .none := by
  obtain ⟨t2, t3, t4, r3, r4, h1, h2, h3, h4, h5, h6, h7, h8⟩ := hr
  obtain ⟨a, num, gen, rfl, hl, hir⟩ := h
  have ring : ∀ (m : Nat) (a : Addr), (IsRef σ a 3 0 → Res σ es m (.ref a) .none) ∧ (IsRef σ a 4 0 → Res σ es m (.ref a) .none) := by
    intro m
    induction m with
    | zero => exact fun a => ⟨fun h => .stop h, fun h => .stop h⟩
    | succ m ih => exact fun a => ⟨fun h => .go h h2 h5 ((ih r4).2 h7), fun h => .go h h3 h6 ((ih r3).1 h8)⟩
  rcases hl with ⟨rfl, rfl⟩ | ⟨rfl, rfl⟩ | ⟨rfl, rfl⟩ | ⟨rfl, rfl⟩
  · cases m with
    | zero => exact .stop hir
    | succ m => exact .miss hir (by decide) (vat_none_of fun p hp q => by have := hk p hp; lia)
  · cases m with
    | zero => exact .stop hir
    | succ m => exact .bad hir h1 h4 (by decide)
  · exact (ring m a).1 hir
  · exact (ring m a).2 hir
/-- what the two filters read from a head -/
noncomputable def Good (σ : St) (es : List (Int × V)) (a : Addr) (xs : List Str) (rows : List Row) : Prop := ∃ hes ep g g' xs', σ a = some (.sdict hes ep) ∧ Res σ es 30 ((vat hes ("Filter" : Str)).getD .none) g ∧ Fil σ es g xs' ∧ xs'.length = xs.length ∧ xs'.map fullOf = xs.map fullOf ∧ Res σ es 30 ((vat hes ("DecodeParms" : Str)).getD .none) g' ∧ Par σ es g' rows
theorem row_at {es : List (Int × V)} {d : Addr} {row : Row} {ep : Nat} (hok : RowOk row) (hd : σ d = some (.sdict row ep)) : RowAt σ es d row := by
  refine ⟨row, ep, hd, rfl, (row_keys hok).1, fun j k w hj => ⟨w, hj, .val ?_⟩⟩
  rcases hok with rfl | ⟨a, b, rfl⟩
  · simp at hj
  · match j, hj with
    | 0, hj => cases hj; exact trivial
    | 1, hj => cases hj; exact trivial
    | j + 2, hj => simp at hj
theorem Head.good {σ₀ : St} {hd : Addr} {xs : List Str} {rows : List Row} {len : Int} {fp pp : Row} (es : List (Int × V)) (hH : Head σ₀ σ hd xs rows len fp pp) (hid : ∀ x ∈ xs, fullOf (fullOf x) = fullOf x) (hok : ∀ row ∈ rows, RowOk row) : Good σ es hd xs rows := by
  obtain ⟨⟨ep, h1⟩, h2, h3⟩ := hH
  have k1 : ∃ g xs', Res σ es 30 ((vat (fp ++ pp ++ [(("Length" : Str), V.int len)]) ("Filter" : Str)).getD .none) g ∧ Fil σ es g xs' ∧ xs'.length = xs.length ∧ xs'.map fullOf = xs.map fullOf := by
    have idm : ∀ xs : List Str, (∀ x ∈ xs, fullOf (fullOf x) = fullOf x) → (xs.map fullOf).map fullOf = xs.map fullOf := fun xs h => by
      rw [List.map_map]
      exact List.map_congr_left fun x hx => h x hx
    rcases h2 with ⟨rfl, rfl⟩ | ⟨hx, v, rfl, hv⟩
    · refine ⟨.none, [], ?_, .none, rfl, rfl⟩
      rw [show vat ([] ++ pp ++ [(("Length" : Str), V.int len)]) ("Filter" : Str) = none by rcases h3 with ⟨_, rfl⟩ | ⟨_, v, rfl, _⟩ <;> kernel_rfl]
      exact .val trivial
    · rw [show vat ([(("Filter" : Str), v)] ++ pp ++ [(("Length" : Str), V.int len)]) ("Filter" : Str) = some v by rcases h3 with ⟨_, rfl⟩ | ⟨_, v, rfl, _⟩ <;> kernel_rfl]
      rcases hv with ⟨x, a, rfl, rfl, hN⟩ | ⟨hne, l, as, rfl, hl, hN⟩
      · exact ⟨.ref a, [fullOf x], .val (.inr (.inr ⟨_, hN⟩)), .one hN, rfl, idm [x] hid⟩
      · refine ⟨.ref l, xs.map fullOf, .val (.inl ⟨_, hl⟩), .list hl (by rw [List.length_map, List.length_map]; exact hN.1) (fun i v hv => ?_), by rw [List.length_map], idm xs hid⟩
        rw [List.getElem?_map] at hv
        obtain ⟨a, ha, rfl⟩ := Option.map_eq_some_iff.mp hv
        have hi : i < xs.length := by
          have := hN.1
          rcases Nat.lt_or_ge i as.length with w | w
          · lia
          · rw [List.getElem?_eq_none w] at ha; cases ha
        obtain ⟨x, hx'⟩ : ∃ x, xs[i]? = some x := ⟨_, List.getElem?_eq_getElem hi⟩
        obtain ⟨a', g1, g2⟩ := hN.2 i x hx'
        rw [ha] at g1
        cases g1
        exact ⟨a, fullOf x, by rw [List.getElem?_map, hx']; rfl, .val (.inr (.inr ⟨_, g2⟩)), g2⟩
  have k2 : ∃ g, Res σ es 30 ((vat (fp ++ pp ++ [(("Length" : Str), V.int len)]) ("DecodeParms" : Str)).getD .none) g ∧ Par σ es g rows := by
    rcases h3 with ⟨hx, rfl⟩ | ⟨hx, v, rfl, hv⟩
    · rw [show vat (fp ++ [] ++ [(("Length" : Str), V.int len)]) ("DecodeParms" : Str) = none by rcases h2 with ⟨_, rfl⟩ | ⟨_, v, rfl, _⟩ <;> kernel_rfl]
      exact ⟨.none, .val trivial, .none (any_nil hx)⟩
    · rw [show vat (fp ++ [(("DecodeParms" : Str), v)] ++ [(("Length" : Str), V.int len)]) ("DecodeParms" : Str) = some v by rcases h2 with ⟨_, rfl⟩ | ⟨_, v, rfl, _⟩ <;> kernel_rfl]
      rcases hv with ⟨row, rfl, hp⟩ | ⟨hne, l, items, rfl, hl, hP⟩
      · rcases hp with ⟨rfl, rfl⟩ | ⟨_, d, ep', rfl, hd, _⟩
        · cases hx
        · exact ⟨.ref d, .val (.inr (.inl ⟨_, _, hd⟩)), .one (row_at (hok row (by simp)) hd)⟩
      · refine ⟨.ref l, .val (.inl ⟨_, hl⟩), .list hl hP.1 fun i v hv => ?_⟩
        have hi : i < rows.length := by
          have := hP.1
          rcases Nat.lt_or_ge i items.length with w | w
          · lia
          · rw [List.getElem?_eq_none w] at hv; cases hv
        obtain ⟨row, hrow⟩ : ∃ row, rows[i]? = some row := ⟨_, List.getElem?_eq_getElem hi⟩
        obtain ⟨v', g1, g2⟩ := hP.2 i row hrow
        rw [hv] at g1
        cases g1
        refine ⟨row, hrow, ?_⟩
        rcases g2 with ⟨rfl, rfl⟩ | ⟨_, d, ep', rfl, hd, _⟩
        · exact .inl ⟨.val trivial, rfl⟩
        · exact .inr ⟨d, .val (.inr (.inl ⟨_, _, hd⟩)), row_at (hok row (List.mem_of_getElem? hrow)) hd⟩
  obtain ⟨g, xs', a1, a2, a3, a4⟩ := k1
  obtain ⟨g', b1, b2⟩ := k2
  exact ⟨_, ep, g, g', xs', h1, a1, a2, a3, a4, b1, b2⟩
/-- the head whose parts lie behind references -/
structure Bent (σ : St) (es : List (Int × V)) (bd : Addr) (xs : List Str) (rows : List Row) : Prop where
  ex : ∃ (fv pv : V) (ep : Nat) (fl pl : Addr) (items items' : List V) (j j' : Nat), σ bd = some (.sdict [(("Filter" : Str), fv), (("DecodeParms" : Str), pv)] ep) ∧ j ≤ 3 ∧ Chain σ es j fv (.ref fl) ∧ σ fl = some (.list items) ∧ BNames σ es items xs ∧ j' ≤ 3 ∧ Chain σ es j' pv (.ref pl) ∧ σ pl = some (.list items') ∧ BRows σ es items' rows
theorem Bent.fr {σ' : St} (x : Fr σ σ') {es : List (Int × V)} {bd : Addr} {xs : List Str} {rows : List Row} (h : Bent σ es bd xs rows) : Bent σ' es bd xs rows := by
  obtain ⟨fv, pv, ep, fl, pl, items, items', j, j', h1, h2, h3, h4, h5, h6, h7, h8, h9⟩ := h
  exact ⟨fv, pv, ep, fl, pl, items, items', j, j', x.sd h1, h2, h3.fz x.fz (fun _ _ q => q), x _ _ (calm_bnames h5) h4, h5.fz x.fz (fun _ _ q => q), h6, h7.fz x.fz (fun _ _ q => q), x _ _ (calm_brows h9) h8, h9.fr x (fun _ _ q => q)⟩
theorem Chain.to {es : List (Int × V)} {j : Nat} {w v r : V} (hj : j ≤ 3) (h : Chain σ es j w v) (hr : ∀ m, Res σ es m v r) : Res σ es 30 w r := by
  have := h.res (hr (30 - j))
  rwa [Nat.sub_add_cancel (by lia)] at this
theorem Bent.good {es : List (Int × V)} {bd : Addr} {xs : List Str} {rows : List Row} (h : Bent σ es bd xs rows) (hk : ∀ p ∈ es, p.1 < 95) (hr : Ring σ es) (hok : ∀ row ∈ rows, RowOk row) : Good σ es bd xs rows := by
  obtain ⟨fv, pv, ep, fl, pl, items, items', j, j', h1, h2, h3, h4, h5, h6, h7, h8, h9⟩ := h
  refine ⟨_, ep, .ref fl, .ref pl, xs, h1, ?_, .list h4 h5.1 (fun i v hv => ?_), rfl, rfl, ?_, .list h8 h9.1 fun i v hv => ?_⟩
  · rw [show vat [(("Filter" : Str), fv), (("DecodeParms" : Str), pv)] ("Filter" : Str) = some fv by kernel_rfl]
    exact h3.to h2 fun m => .val (.inl ⟨_, h4⟩)
  · have hi : i < xs.length := by
      have := h5.1
      rcases Nat.lt_or_ge i items.length with w | w
      · lia
      · rw [List.getElem?_eq_none w] at hv; cases hv
    obtain ⟨x, hx'⟩ : ∃ x, xs[i]? = some x := ⟨_, List.getElem?_eq_getElem hi⟩
    obtain ⟨w, g1, m, a, g2, g3, g4⟩ := h5.2 i x hx'
    rw [hv] at g1
    cases g1
    exact ⟨a, x, hx', g3.to g2 fun m => .val (.inr (.inr ⟨_, g4⟩)), g4⟩
  · rw [show vat [(("Filter" : Str), fv), (("DecodeParms" : Str), pv)] ("DecodeParms" : Str) = some pv by kernel_rfl]
    exact h7.to h6 fun m => .val (.inl ⟨_, h8⟩)
  · have hi : i < rows.length := by
      have := h9.1
      rcases Nat.lt_or_ge i items'.length with w | w
      · lia
      · rw [List.getElem?_eq_none w] at hv; cases hv
    obtain ⟨row, hrow⟩ : ∃ row, rows[i]? = some row := ⟨_, List.getElem?_eq_getElem hi⟩
    obtain ⟨w, g1, g2⟩ := h9.2 i row hrow
    rw [hv] at g1
    cases g1
    refine ⟨row, hrow, ?_⟩
    rcases g2 with ⟨rfl, hl⟩ | ⟨hne, d, fs, fep, m, q1, q2, q3, q4⟩
    · exact .inl ⟨lost_res hk hr hl 30, rfl⟩
    · refine .inr ⟨d, q2.to q1 fun m => .val (.inr (.inl ⟨_, _, q3⟩)), ?_⟩
      rcases hok row (List.mem_of_getElem? hrow) with rfl | ⟨a, b, rfl⟩
      · exact absurd rfl hne
      · obtain ⟨w0, m0, u1, u2, u3⟩ := q4.2 0 _ _ rfl
        obtain ⟨w1, m1, v1, v2, v3⟩ := q4.2 1 _ _ rfl
        have hfs : fs = [(("Predictor" : Str), w0), (("K" : Str), w1)] := by
          have hl := q4.1
          obtain ⟨y0, y1, rfl⟩ := len_2 (l := fs) hl
          cases u2; cases v2; rfl
        subst hfs
        refine ⟨_, fep, q3, rfl, fun k w q => ?_, fun i k w q => ?_⟩
        · simp at q
          rcases q with ⟨rfl, rfl⟩ | ⟨rfl, rfl⟩ <;> kernel_rfl
        · match i, q with
          | 0, q => cases q; exact ⟨_, rfl, u3.to u1 fun m => .val trivial⟩
          | 1, q => cases q; exact ⟨_, rfl, v3.to v1 fun m => .val trivial⟩
          | i + 2, q => simp at q
inductive CopJ (rows : List Row) (σ σ₁ : St) (i : Nat) (ys : List V) (σ' : St) : Prop where
  | mk (cs : List Addr) (h0 : ys = cs.map V.ref) (h1 : Rows σ' cs (rows.take i)) (h2 : (∀ c ∈ cs, σ c = none)) (h3 : Ext σ₁ σ') : CopJ rows σ σ₁ i ys σ'
theorem law15 (H : Pr G) {L p l T rl : Addr} {k : Nat} {ds : List Addr} {rows : List Row} {Q : Fl → Lv → St → Prop} (hf : FnEnv (e_law L)) (B : Base σ L p l k (some (.ref T))) (l1 : lv "rows" = some (.ref rl)) (hr : σ rl = some (.list (ds.map V.ref))) (hR : Rows σ ds rows) (hl : rows.length ≤ 4) (hok : ∀ row ∈ rows, RowOk row)
    (h : ∀ (s q : Addr) (cs : List Addr) lv' σ', Ext σ σ' → IsShelf σ' s T → σ' q = some (.list (cs.map V.ref)) → Rows σ' cs rows → (∀ c ∈ cs, σ c = none) → lv' = (lv.set "copies" (.ref q)).set "shelf" (.ref s) → Q .next lv' σ') : Ex G (n + 4) (e_law L) lv σ (exec (ls 15) (e_law L)) Q := by
  have kt := kc_table L
  have c2 := B.c2
  have dsl := hR.1
  refine ex_swap' ["shelf", "copies"] ?_ hf (by kernel_rfl)
  walk_at "m"
  intro tr htr
  have e0 : Ext σ (σ.set tr (.sdict [] 0)) := (Ext.refl _).more htr
  generalize σ.set tr (.sdict [] 0) = σ₀ at e0
  walk_at "m"
  refine c_Lookup H fun s σ₁ e1 _ hs => ?_
  have e2 := e0.trans e1
  walk_at "m"
  refine ev_comp (cl := []) ?_ (by kernel_rfl) (by kernel_rfl) (locals_of (by kernel_rfl))
  walk_at "m"
  refine compH_list (CopJ rows σ σ₁) hf (by kernel_rfl) (fun C => by kernel_rfl) (by kernel_rfl) (fun i ys σ' hj => by obtain ⟨_, _, _, _, x⟩ := hj; exact x _ _ (e2 _ _ hr)) (e2 _ _ hr) (by rw [List.length_map]; lia) ⟨[], rfl, ⟨rfl, fun i row hi => by simp at hi⟩, fun c hc => (by cases hc), Ext.refl _⟩ ?_ ?_
  · rintro C i v ys σ₃ hfc hv ⟨cs, rfl, hC, hc0, e3⟩
    rw [List.getElem?_map] at hv
    obtain ⟨d', hd', rfl⟩ := Option.map_eq_some_iff.mp hv
    have hi : i < rows.length := by
      rcases Nat.lt_or_ge i ds.length with q | q
      · lia
      · rw [List.getElem?_eq_none q] at hd'; cases hd'
    obtain ⟨row, hrow⟩ : ∃ row, rows[i]? = some row := ⟨_, List.getElem?_eq_getElem hi⟩
    obtain ⟨d2, ep2, g1, g2⟩ := hR.2 i row hrow
    rw [hd'] at g1
    cases g1
    have rk := row_keys (hok row (List.mem_of_getElem? hrow))
    refine tests_nil (if_tt ?_)
    walk_at "m"
    refine call_dict_copy (e3 _ _ (e2 _ _ g2)) (sz (by have := rk.2.1; lia)) fun c ep' hc => ?_
    refine ⟨cs ++ [c], by simp, ?_, fun b hb => ?_, e3.more hc⟩
    · rw [take_snoc hrow]
      exact (hC.ext ((Ext.refl _).more hc)).snoc (St.set_same _ _ _)
    · rcases List.mem_append.mp hb with hb | hb
      · exact hc0 b hb
      · rw [List.mem_singleton.mp hb]; exact (e2.trans e3).no hc
  · rintro ys σ₃ ⟨cs, rfl, hC, hc0, e3⟩ D hD
    rw [List.length_map, dsl, List.take_length] at hC
    walk_at "m"
    refine ⟨sz (by simp), fun t ht => ⟨t, _, rfl, St.set_same _ _ _, rfl, fun lv' elv => ?_⟩⟩
    have e4 := (e3.more (o := .list (cs.map V.ref)) hD).more (o := .tuple [.ref s, .ref D]) ht
    exact h s D cs lv' _ (e2.trans e4) (hs.ext e4) (St.set_new ht (St.set_same _ _ _)) (hC.ext (((Ext.refl _).more hD).more ht)) hc0 elv
end
set_option hygiene false
section
variable {G : Gd} {n : Nat} {σ : St} {env : Env} {lv : Lv} {Q : V → St → Prop}
theorem same_rows {ds ds' : List Addr} {rows : List Row} (hok : ∀ row ∈ rows, RowOk row) (h1 : Rows σ ds rows) (h2 : Rows σ ds' rows) : Paired (Same σ) (ds.map V.ref) (ds'.map V.ref) := by
  refine paired_of (by rw [List.length_map, List.length_map, h1.1, h2.1]) fun j x y hx hy => ?_
  rw [List.getElem?_map] at hx hy
  obtain ⟨d, hd, rfl⟩ := Option.map_eq_some_iff.mp hx
  obtain ⟨d', hd', rfl⟩ := Option.map_eq_some_iff.mp hy
  have hi : j < rows.length := by
    have := h1.1
    rcases Nat.lt_or_ge j ds.length with w | w
    · lia
    · rw [List.getElem?_eq_none w] at hd; cases hd
  obtain ⟨row, hrow⟩ : ∃ row, rows[j]? = some row := ⟨_, List.getElem?_eq_getElem hi⟩
  obtain ⟨e, ep, a1, a2⟩ := h1.2 j row hrow
  obtain ⟨e', ep', b1, b2⟩ := h2.2 j row hrow
  rw [hd] at a1
  rw [hd'] at b1
  cases a1; cases b1
  exact .dict a2 b2 (flat_row (hok row (List.mem_of_getElem? hrow)))
theorem ok_all {rows : List Row} (hok : ∀ row ∈ rows, RowOk row) : ∀ r ∈ rows, vmerge [] r = r ∧ r.length ≤ 100 := fun r hr => by
  have := row_keys (hok r hr)
  exact ⟨this.2.2, by lia⟩
theorem law16 (H : Pr G) {L s T hd bd fl rl : Addr} {es : List (Int × V)} {xs : List Str} {ds : List Addr} {rows : List Row} {Q : Fl → Lv → St → Prop} (hf : FnEnv (e_law L)) (l1 : lv "head" = some (.ref hd)) (l2 : lv "bent" = some (.ref bd)) (l3 : lv "shelf" = some (.ref s)) (l4 : lv "full" = some (.ref fl)) (l5 : lv "rows" = some (.ref rl))
    (hs : IsShelf σ s T) (hT : Tab σ T es) (hg1 : ∀ σ', Ext σ σ' → Good σ' es hd xs rows) (hg2 : ∀ σ', Ext σ σ' → Good σ' es bd xs rows) (hfl : σ fl = some (.list ((xs.map fullOf).map V.str))) (hx : xs.length ≤ 4) (hr : σ rl = some (.list (ds.map V.ref))) (hR : Rows σ ds rows) (hl : rows.length ≤ 4) (hok : ∀ row ∈ rows, RowOk row)
    (h : ∀ lv' σ', Ext σ σ' → (∀ x : Str, x ≠ "given" → lv' x = lv x) → Q .next lv' σ') : Ex G (n + 4) (e_law L) lv σ (exec (ls 16) (e_law L)) Q := by
  have dsl := hR.1
  refine for_tuple ?_
  walk_at "m"
  refine ⟨sz (by simp), fun t ht => ?_⟩
  refine ⟨t, [.ref hd, .ref bd], fun j lv' σ' => (∀ x : Str, x ≠ "given" → lv' x = lv x) ∧ Ext σ σ' ∧ σ' t = some (.tuple [.ref hd, .ref bd]), rfl, fun j lv₂ σ₂ hj => hj.2.2, St.set_same _ _ _, ⟨fun _ _ => rfl, (Ext.refl _).more ht, St.set_same _ _ _⟩, ?_, ?_⟩
  · rintro j x lv₂ σ₂ hj ⟨hlv, e2, t2⟩
    have hxa : ∃ a, x = .ref a ∧ ∀ σ', Ext σ σ' → Good σ' es a xs rows := by
      match j, hj with
      | 0, hj => cases hj; exact ⟨hd, rfl, hg1⟩
      | 1, hj => cases hj; exact ⟨bd, rfl, hg2⟩
      | j + 2, hj => simp at hj
    obtain ⟨a, rfl, hga⟩ := hxa
    have m3 : lv₂ "shelf" = some (.ref s) := (hlv _ (by decide +kernel)).trans l3
    have m4 : lv₂ "full" = some (.ref fl) := (hlv _ (by decide +kernel)).trans l4
    have m5 : lv₂ "rows" = some (.ref rl) := (hlv _ (by decide +kernel)).trans l5
    obtain ⟨⟨tep, tT⟩, _⟩ := hT
    obtain ⟨hes, hep, g, g', xs', a1, a2, a3, a4, a5, a6, a7⟩ := hga σ₂ e2
    walk_at "m"
    refine c_filter_names H (hs.ext e2) (e2 _ _ tT) a1 a2 a3 (by lia) fun r σ₃ e3 _ r3 => ?_
    rw [a5] at r3
    walk_at "m"
    refine cmp_ne_map str_flat (Gd.look_of r3) (Gd.look_of (e3 _ _ (e2 _ _ hfl))) ?_
    rw [decide_eq_true (rfl : xs.map fullOf = _)]
    have e3' := e2.trans e3
    obtain ⟨hes, hep, g, g', xs', a1, a2, a3, a4, a5, a6, a7⟩ := hga σ₃ e3'
    walk_at "m"
    refine call_len_list (Gd.look_of (e3' _ _ hr)) (sz (by rw [List.length_map]; lia)) ?_
    rw [List.length_map, dsl]
    walk_at "m"
    refine c_filter_parms H (hs.ext e3') (e3' _ _ tT) a1 a6 a7 (by lia) (ok_all hok) fun r4 σ₄ ds4 e4 _ q4 R4 => ?_
    have e4' := e3'.trans e4
    walk_at "m"
    refine cmp_ne_same (Gd.look_of q4) (Gd.look_of (e4' _ _ hr)) (same_rows hok R4 (hR.ext e4')) (by lia) ?_
    walk_at "m"
    exact ⟨fun y hy => by rw [Lv.set, if_neg hy]; exact hlv y hy, e4', (e3.trans e4) _ _ t2⟩
  · rintro lv₂ σ₂ ⟨hlv, e2, _⟩
    exact h lv₂ σ₂ e2 hlv
theorem law17 (H : Pr G) {L p l s T : Addr} {k : Nat} {es : List (Int × V)} {Q : Fl → Lv → St → Prop} (hf : FnEnv (e_law L)) (B : Base σ L p l (k + 2) (some (.ref T))) (hT : Tab σ T es) (hk : ∀ p ∈ es, p.1 < 95) (hr : Ring σ es) (l3 : lv "shelf" = some (.ref s)) (hs : IsShelf σ s T)
    (h : ∀ σ', Fr σ σ' → Base σ' L p l k (some (.ref T)) → Tab σ' T es → Q .next lv σ') : Ex G (n + 4) (e_law L) lv σ (exec (ls 17) (e_law L)) Q := by
  have kc := kc_pen L
  have c1 := B.c1
  refine ex_if ?_
  walk_at "m"
  refine ev_sdict' (fun hd hhd => ?_) rfl rfl
  have x0 : Ext σ (σ.set hd (.sdict [] 0)) := (Ext.refl _).more hhd
  have d0 : (σ.set hd (.sdict [] 0)) hd = some (.sdict [] 0) := St.set_same _ _ _
  have B0 := B.ext x0
  have T0 := hT.ext x0
  generalize σ.set hd (.sdict [] 0) = σ₀ at x0 d0 B0 T0
  have c10 := B0.c1
  refine prs_cons ?_
  walk_at "m"
  refine c_lost (k := k + 1) H B0.pen fun a num gen σ₁ hlost hir P1 M1 => ?_
  have F1 := M1.fr B0.pen
  have B1 := B0.draw P1 M1
  have T1 := T0.draw B0.pen M1
  refine prs_nil ⟨[(("DecodeParms" : Str), .ref a)], rfl, F1.sd d0, fun ep => ?_⟩
  rw [show vmerge [] [(("DecodeParms" : Str), V.ref a)] = [(("DecodeParms" : Str), V.ref a)] by kernel_rfl]
  have fp : Fz σ₁ (σ₁.set hd (.sdict [(("DecodeParms" : Str), V.ref a)] ep)) := Fz.put (F1.sd d0) id
  have B2 := B1.put (o' := .sdict [(("DecodeParms" : Str), V.ref a)] ep) (F1.sd d0) (fun _ e => by cases e) (fun _ e => by cases e)
  have T2 := T1.put (o' := .sdict [(("DecodeParms" : Str), V.ref a)] ep) (F1.sd d0) (fun _ _ e => by cases e)
  have F2 : Fr σ (σ₁.set hd (.sdict [(("DecodeParms" : Str), V.ref a)] ep)) := fun b o hc e => St.upd (fun q => by rw [q, hhd] at e; cases e) (F1 b o hc (x0 b o e))
  have lo : LostV (σ₁.set hd (.sdict [(("DecodeParms" : Str), V.ref a)] ep)) (.ref a) := ⟨a, num, gen, rfl, hlost, hir.fz fp⟩
  have d2 : (σ₁.set hd (.sdict [(("DecodeParms" : Str), V.ref a)] ep)) hd = some (.sdict [(("DecodeParms" : Str), V.ref a)] ep) := St.set_same _ _ _
  generalize σ₁.set hd (.sdict [(("DecodeParms" : Str), V.ref a)] ep) = σ₂ at B2 T2 F2 lo d2
  walk_at "m"
  have r2 := hr.fz F2.fz (fun _ _ q => q)
  obtain ⟨tep, t2⟩ := T2.1
  refine c_filter_parms (rows := [[], [], []]) H (hs.fz F2.fz) t2 d2 (g := .none) (lost_res hk r2 lo 30) (.none (by simp)) (by decide) (fun r hr => ?_) fun r3 σ₃ ds3 e3 _ q3 R3 => ?_
  · have : r = [] := by simpa using hr
    subst this; exact ⟨rfl, by simp⟩
  walk_at "m"
  intro y1 hy1
  walk_at "m"
  intro y2 hy2
  walk_at "m"
  intro y3 hy3
  walk_at "m"
  refine ⟨sz (by simp), fun z hz => ?_⟩
  have R4 : Rows ((((σ₃.set y1 (.sdict [] 0)).set y2 (.sdict [] 0)).set y3 (.sdict [] 0)).set z (.list [.ref y1, .ref y2, .ref y3])) [y1, y2, y3] [[], [], []] := by
    refine ⟨rfl, fun i row hi => ?_⟩
    match i, hi with
    | 0, hi => cases hi; exact ⟨y1, 0, rfl, St.set_new hz (St.set_new hy3 (St.set_new hy2 (St.set_same _ _ _)))⟩
    | 1, hi => cases hi; exact ⟨y2, 0, rfl, St.set_new hz (St.set_new hy3 (St.set_same _ _ _))⟩
    | 2, hi => cases hi; exact ⟨y3, 0, rfl, St.set_new hz (St.set_same _ _ _)⟩
    | i + 3, hi => simp at hi
  have x4 : Ext σ₃ ((((σ₃.set y1 (.sdict [] 0)).set y2 (.sdict [] 0)).set y3 (.sdict [] 0)).set z (.list [.ref y1, .ref y2, .ref y3])) := ((((Ext.refl _).more hy1).more hy2).more hy3).more hz
  have z4 : ((((σ₃.set y1 (.sdict [] 0)).set y2 (.sdict [] 0)).set y3 (.sdict [] 0)).set z (.list [.ref y1, .ref y2, .ref y3])) z = some (.list ([y1, y2, y3].map V.ref)) := St.set_same _ _ _
  generalize (((σ₃.set y1 (.sdict [] 0)).set y2 (.sdict [] 0)).set y3 (.sdict [] 0)).set z (.list [.ref y1, .ref y2, .ref y3]) = σ₄ at R4 x4 z4
  refine cmp_ne_same (Gd.look_of (x4 _ _ q3)) (Gd.look_of z4) (same_rows (by simp [RowOk]) (R3.ext x4) R4) (by lia) ?_
  have e4 := e3.trans x4
  have B4 := B2.ext e4
  have T4 := T2.ext e4
  have F4 := F2.trans e4.fr
  clear R4 x4 z4
  walk_at "m"
  refine ev_sdict' (fun hd5 hhd5 => ?_) rfl rfl
  have x5 : Ext σ₄ (σ₄.set hd5 (.sdict [] 0)) := (Ext.refl _).more hhd5
  have d5 : (σ₄.set hd5 (.sdict [] 0)) hd5 = some (.sdict [] 0) := St.set_same _ _ _
  have B5 := B4.ext x5
  have T5 := T4.ext x5
  generalize σ₄.set hd5 (.sdict [] 0) = σ₅ at x5 d5 B5 T5
  have c15 := B5.c1
  refine prs_cons ?_
  walk_at "m"
  refine c_lost (k := k) H B5.pen fun a6 num6 gen6 σ₆ hlost6 hir6 P6 M6 => ?_
  have F6 := M6.fr B5.pen
  have B6 := B5.draw P6 M6
  have T6 := T5.draw B5.pen M6
  refine prs_nil ⟨[(("Filter" : Str), .ref a6)], rfl, F6.sd d5, fun ep => ?_⟩
  rw [show vmerge [] [(("Filter" : Str), V.ref a6)] = [(("Filter" : Str), V.ref a6)] by kernel_rfl]
  have fp : Fz σ₆ (σ₆.set hd5 (.sdict [(("Filter" : Str), V.ref a6)] ep)) := Fz.put (F6.sd d5) id
  have B7 := B6.put (o' := .sdict [(("Filter" : Str), V.ref a6)] ep) (F6.sd d5) (fun _ e => by cases e) (fun _ e => by cases e)
  have T7 := T6.put (o' := .sdict [(("Filter" : Str), V.ref a6)] ep) (F6.sd d5) (fun _ _ e => by cases e)
  have F7 : Fr σ₄ (σ₆.set hd5 (.sdict [(("Filter" : Str), V.ref a6)] ep)) := fun b o hc e => St.upd (fun q => by rw [q, hhd5] at e; cases e) (F6 b o hc (x5 b o e))
  have lo7 : LostV (σ₆.set hd5 (.sdict [(("Filter" : Str), V.ref a6)] ep)) (.ref a6) := ⟨a6, num6, gen6, rfl, hlost6, hir6.fz fp⟩
  have d7 : (σ₆.set hd5 (.sdict [(("Filter" : Str), V.ref a6)] ep)) hd5 = some (.sdict [(("Filter" : Str), V.ref a6)] ep) := St.set_same _ _ _
  generalize σ₆.set hd5 (.sdict [(("Filter" : Str), V.ref a6)] ep) = σ₇ at B7 T7 F7 lo7 d7
  have F8 := F4.trans F7
  have r7 := hr.fz F8.fz (fun _ _ q => q)
  obtain ⟨tep7, t7⟩ := T7.1
  walk_at "m"
  refine c_filter_names (xs := []) H (hs.fz F8.fz) t7 d7 (g := .none) (lost_res hk r7 lo7 30) .none (by decide) fun r8 σ₈ e8 _ q8 => ?_
  walk_at "m"
  refine ⟨sz (by simp), fun z9 hz9 => ?_⟩
  refine cmp_ne_nil (Gd.look_of (St.set_new hz9 q8)) (Gd.look_of (St.set_same _ _ _)) ?_
  rw [show (!((([] : List Str).map fullOf).map V.str).isEmpty) = false from rfl]
  walk_at "m"
  have e9 := e8.more (o := .list []) hz9
  exact h _ (F8.trans e9.fr) (B7.ext e9) (T7.ext e9)
theorem vset_len (es : Row) (k : Str) (v : V) : (vset es k v).length ≤ es.length + 1 := by
  unfold vset
  split <;> simp
theorem law18 (H : Pr G) {L rl : Addr} {ds : List Addr} {rows : List Row} {Q : Fl → Lv → St → Prop} (hf : FnEnv (e_law L)) (l5 : lv "rows" = some (.ref rl)) (hr : σ rl = some (.list (ds.map V.ref))) (hR : Rows σ ds rows) (hl : rows.length ≤ 4) (hok : ∀ row ∈ rows, RowOk row)
    (h : ∀ lv' σ', (∀ b o, b ∉ ds → σ b = some o → σ' b = some o) → (∀ x : Str, x ≠ "row" → lv' x = lv x) → Q .next lv' σ') : Ex G (n + 4) (e_law L) lv σ (exec (ls 18) (e_law L)) Q := by
  have dsl := hR.1
  have hdict : ∀ d ∈ ds, ∃ es ep, σ d = some (.sdict es ep) ∧ es.length ≤ 2 := fun d hd => by
    obtain ⟨j, hj, e⟩ := List.mem_iff_getElem.mp hd
    obtain ⟨d', ep, h1, h2⟩ := hR.2 j _ (List.getElem?_eq_getElem (show j < rows.length from dsl ▸ hj))
    rw [List.getElem?_eq_getElem hj, e] at h1
    cases h1
    exact ⟨_, ep, h2, (row_keys (hok _ (List.getElem_mem _))).2.1⟩
  have hrl : rl ∉ ds := fun q => by
    obtain ⟨es, ep, e, _⟩ := hdict rl q
    rw [hr] at e; cases e
  refine for_list ?_
  walk_at "m"
  refine ⟨rl, ds.map V.ref, fun i lv' σ' => (∀ x : Str, x ≠ "row" → lv' x = lv x) ∧ (∀ b o, b ∉ ds → σ b = some o → σ' b = some o) ∧ (∀ d ∈ ds, ∃ es ep, σ' d = some (.sdict es ep) ∧ es.length ≤ 2 + i), rfl, fun j lv₂ σ₂ hj => hj.2.1 _ _ hrl hr, hr, ⟨fun _ _ => rfl, fun _ _ _ e => e, hdict⟩, ?_, ?_⟩
  · rintro i x lv₂ σ₂ hx ⟨hlv, hk, hd⟩
    rw [List.getElem?_map] at hx
    obtain ⟨d, hd', rfl⟩ := Option.map_eq_some_iff.mp hx
    have hi : i < 4 := by
      rcases Nat.lt_or_ge i ds.length with q | q
      · lia
      · rw [List.getElem?_eq_none q] at hd'; cases hd'
    have hmem := List.mem_of_getElem? hd'
    obtain ⟨es, ep, g1, g2⟩ := hd d hmem
    walk_at "m"
    refine setI_sdict g1 (sz (by lia)) fun ep' => ?_
    walk_at "m"
    refine ⟨fun y hy => by rw [Lv.set, if_neg hy]; exact hlv y hy, fun b o hb e => St.upd (fun q => hb (q ▸ hmem)) (hk b o hb e), fun d' hd2 => ?_⟩
    by_cases q : d' = d
    · subst q
      exact ⟨_, ep', St.set_same _ _ _, by have := vset_len es ("Columns" : Str) (.int 77); lia⟩
    · obtain ⟨es2, ep2, u1, u2⟩ := hd d' hd2
      exact ⟨es2, ep2, St.upd q u1, by lia⟩
  · rintro lv₂ σ₂ ⟨hlv, hk, _⟩
    exact h lv₂ σ₂ hk hlv
end
set_option hygiene false
section
variable {G : Gd} {n : Nat} {σ : St} {env : Env} {lv : Lv} {Q : V → St → Prop}
theorem law19 (H : Pr G) {σ₀ : St} {L s T hd pl rl cl : Addr} {es : List (Int × V)} {xs : List Str} {ds cs : List Addr} {rows : List Row} {items : List V} {Q : Fl → Lv → St → Prop} (hf : FnEnv (e_law L)) (l1 : lv "head" = some (.ref hd)) (l2 : lv "parts" = some (.ref pl)) (l3 : lv "shelf" = some (.ref s)) (l4 : lv "copies" = some (.ref cl)) (l5 : lv "rows" = some (.ref rl))
    (hs : IsShelf σ s T) (hT : Tab σ T es) (hg1 : ∀ σ', Ext σ σ' → Good σ' es hd xs rows) (hp : σ pl = some (.list items)) (hP : Parts σ₀ σ items rows) (hr : σ rl = some (.list (ds.map V.ref))) (dsl : ds.length = rows.length) (hc : σ cl = some (.list (cs.map V.ref))) (hC : Rows σ cs rows) (hl : rows.length ≤ 4) (hok : ∀ row ∈ rows, RowOk row)
    (h : ∀ σ', Ext σ σ' → Q .next lv σ') : Ex G (n + 4) (e_law L) lv σ (exec (ls 19) (e_law L)) Q := by
  have pil := hP.1
  refine ex_if ?_
  walk_at "m"
  refine ev_comp (cl := []) ?_ (by kernel_rfl) (by kernel_rfl) (locals_of (by kernel_rfl))
  walk_at "m"
  refine compH_list (fun i ys σ' => ys = [] ∧ Ext σ σ') hf (by kernel_rfl) (fun C => by kernel_rfl) (by kernel_rfl) (fun i ys σ' hj => hj.2 _ _ hp) hp (by lia) ⟨rfl, Ext.refl _⟩ ?_ ?_
  · rintro C i v ys σ₃ hfc hv ⟨rfl, e3⟩
    have hi : i < rows.length := by
      rcases Nat.lt_or_ge i items.length with w | w
      · lia
      · rw [List.getElem?_eq_none w] at hv; cases hv
    obtain ⟨row, hrow⟩ : ∃ row, rows[i]? = some row := ⟨_, List.getElem?_eq_getElem hi⟩
    obtain ⟨v', g1, g2⟩ := hP.2 i row hrow
    rw [hv] at g1
    cases g1
    refine tests_one ?_
    rcases g2 with ⟨rfl, rfl⟩ | ⟨_, d, ep', rfl, hd, _⟩
    · walk_at "m"
      rw [show (!(V.none).isNone) = false from rfl]
      walk_at "m"
      exact ⟨rfl, e3⟩
    · walk_at "m"
      rw [show (!(V.ref d).isNone) = true from rfl]
      walk_at "m"
      refine cmp_in_sdict (e3 _ _ hd) ?_
      have : vat row ("Columns" : Str) = none := by
        rcases hok row (List.mem_of_getElem? hrow) with rfl | ⟨a, b, rfl⟩ <;> kernel_rfl
      rw [this]
      walk_at "m"
      exact ⟨rfl, e3⟩
  · rintro ys σ₃ ⟨rfl, e3⟩ D hD
    have e4 : Ext σ (σ₃.set D (.list [])) := e3.more hD
    have d4 : (σ₃.set D (.list [])) D = some (.list []) := St.set_same _ _ _
    generalize σ₃.set D (.list []) = σ₄ at e4 d4
    walk_at "m"
    refine ⟨sz (by simp), fun z hz => ?_⟩
    refine cmp_ne_nil (Gd.look_of (St.set_new hz d4)) (Gd.look_of (St.set_same _ _ _)) ?_
    have e5 := e4.more (o := .list []) hz
    clear d4
    generalize σ₄.set z (.list []) = σ₅ at e5
    rw [show (!([] : List V).isEmpty) = false from rfl]
    obtain ⟨⟨tep, tT⟩, _⟩ := hT
    obtain ⟨hes, hep, g, g', xs', a1, a2, a3, a4, a5, a6, a7⟩ := hg1 σ₅ e5
    walk_at "m"
    refine call_len_list (Gd.look_of (e5 _ _ hr)) (sz (by rw [List.length_map]; lia)) ?_
    rw [List.length_map, dsl]
    walk_at "m"
    refine c_filter_parms H (hs.ext e5) (e5 _ _ tT) a1 a6 a7 (by lia) (ok_all hok) fun r6 σ₆ ds6 e6 _ q6 R6 => ?_
    have e6' := e5.trans e6
    walk_at "m"
    refine cmp_ne_same (Gd.look_of q6) (Gd.look_of (e6' _ _ hc)) (same_rows hok R6 (hC.ext e6')) (by lia) ?_
    walk_at "m"
    exact h _ e6'
theorem law20 (H : Pr G) {L p l : Addr} {k : Nat} {tb : Option V} {Q : Fl → Lv → St → Prop} (hf : FnEnv (e_law L)) (B : Base σ L p l (k + 101) tb)
    (h : ∀ (b : Array UInt8) (w : Nat) lv' σ', b.size ≤ 9 → w < 9 → Base σ' L p l k tb → lv' = (lv.set "which" (.int w)).set "octets" (.bytes b) → Q .next lv' σ') : Ex G (n + 4) (e_law L) lv σ (exec (ls 20) (e_law L)) Q := by
  have kc := kc_pen L
  have c1 := B.c1
  refine ex_swap' ["octets", "which"] ?_ hf (by kernel_rfl)
  walk_at "m"
  refine c_octets (k := k + 1) H (B.pen.le (by lia)) fun b σ₁ hb P1 M1 => ?_
  have B1 := B.draw P1 M1
  have c11 := B1.c1
  walk_at "m"
  refine c_draw (m := 9) (k := k) H (by decide) (by decide) P1 fun w σ₂ hw P2 M2 => ?_
  have B2 := B1.draw P2 M2
  walk_at "m"
  refine ⟨sz (by simp), fun t ht => ⟨t, _, rfl, St.set_same _ _ _, rfl, fun lv' elv => ?_⟩⟩
  exact h b w lv' _ hb hw (B2.ext ((Ext.refl _).more ht)) elv
theorem law21 (H : Pr G) {L : Addr} {b : Array UInt8} {w : Nat} {Q : Fl → Lv → St → Prop} (hf : FnEnv (e_law L)) (l1 : lv "octets" = some (.bytes b)) (l2 : lv "which" = some (.int w)) (hb : b.size ≤ 9) (hw : w < 9)
    (h : ∀ (v : V) σ', MadeOf b w v → Ext σ σ' → Q .next (lv.set "made" v) σ') : Ex G (n + 4) (e_law L) lv σ (exec (ls 21) (e_law L)) Q := by
  obtain ⟨r, r1, r2⟩ := lawTup_at G w hw
  refine ex_assign ?_
  walk_at "m"
  refine item_rom H (lawTup_rom G) (by lia) (by lia) (by rw [Int.toNat_natCast]; exact r1) ?_
  walk_at "m"
  refine item_rom H r2 (by decide) (by decide) (v := .str (fulls.getD w "")) rfl ?_
  walk_at "m"
  refine c_apply H hw (fulls_at hw) hb fun v σ' hm e => ?_
  walk_at "m"
  exact h v σ' hm e
theorem law22 (H : Pr G) {L : Addr} {b : Array UInt8} {w : Nat} {v : V} {Q : Fl → Lv → St → Prop} (hf : FnEnv (e_law L)) (l1 : lv "octets" = some (.bytes b)) (l2 : lv "which" = some (.int w)) (l3 : lv "made" = some v) (hb : b.size ≤ 9) (hw : w < 9) (hm : MadeOf b w v)
    (h : ∀ σ', Ext σ σ' → Q .next lv σ') : Ex G (n + 4) (e_law L) lv σ (exec (ls 22) (e_law L)) Q := by
  obtain ⟨r, r1, r2⟩ := lawTup_at G w hw
  have hv : v.plain = true ∧ v.isNone = decide (2 < w) := by
    cases hm with
    | hex => exact ⟨rfl, rfl⟩
    | b85 => exact ⟨rfl, rfl⟩
    | run _ _ => exact ⟨rfl, rfl⟩
    | none h => exact ⟨rfl, (decide_eq_true (show 2 < w by lia)).symm⟩
  refine ex_if ?_
  walk_at "m_ev"
  walk_at "m_ev"
  walk_at "m"
  refine cmp_is_none hv.1 ?_
  walk_at "m"
  refine cmp_ne_bool ?_
  rw [show (!(v.isNone == decide ((2 : Int) < w))) = false by
    rw [hv.2]
    by_cases q : 2 < w
    · rw [decide_eq_true q, decide_eq_true (show (2 : Int) < w by lia)]; rfl
    · rw [decide_eq_false q, decide_eq_false (show ¬ (2 : Int) < w by lia)]; rfl]
  walk_at "m"
  refine item_rom H (lawTup_rom G) (by lia) (by lia) (by rw [Int.toNat_natCast]; exact r1) ?_
  walk_at "m"
  refine item_rom H r2 (by decide) (by decide) (v := .str (fulls.getD w "")) rfl ?_
  walk_at "m"
  refine c_undo H hw (fulls_at hw) hb hm fun σ' e => ?_
  walk_at "m"
  refine if_dec (fun q => ?_) fun q => ?_
  · rw [if_pos (show w < 3 by lia)]
    walk_at "m"
    refine cmp_ne_bytes ?_
    rw [show (b.toList != b.toList) = false by simp]
    walk_at "m"
    exact h σ' e
  · rw [if_neg (show ¬ w < 3 by lia)]
    walk_at "m"
    refine cmp_ne_none ?_
    walk_at "m"
    exact h σ' e
end
set_option hygiene false
open PySem.SeqAt PyProof.V PySem.Spec
section
variable {G : Gd} {n : Nat} {σ : St} {env : Env} {lv : Lv} {Q : V → St → Prop}
noncomputable def eqTo (x : V) : Value → Bool
  | .int a _ => match x with
    | .int i => a == i
    | .bool b => a == (if b then 1 else 0)
    | _ => false
  | .none => match x with
    | .none => true
    | _ => false
  | _ => false
noncomputable def eqToV (x : V) : V → Bool
  | .int a => match x with
    | .int i => a == i
    | .bool b => a == (if b then 1 else 0)
    | _ => false
  | .none => match x with
    | .none => true
    | _ => false
  | _ => false
noncomputable def Slim (G : Gd) (σ : St) (x : V) : Prop := match x with
  | .none | .int _ | .bool _ | .str _ => True
  | .ref q => ∃ xs, G.look σ q = some (.list xs)
  | _ => False
theorem eqTo_at {A : Around} {s : Shared} {x y : V} {vx vy : Value} (hS : Sit G σ s.heap) (hu : A.units < cLine) (hx : Slim G σ x) (hy : y = .none ∨ ∃ i, y = .int i) (rx : VR x vx) (ry : VR y vy) : EqAt A s vy vx (eqTo x vy) ∧ eqTo x vy = eqToV x y := by
  rcases hy with rfl | ⟨i, rfl⟩
  · obtain rfl := VR.none_ ry
    cases rx with
    | none => exact ⟨EqAt.same _, rfl⟩
    | bool b => exact ⟨EqAt.none_bool b, rfl⟩
    | int i t => exact ⟨EqAt.none_int i t, rfl⟩
    | str x t => exact ⟨EqAt.none_str x t, rfl⟩
    | bytes b t => exact absurd hx id
    | typ n => exact absurd hx id
    | blt n => exact absurd hx id
    | ref a =>
      obtain ⟨xs, hx⟩ := hx
      obtain ⟨vs, c, h1, h2⟩ := list_at hS hx
      exact ⟨EqAt.none_list ⟨_, h1, rfl, c, rfl⟩ hu, rfl⟩
  · obtain ⟨_, rfl⟩ := VR.int_ ry
    rename_i u
    cases rx with
    | none => exact ⟨EqAt.int_none i u, rfl⟩
    | bool b => exact ⟨EqAt.int_bool i u b, rfl⟩
    | int j t => exact ⟨EqAt.int_int i u j t, rfl⟩
    | str x t => exact ⟨EqAt.int_str i u x t, rfl⟩
    | bytes b t => exact absurd hx id
    | typ n => exact absurd hx id
    | blt n => exact absurd hx id
    | ref a =>
      obtain ⟨xs, hx⟩ := hx
      obtain ⟨vs, c, h1, h2⟩ := list_at hS hx
      exact ⟨EqAt.int_list i u ⟨_, h1, rfl, c, rfl⟩ hu, rfl⟩
theorem cmp_notin_slim {t : Addr} {ys : List V} {x : V} (hn : 0 < n) (ht : G.look σ t = some (.tuple ys)) (hx : Slim G σ x) (hy : ∀ y ∈ ys, y = .none ∨ ∃ i, y = .int i) (h : Q (.bool (!ys.any (eqToV x))) σ) : Cmp G n σ .NotIn x (.ref t) Q := by
  intro vx y rx ry; obtain rfl := VR.ref_ ry
  refine .mk fun A s Φ E hA hS _ k => ?_
  obtain ⟨vs, h1, h2⟩ := tup_of hS ht
  have hu : A.in1.units < cLine := by
    have := hA.un
    show A.units + 1 < cLine
    lia
  have all : ∀ {ys : List V} {vs : List Value}, Paired VR ys vs → (∀ y ∈ ys, y = .none ∨ ∃ i, y = .int i) → (∀ vy ∈ vs, EqAt A.in1 s vy vx (eqTo x vy)) ∧ vs.any (eqTo x) = ys.any (eqToV x) := by
    intro ys vs h hy
    induction h with
    | nil => exact ⟨fun _ h => (by cases h), rfl⟩
    | cons ra r ih =>
      obtain ⟨i1, i2⟩ := ih fun y h => hy y (.tail _ h)
      obtain ⟨q1, q2⟩ := eqTo_at (A := A.in1) hS hu hx (hy _ (.head _)) rx ra
      refine ⟨fun vy h => ?_, by rw [List.any_cons, List.any_cons, q2, i2]⟩
      rcases List.mem_cons.mp h with rfl | h
      · exact q1
      · exact i1 vy h
  obtain ⟨q1, q2⟩ := all h2 hy
  refine notIn_tupleAt (eqTo x) h1 (fun y hy => q1 y (by simpa using hy)) ?_
  rw [List.any_toArray, q2]
  exact k _ _ s.heap s.toks σ (.bool _) hS (Keep.refl _ _) h
noncomputable def V.isTrueV : V → Bool
  | .bool true => true
  | _ => false
theorem cmp_is_true {a : V} (hp : a.plain = true) (h : Q (.bool a.isTrueV) σ) : Cmp G n σ .Is a (.bool true) Q := by
  intro x y hx hy; obtain rfl := VR.bool_ hy
  refine tr_val (fun A s Φ E _ _ k => wpAny_is_plain (by cases hx <;> first | rfl | cases hp) ?_) h
  cases hx with
  | bool b => cases b <;> exact k _ s.toks (.bool _)
  | _ => exact k _ s.toks (.bool _)
noncomputable def EarlyV (σ : St) (v : V) : Prop := v = .int 0 ∨ v = .int 1 ∨ v = .none ∨ v = .bool true ∨ v = .int 2 ∨ v = .int (-1) ∨ v = .str "1" ∨ ∃ q, v = .ref q ∧ σ q = some (.list [.int 0])
noncomputable def BadV (σ : St) (v : V) : Prop := v = .bool true ∨ v = .int 2 ∨ v = .int (-1) ∨ v = .str "1" ∨ ∃ q, v = .ref q ∧ σ q = some (.list [.int 0])
noncomputable def DueV (σ : St) (v due : V) : Prop := (v = .int 0 ∧ due = .int 0) ∨ (v = .int 1 ∧ due = .int 1) ∨ (v = .none ∧ due = .int 1) ∨ (BadV σ v ∧ ∃ t, due = .ref t ∧ σ t = some (.tuple [.str "fault", .int (-1)]))
theorem law23 (H : Pr G) {L p l : Addr} {tb : Option V} {Q : Fl → Lv → St → Prop} (hf : FnEnv (e_law L)) (B : Base σ L p l 1 tb)
    (h : ∀ (v : V) σ', EarlyV σ' v → σ' (L + 3) = some (.cell (some v)) → Q .next lv σ') : Ex G (n + 4) (e_law L) lv σ (exec (ls 23) (e_law L)) Q := by
  have kc := kc_pen L
  have ke := kc_early L
  have c1 := B.c1
  refine ex_assign ?_
  walk_at "m"
  refine ⟨sz (by simp), fun q hq => ?_⟩
  have e1 : Ext σ (σ.set q (.list [.int 0])) := (Ext.refl _).more hq
  have q1 : (σ.set q (.list [.int 0])) q = some (.list [.int 0]) := St.set_same _ _ _
  have B1 := B.ext e1
  generalize σ.set q (.list [.int 0]) = σ₁ at e1 q1 B1
  walk_at "m"
  refine ⟨sz (by simp), fun t ht => ?_⟩
  have e2 : Ext σ₁ (σ₁.set t (.tuple [.int 0, .int 1, .none, .bool true, .int 2, .int (-1), .str "1", .ref q])) := (Ext.refl _).more ht
  have t2 : (σ₁.set t (.tuple [.int 0, .int 1, .none, .bool true, .int 2, .int (-1), .str "1", .ref q])) t = some (.tuple [.int 0, .int 1, .none, .bool true, .int 2, .int (-1), .str "1", .ref q]) := St.set_same _ _ _
  have B2 := B1.ext e2
  have q2 := e2 _ _ q1
  generalize σ₁.set t (.tuple [.int 0, .int 1, .none, .bool true, .int 2, .int (-1), .str "1", .ref q]) = σ₂ at e2 t2 B2 q2
  have c12 := B2.c1
  walk_at "m"
  refine c_draw (m := 8) (k := 0) H (by decide) (by decide) B2.pen fun d σ₃ hd P3 M3 => ?_
  have F3 := M3.fr B2.pen
  have t3 := F3 _ _ (by exact trivial) t2
  have B3 := B2.draw P3 M3
  have q3 : σ₃ q = some (.list [.int 0]) := M3 _ _ (fun w => by
    obtain ⟨ns, i1, i2, i3, h1, _⟩ := B2.pen
    rw [List.mem_singleton.mp w, h1] at q2
    cases q2) q2
  have c3 := B3.c3
  have nq : q ≠ L + 3 := ne_of_diff q3 c3 (by intro w; cases w)
  have fin : ∀ v : V, EarlyV σ₃ v → Q .next lv (σ₃.set (L + 3) (.cell (some v))) := fun v hv => (h v _ (by
    rcases hv with rfl | rfl | rfl | rfl | rfl | rfl | rfl | ⟨r, rfl, hr⟩
    · exact .inl rfl
    · exact .inr (.inl rfl)
    · exact .inr (.inr (.inl rfl))
    · exact .inr (.inr (.inr (.inl rfl)))
    · exact .inr (.inr (.inr (.inr (.inl rfl))))
    · exact .inr (.inr (.inr (.inr (.inr (.inl rfl)))))
    · exact .inr (.inr (.inr (.inr (.inr (.inr (.inl rfl))))))
    · exact .inr (.inr (.inr (.inr (.inr (.inr (.inr ⟨r, rfl, St.upd (ne_of_diff hr c3 (by intro w; cases w)) hr⟩))))))) (St.set_same _ _ _))
  have pick : ∃ v, [V.int 0, .int 1, .none, .bool true, .int 2, .int (-1), .str "1", .ref q][d]? = some v ∧ EarlyV σ₃ v := by
    match d, hd with
    | 0, _ => exact ⟨_, rfl, .inl rfl⟩
    | 1, _ => exact ⟨_, rfl, .inr (.inl rfl)⟩
    | 2, _ => exact ⟨_, rfl, .inr (.inr (.inl rfl))⟩
    | 3, _ => exact ⟨_, rfl, .inr (.inr (.inr (.inl rfl)))⟩
    | 4, _ => exact ⟨_, rfl, .inr (.inr (.inr (.inr (.inl rfl))))⟩
    | 5, _ => exact ⟨_, rfl, .inr (.inr (.inr (.inr (.inr (.inl rfl)))))⟩
    | 6, _ => exact ⟨_, rfl, .inr (.inr (.inr (.inr (.inr (.inr (.inl rfl))))))⟩
    | 7, _ => exact ⟨_, rfl, .inr (.inr (.inr (.inr (.inr (.inr (.inr ⟨q, rfl, q3⟩))))))⟩
    | d + 8, hd => lia
  obtain ⟨v, hv1, hv2⟩ := pick
  refine item_tuple (Gd.look_of t3) (by lia) (by lia) (v := v) (by rw [Int.toNat_natCast]; exact hv1) ?_
  walk_at "m"
  exact fin v hv2
theorem law24 (H : Pr G) {L : Addr} {v : V} {Q : Fl → Lv → St → Prop} (hf : FnEnv (e_law L)) (hv : EarlyV σ v) (c3 : σ (L + 3) = some (.cell (some v)))
    (h : ∀ (due : V) σ', Ext σ σ' → DueV σ' v due → Q .next (lv.set "due" due) σ') : Ex G (n + 4) (e_law L) lv σ (exec (ls 24) (e_law L)) Q := by
  have ke := kc_early L
  refine ex_assign ?_
  walk_at "m"
  refine ⟨sz (by simp), fun t ht => ?_⟩
  have e1 : Ext σ (σ.set t (.tuple [.int 0, .int 1, .none])) := (Ext.refl _).more ht
  have t1 : (σ.set t (.tuple [.int 0, .int 1, .none])) t = some (.tuple [.int 0, .int 1, .none]) := St.set_same _ _ _
  have d1 := e1 _ _ c3
  have bad : ∀ v, BadV σ v → BadV (σ.set t (.tuple [.int 0, .int 1, .none])) v := fun v hb => by
    rcases hb with h | h | h | h | ⟨q, h1, h2⟩
    · exact .inl h
    · exact .inr (.inl h)
    · exact .inr (.inr (.inl h))
    · exact .inr (.inr (.inr (.inl h)))
    · exact .inr (.inr (.inr (.inr ⟨q, h1, e1 _ _ h2⟩)))
  have slim : Slim G (σ.set t (.tuple [.int 0, .int 1, .none])) v ∧ v.plain = true := by
    rcases hv with rfl | rfl | rfl | rfl | rfl | rfl | rfl | ⟨r, rfl, hr⟩
    · exact ⟨trivial, rfl⟩
    · exact ⟨trivial, rfl⟩
    · exact ⟨trivial, rfl⟩
    · exact ⟨trivial, rfl⟩
    · exact ⟨trivial, rfl⟩
    · exact ⟨trivial, rfl⟩
    · exact ⟨trivial, rfl⟩
    · exact ⟨⟨_, Gd.look_of (e1 _ _ hr)⟩, rfl⟩
  refine cmp_notin_slim (by lia) (Gd.look_of t1) slim.1 (by intro y hy; simp at hy; rcases hy with rfl | rfl | rfl <;> simp) ?_
  have fault : BadV σ v → ∀ z, (σ.set t (.tuple [.int 0, .int 1, .none])) z = none → Q .next (lv.set "due" (.ref z)) ((σ.set t (.tuple [.int 0, .int 1, .none])).set z (.tuple [.str "fault", .int (-1)])) := fun hb z hz => by
    refine h _ _ (e1.more hz) (.inr (.inr (.inr ⟨?_, z, rfl, St.set_same _ _ _⟩)))
    rcases bad v hb with h | h | h | h | ⟨q, h1, h2⟩
    · exact .inl h
    · exact .inr (.inl h)
    · exact .inr (.inr (.inl h))
    · exact .inr (.inr (.inr (.inl h)))
    · exact .inr (.inr (.inr (.inr ⟨q, h1, St.set_new hz h2⟩)))
  clear bad
  rcases hv with rfl | rfl | rfl | rfl | rfl | rfl | rfl | ⟨r, rfl, hr⟩
  · rw [show (![V.int 0, .int 1, .none].any (eqToV (.int 0))) = false from rfl]
    walk_at "m"
    refine cmp_is_true rfl ?_
    rw [show (V.int 0).isTrueV = false from rfl]
    walk_at "m"
    rw [show (V.int 0).isNone = false from rfl]
    walk_at "m"
    exact h _ _ e1 (.inl ⟨rfl, rfl⟩)
  · rw [show (![V.int 0, .int 1, .none].any (eqToV (.int 1))) = false from rfl]
    walk_at "m"
    refine cmp_is_true rfl ?_
    rw [show (V.int 1).isTrueV = false from rfl]
    walk_at "m"
    rw [show (V.int 1).isNone = false from rfl]
    walk_at "m"
    exact h _ _ e1 (.inr (.inl ⟨rfl, rfl⟩))
  · rw [show (![V.int 0, .int 1, .none].any (eqToV .none)) = false from rfl]
    walk_at "m"
    refine cmp_is_true rfl ?_
    rw [show (V.none).isTrueV = false from rfl]
    walk_at "m"
    rw [show (V.none).isNone = true from rfl]
    walk_at "m"
    exact h _ _ e1 (.inr (.inr (.inl ⟨rfl, rfl⟩)))
  · rw [show (![V.int 0, .int 1, .none].any (eqToV (.bool true))) = false from rfl]
    walk_at "m"
    refine cmp_is_true rfl ?_
    rw [show (V.bool true).isTrueV = true from rfl]
    walk_at "m"
    refine ⟨sz (by simp), fun z hz => ?_⟩
    walk_at "m"
    exact fault (.inl rfl) z hz
  · rw [show (![V.int 0, .int 1, .none].any (eqToV (.int 2))) = true from rfl]
    walk_at "m"
    refine ⟨sz (by simp), fun z hz => ?_⟩
    walk_at "m"
    exact fault (.inr (.inl rfl)) z hz
  · rw [show (![V.int 0, .int 1, .none].any (eqToV (.int (-1)))) = true from rfl]
    walk_at "m"
    refine ⟨sz (by simp), fun z hz => ?_⟩
    walk_at "m"
    exact fault (.inr (.inr (.inl rfl))) z hz
  · rw [show (![V.int 0, .int 1, .none].any (eqToV (.str "1"))) = true from rfl]
    walk_at "m"
    refine ⟨sz (by simp), fun z hz => ?_⟩
    walk_at "m"
    exact fault (.inr (.inr (.inr (.inl rfl)))) z hz
  · rw [show (![V.int 0, .int 1, .none].any (eqToV (.ref r))) = true from rfl]
    walk_at "m"
    refine ⟨sz (by simp), fun z hz => ?_⟩
    walk_at "m"
    exact fault (.inr (.inr (.inr (.inr ⟨r, rfl, hr⟩)))) z hz
end
set_option hygiene false
section
variable {G : Gd} {n : Nat} {σ : St} {env : Env} {lv : Lv} {Q : V → St → Prop}
/-- what the statements read again and again -/
structure Facts (σ₀ σ : St) (nl rl fl hd pl : Addr) (xs : List Str) (ds : List Addr) (rows : List Row) (items : List V) (len : Int) (fp pp : Row) : Prop where
  n : σ nl = some (.list (xs.map V.str))
  f : σ fl = some (.list ((xs.map fullOf).map V.str))
  r : σ rl = some (.list (ds.map V.ref))
  R : Rows σ ds rows
  hd : Head σ₀ σ hd xs rows len fp pp
  p : σ pl = some (.list items)
  P : Parts σ₀ σ items rows
theorem Facts.fr {σ₀ σ' : St} {nl rl fl hd pl : Addr} {xs : List Str} {ds : List Addr} {rows : List Row} {items : List V} {len : Int} {fp pp : Row} (x : Fr σ σ') (h : Facts σ₀ σ nl rl fl hd pl xs ds rows items len fp pp) : Facts σ₀ σ' nl rl fl hd pl xs ds rows items len fp pp :=
  ⟨x _ _ calm_strs h.n, x _ _ calm_strs h.f, x _ _ calm_refs h.r, h.R.fr x, h.hd.fr x, x _ _ h.P.calm h.p, h.P.fr x⟩
theorem row_mem {ds : List Addr} {rows : List Row} (h : Rows σ ds rows) {d : Addr} (hd : d ∈ ds) : ∃ row ep, row ∈ rows ∧ σ d = some (.sdict row ep) := by
  obtain ⟨j, hj, e⟩ := List.mem_iff_getElem.mp hd
  obtain ⟨d', ep, h1, h2⟩ := h.2 j _ (List.getElem?_eq_getElem (show j < rows.length from h.1 ▸ hj))
  rw [List.getElem?_eq_getElem hj, e] at h1
  cases h1
  exact ⟨_, ep, List.getElem_mem _, h2⟩
/-- only the rows' dicts have changed -/
noncomputable def Cut (ds : List Addr) (σ σ' : St) : Prop := ∀ b o, b ∉ ds → σ b = some o → σ' b = some o
theorem Cut.fz {σ' : St} {ds : List Addr} {rows : List Row} (c : Cut ds σ σ') (hR : Rows σ ds rows) (hok : ∀ row ∈ rows, RowOk row) : Fz σ σ' := fun b o hc e => c b o (fun q => by
  obtain ⟨row, ep, h1, h2⟩ := row_mem hR q
  rw [e] at h2
  cases h2
  rcases hok row h1 with rfl | ⟨x, y, rfl⟩
  · exact hc
  · rcases hc with q | q | q <;> revert q <;> decide +kernel) e
theorem Cut.out {σ' : St} {ds : List Addr} {rows : List Row} (c : Cut ds σ σ') (hR : Rows σ ds rows) {b : Addr} {o : O} (e : σ b = some o) (hn : ∀ es ep, o ≠ .sdict es ep) : σ' b = some o := c b o (fun q => by
  obtain ⟨row, ep, h1, h2⟩ := row_mem hR q
  rw [e] at h2
  cases h2
  exact hn _ _ rfl) e
theorem Cut.base {σ' : St} {L p l : Addr} {k : Nat} {tb : Option V} {ds : List Addr} {rows : List Row} (c : Cut ds σ σ') (hR : Rows σ ds rows) (h : Base σ L p l k tb) : Base σ' L p l k tb := by
  obtain ⟨⟨ns, i1, i2, i3, a, b, r⟩, h1, h2, h3⟩ := h
  exact ⟨⟨ns, i1, i2, i3, c.out hR a (fun _ _ e => by cases e), c.out hR b (fun _ _ e => by cases e), r⟩, c.out hR h1 (fun _ _ e => by cases e), c.out hR h2 (fun _ _ e => by cases e), c.out hR h3 (fun _ _ e => by cases e)⟩
theorem Cut.tab {σ' : St} {T : Addr} {es : List (Int × V)} {ds : List Addr} {rows : List Row} (c : Cut ds σ σ') (hR : Rows σ ds rows) (h : Tab σ T es) : Tab σ' T es := ⟨h.1.imp fun _ q => c.out hR q (fun _ _ e => by cases e), h.2⟩
theorem new_out {σ₀ : St} {ds : List Addr} {rows : List Row} (hR : Rows σ₀ ds rows) {d : Addr} (h : σ₀ d = none) : d ∉ ds := fun q => by
  obtain ⟨row, ep, h1, h2⟩ := row_mem hR q
  rw [h] at h2
  cases h2
theorem Cut.parts {σ₀ σ' : St} {ds : List Addr} {rows : List Row} {items : List V} (c : Cut ds σ σ') (hR0 : Rows σ₀ ds rows) (h : Parts σ₀ σ items rows) : Parts σ₀ σ' items rows := ⟨h.1, fun i row hr => by
  obtain ⟨v, h1, h2⟩ := h.2 i row hr
  refine ⟨v, h1, ?_⟩
  rcases h2 with ⟨a, b⟩ | ⟨a, d, ep, b, e, f⟩
  · exact .inl ⟨a, b⟩
  · exact .inr ⟨a, d, ep, b, c _ _ (new_out hR0 f) e, f⟩⟩
theorem Cut.head {σ₀ σ' : St} {ds : List Addr} {rows : List Row} {hd : Addr} {xs : List Str} {len : Int} {fp pp : Row} (c : Cut ds σ σ') (hR0 : Rows σ₀ ds rows) (hR : Rows σ ds rows) (hok : ∀ row ∈ rows, RowOk row) (hd0 : σ₀ hd = none) (h : Head σ₀ σ hd xs rows len fp pp) : Head σ₀ σ' hd xs rows len fp pp := by
  have fz := c.fz hR hok
  refine ⟨h.at_.imp fun _ a => c _ _ (new_out hR0 hd0) a, h.f.imp id fun ⟨a, v, b, q⟩ => ⟨a, v, b, ?_⟩, h.p.imp id fun ⟨a, v, b, q⟩ => ⟨a, v, b, ?_⟩⟩
  · rcases q with ⟨x, a, h1, h2, h3⟩ | ⟨h1, l, as, h2, h3, h4⟩
    · exact .inl ⟨x, a, h1, h2, h3.fz fz⟩
    · exact .inr ⟨h1, l, as, h2, c.out hR h3 (fun _ _ e => by cases e), h4.1, fun i x hx => let ⟨a, g1, g2⟩ := h4.2 i x hx; ⟨a, g1, g2.fz fz⟩⟩
  · rcases q with ⟨row, h1, h2⟩ | ⟨h1, l, items, h2, h3, h4⟩
    · refine .inl ⟨row, h1, ?_⟩
      rcases h2 with ⟨a, b⟩ | ⟨a, d, ep, b, e, f⟩
      · exact .inl ⟨a, b⟩
      · exact .inr ⟨a, d, ep, b, c _ _ (new_out hR0 f) e, f⟩
    · exact .inr ⟨h1, l, items, h2, c.out hR h3 (fun _ _ e => by cases e), c.parts hR0 h4⟩
theorem body_law : fbody (top 50) = [ls 0, ls 1, ls 2, ls 3, ls 4, ls 5, ls 6, ls 7, ls 8, ls 9, ls 10, ls 11, ls 12, ls 13, ls 14, ls 15, ls 16, ls 17, ls 18, ls 19, ls 20, ls 21, ls 22, ls 23, ls 24, ls 25] := by kernel_rfl
theorem full_idem {sp : List (Nat × Nat)} {ts : List Addr} (h : Picks σ ts sp) : ∀ x ∈ sp.map nmOf, fullOf (fullOf x) = fullOf x := by
  have all : ∀ (a : Fin 9) (b : Fin 2), fullOf (fullOf (nmOf (a.val, b.val))) = fullOf (nmOf (a.val, b.val)) := by decide +kernel
  intro x hx
  obtain ⟨ab, hab, rfl⟩ := List.mem_map.mp hx
  obtain ⟨i, hi, e⟩ := List.mem_iff_getElem.mp hab
  obtain ⟨h1, h2, _⟩ := h.2 i ab (by rw [List.getElem?_eq_getElem hi, e])
  exact all ⟨ab.1, h1⟩ ⟨ab.2, h2⟩
end
set_option hygiene false
section
variable {G : Gd} {n : Nat} {σ : St} {env : Env} {lv : Lv} {Q : V → St → Prop}
/-- a list that stood before the call: it is only read -/
noncomputable def Scr (G : Gd) (a : Addr) (xs : List V) : Prop := ∃ vs, G.hT.IsList a (List.toArray vs) ∧ Paired VR xs vs
theorem scr_of {a : Addr} {vs : List Value} {ns : List Int} (h : G.hT.IsList a vs.toArray) (hi : IntsAre vs ns) : Scr G a (ns.map V.int) := by
  refine ⟨vs, h, ?_⟩
  clear h
  induction hi with
  | nil => exact .nil
  | cons n t _ ih => exact .cons (.int n t) ih
theorem slice_scr {a : Addr} {xs : List V} {l u st : V} {lo hi s' : Option Int} (ha : Scr G a xs) (hl : PartOf l lo) (hu : PartOf u hi) (hs : PartOf st s') (h0 : s' ≠ some 0) (hsz : xs.length ≤ sizeLine)
    (h : ∀ r, σ r = none → Q (.ref r) (σ.set r (.list (vpick xs lo hi s')))) : SliceV G n σ (.ref a) l u st Q := by
  intro ox lx ux sx hox hlx hux hsx; cases hox
  obtain ⟨vs, ⟨o, h1, hc, hd⟩, h2⟩ := ha
  refine ⟨"list", _, slot_list_getitem.lookup, fun s hS => ?_, fun sl => .mk fun A s Φ E hA hS hP k => ?_⟩
  · exact (show s.heap.IsList a vs.toArray from ⟨o, hS.top _ _ h1, hc, hd⟩).typeIs
  · have e1 := h2.length
    refine wpAny_getItem_list_slice (items := vs.toArray) ⟨o, hS.top _ _ h1, hc, hd⟩ hP (isPart hl hlx) (isPart hu hux) (isPart hs hsx) h0 ?_ (by rw [List.size_toArray]; omega)
    have e : slicePick vs.toArray lo hi s' = ((sliceRange (sliceBounds lo hi s' xs.length).1 (sliceBounds lo hi s' xs.length).2.1 (sliceBounds lo hi s' xs.length).2.2).filterMap (vs[·]?)).toArray := by
      unfold slicePick; rw [List.size_toArray, e1]; simp
    rw [e]
    exact k _ _ _ s.toks _ (.ref _) (hS.alloc (.list (paired_picks h2 _)) rfl) Keep.alloc (h _ hS.fresh)
theorem c_penS (H : Pr G) {a : Addr} {ns : List Int} (ha : Scr G a (ns.map V.int)) (hns : ns.length ≤ 1000) (h : ∀ p l σ', Ext σ σ' → σ p = none → Pen σ' p l 100000000 → Q (.ref p) σ') : Kp G (.ref 304) ∧ CallV G (n + 1) σ (.ref 304) [.ref a] Q := by
  refine ⟨kp_law_pen H, (in_law_pen H fun L hf => ?_).call⟩
  walk_at "m"
  refine slice_scr ha .none (.int _) .none (by decide) (sz (by rw [List.length_map]; omega)) fun r hr => ?_
  rw [show (63 : Int) = ((63 : Nat) : Int) from rfl, vpick_take_any, ← List.map_take]
  walk_at "m"
  refine call_list (Gd.look_of (St.set_same _ _ _)) (sz (by rw [List.length_map, List.length_take]; omega)) fun l hl => ?_
  have x1 : Ext σ ((σ.set r (.list ((ns.take 63).map V.int))).set l (.list ((ns.take 63).map V.int))) := ((Ext.refl _).more hr).more hl
  have t1 : ((σ.set r (.list ((ns.take 63).map V.int))).set l (.list ((ns.take 63).map V.int))) l = some (.list ((ns.take 63).map V.int)) := St.set_same _ _ _
  generalize (σ.set r (.list ((ns.take 63).map V.int))).set l (.list ((ns.take 63).map V.int)) = σ₁ at x1 t1
  walk_at "m"
  refine slice_scr ha .none (.int _) .none (by decide) (sz (by rw [List.length_map]; omega)) fun q hq => ?_
  rw [vpick_take_any, ← List.map_take]
  walk_at "m"
  refine call_sum (Gd.look_of (St.set_same _ _ _)) fun t => ?_
  walk_at "m"
  refine call_abs ?_
  walk_at "m"
  refine bin_mod (by decide) ?_
  walk_at "m"
  refine ⟨sz (by simp), fun p hp => ?_⟩
  walk_at "m"
  obtain ⟨d, e, hd⟩ := fmod_range (a := if t < 0 then -t else t) (m := 1009) (by decide)
  have t2 := St.set_new (o := .list ((ns.take 63).map V.int)) hq t1
  refine h p l _ ((x1.more hq).more hp) ((x1.more hq).no hp) ⟨ns.take 63, 0, 0, _, St.set_same _ _ _, St.set_new hp t2, Ne.symm (ne_of_some_none t2 hp), by rw [List.length_take]; omega, by decide, by decide, by decide, ?_, ?_⟩
  · have e' : (if t < 0 then -t else t).fmod 1009 = d := e
    rw [e']; omega
  · have e' : (if t < 0 then -t else t).fmod 1009 = d := e
    rw [e']; omega
theorem law0S (H : Pr G) {L sc : Addr} {ns : List Int} {Q : Fl → Lv → St → Prop} (hf : FnEnv (e_law L)) (hl : lv "script" = some (.ref sc)) (hsc : Scr G sc (ns.map V.int)) (hns : ns.length ≤ 1000) (c1 : σ (L + 1) = some (.cell none)) (c2 : σ (L + 2) = some (.cell none)) (c3 : σ (L + 3) = some (.cell none))
    (h : ∀ p l σ', Base σ' L p l 100000000 none → Q .next lv σ') : Ex G (n + 4) (e_law L) lv σ (exec (ls 0) (e_law L)) Q := by
  have kc := kc_pen L
  refine ex_assign ?_
  walk_at "m"
  refine c_penS H hsc hns fun p l σ' e hp P => ?_
  have d1 := e _ _ c1
  have d2 := e _ _ c2
  have d3 := e _ _ c3
  walk_at "m"
  have n1 : p ≠ L + 1 := fun q => by rw [← q, hp] at c1; cases c1
  have n2 : l ≠ L + 1 := by obtain ⟨_, _, hl⟩ := P.at; exact ne_of_diff hl d1 (by intro q; cases q)
  have n12 : L + 2 ≠ L + 1 := fun e => absurd (Nat.add_left_cancel e) (by decide)
  have n13 : L + 3 ≠ L + 1 := fun e => absurd (Nat.add_left_cancel e) (by decide)
  exact h p l _ ⟨P.upd n1 n2, St.set_same _ _ _, St.upd n12 d2, St.upd n13 d3⟩
end
set_option hygiene false
section
variable {G : Gd} {n : Nat} {σ : St} {env : Env} {lv : Lv}
/-- what is left of the law gives True; what stood before the call stands, but for law's table of codes, which has grown -/
structure EndA (A : Around) (G : Gd) (env : Env) (lv : Lv) (σ : St) (t : Sem Flow) : Prop where
  run : ∀ (s : Shared) (Φ : Flow → Shared → Prop) (E : Value → Shared → Prop), Sit G σ s.heap → EnvAt G env lv σ s.heap →
    s.heap.get? 334 = some (tabObj #[]) → σ 334 = none → (∀ h' tk, (∀ b o, G.hT.get? b = some o → h'.get? b = some o) → GrownAt 334 h' → Φ (.ret (.bool true)) { s with heap := h', toks := tk }) → wpAny (model G.prog G.w) A t Φ E s
noncomputable def Go (A : Around) (G : Gd) (env : Env) (rest : List Stmt) : Fl → Lv → St → Prop := fun f lv σ => f = .next ∧ EndA A G env lv σ (execs rest env)
theorem enda_cons {A : Around} {st : Stmt} {rest : List Stmt} (hA : Room A n) (h : Ex G n env lv σ (exec st env) (Go A G env rest)) : EndA A G env lv σ (execs (st :: rest) env) := by
  refine ⟨fun s Φ E hS hP ht hn k => ?_⟩
  rw [execs_cons env st rest]
  refine wpAny_bind (h A s _ E hA hS hP fun f x h' tk σ' lv' hr hS' hP' hK hq => ?_)
  obtain ⟨rfl, hq⟩ := hq
  cases hr
  have ne : (334 : Addr) ≠ env.locals := fun q => by
    obtain ⟨⟨m, ⟨o, es, ep, ho, hd, _⟩, _⟩, _⟩ := hP
    rw [← q, ht] at ho
    cases ho
    cases hd
  obtain ⟨t', n'⟩ := hK _ _ ne ht hn
  exact hq.run { s with heap := h', toks := tk } Φ E hS' hP' t' n' fun h'' tk'' => k h'' tk''
theorem c_law_c (H : Pr G) {A : Around} {σ5 σ17 : St} {lv17 : Lv} {L p l T s cl nl rl fl hd pl : Addr} {xs : List Str} {ds cs : List Addr} {rows : List Row} {items : List V} {len : Int} {fp pp : Row} {es2 : List (Int × V)} (hA : Room A (n + 4)) (hf : FnEnv (e_law L))
    (B17 : Base σ17 L p l 99999599 (some (.ref T))) (T17 : Tab σ17 T es2) (hk15 : ∀ p ∈ es2, p.1 < 95) (rg17 : Ring σ17 es2) (hs17 : IsShelf σ17 s T) (FH : Facts σ5 σ17 nl rl fl hd pl xs ds rows items len fp pp) (hR5 : Rows σ5 ds rows) (hd0 : σ5 hd = none)
    (hcl17 : σ17 cl = some (.list (cs.map V.ref))) (hC17 : Rows σ17 cs rows) (hcs : ∀ c ∈ cs, c ∉ ds) (hrl4 : rows.length ≤ 4) (hok : ∀ row ∈ rows, RowOk row) (hid : ∀ x ∈ xs, fullOf (fullOf x) = fullOf x)
    (m1 : lv17 "shelf" = some (.ref s)) (m2 : lv17 "rows" = some (.ref rl)) (m3 : lv17 "head" = some (.ref hd)) (m4 : lv17 "parts" = some (.ref pl)) (m5 : lv17 "copies" = some (.ref cl))
    (last : ∀ (lv : Lv) (σ : St) (v due : V), lv "due" = some due → σ (L + 3) = some (.cell (some v)) → DueV σ v due → EndA A G (e_law L) lv σ (execs [ls 25] (e_law L))) : EndA A G (e_law L) lv17 σ17 (execs [ls 17, ls 18, ls 19, ls 20, ls 21, ls 22, ls 23, ls 24, ls 25] (e_law L)) := by
  refine enda_cons hA (law17 (k := 99999597) H hf B17 T17 hk15 rg17 m1 hs17 fun σ18 F18 B18 T18 => ⟨rfl, ?_⟩)
  have FI := FH.fr F18
  have hcl18 := F18 _ _ calm_refs hcl17
  have hC18 := hC17.fr F18
  have hs18 := hs17.fr F18
  refine enda_cons hA (law18 H hf m2 FI.r FI.R hrl4 hok fun lv19 σ19 cut hlv19 => ⟨rfl, ?_⟩)
  have cut : Cut ds σ18 σ19 := cut
  have z19 := cut.fz FI.R hok
  have B19 := cut.base FI.R B18
  have T19 := cut.tab FI.R T18
  have hs19 := hs18.fz z19
  have hH19 := cut.head hR5 FI.R hok hd0 FI.hd
  have hP19 := cut.parts hR5 FI.P
  have hpl19 := cut.out FI.R FI.p (fun _ _ e => by cases e)
  have hrl19 := cut.out FI.R FI.r (fun _ _ e => by cases e)
  have hcl19 := cut.out FI.R hcl18 (fun _ _ e => by cases e)
  have hC19 : Rows σ19 cs rows := ⟨hC18.1, fun i row hr => by
    obtain ⟨d, ep, h1, h2⟩ := hC18.2 i row hr
    exact ⟨d, ep, h1, cut _ _ (hcs d (List.mem_of_getElem? h1)) h2⟩⟩
  have n1 : lv19 "shelf" = some (.ref s) := (hlv19 _ (by decide +kernel)).trans m1
  have n2 : lv19 "rows" = some (.ref rl) := (hlv19 _ (by decide +kernel)).trans m2
  have n3 : lv19 "head" = some (.ref hd) := (hlv19 _ (by decide +kernel)).trans m3
  have n4 : lv19 "parts" = some (.ref pl) := (hlv19 _ (by decide +kernel)).trans m4
  have n5 : lv19 "copies" = some (.ref cl) := (hlv19 _ (by decide +kernel)).trans m5
  clear hlv19
  refine enda_cons hA (law19 H hf n3 n4 n1 n5 n2 hs19 T19 (fun σ' e => (hH19.ext e).good es2 hid hok) hpl19 hP19 hrl19 hR5.1 hcl19 hC19 hrl4 hok fun σ20 e20 => ⟨rfl, ?_⟩)
  have B20 := B19.ext e20
  refine enda_cons hA (law20 (k := 99999496) H hf B20 fun b w lv21 σ21 hb hw B21 elv21 => ⟨rfl, ?_⟩)
  subst elv21
  refine enda_cons hA (law21 H hf (by walk_at "m_lv") (by walk_at "m_lv") hb hw fun v σ22 hm e22 => ⟨rfl, ?_⟩)
  have B22 := B21.ext e22
  refine enda_cons hA (law22 H hf (by walk_at "m_lv") (by walk_at "m_lv") (by walk_at "m_lv") hb hw hm fun σ23 e23 => ⟨rfl, ?_⟩)
  have B23 := B22.ext e23
  refine enda_cons hA (law23 H hf (B23.le (by omega)) fun ev σ24 hev c24 => ⟨rfl, ?_⟩)
  refine enda_cons hA (law24 H hf hev c24 fun due σ25 e25 hdue => ⟨rfl, ?_⟩)
  exact last _ _ ev due (by walk_at "m_lv") (e25 _ _ c24) hdue
end
set_option hygiene false
section
variable {G : Gd} {n : Nat} {σ : St} {env : Env} {lv : Lv}
theorem c_law_b (H : Pr G) {A : Around} {σ5 σ12 : St} {lv12 : Lv} {L p l nl rl fl hd pl : Addr} {xs : List Str} {ds : List Addr} {rows : List Row} {items : List V} {len : Int} {fp pp : Row} (hA : Room A (n + 4)) (hf : FnEnv (e_law L))
    (BC : Base σ12 L p l 99999799 none) (FC : Facts σ5 σ12 nl rl fl hd pl xs ds rows items len fp pp) (hR5 : Rows σ5 ds rows) (hd0 : σ5 hd = none) (hxl : xs.length ≤ 4) (hrl4 : rows.length ≤ 4) (hok : ∀ row ∈ rows, RowOk row) (hid : ∀ x ∈ xs, fullOf (fullOf x) = fullOf x)
    (k1 : lv12 "names" = some (.ref nl)) (k2 : lv12 "rows" = some (.ref rl)) (k3 : lv12 "head" = some (.ref hd)) (k4 : lv12 "parts" = some (.ref pl)) (k5 : lv12 "full" = some (.ref fl))
    (last : ∀ (lv : Lv) (σ : St) (v due : V), lv "due" = some due → σ (L + 3) = some (.cell (some v)) → DueV σ v due → EndA A G (e_law L) lv σ (execs [ls 25] (e_law L))) : EndA A G (e_law L) lv12 σ12 (execs [ls 12, ls 13, ls 14, ls 15, ls 16, ls 17, ls 18, ls 19, ls 20, ls 21, ls 22, ls 23, ls 24, ls 25] (e_law L)) := by
  refine enda_cons hA (law12 (k := 99999799) (p := p) (l := l) H hf BC fun T es σ13 B13 T13 hes rg13 F13 => ⟨rfl, ?_⟩)
  have FD := FC.fr F13
  refine enda_cons hA (law13 (k := 99999699) H hf B13 T13 (Nat.le_of_eq hes) (by walk_at "m_lv") FD.n hxl fun bd bep fv fll its j es1 σ14 B14 T14 g14 l14 F14 hbd14 hbd0 hj14 hc14 hfl14 hN14 => ⟨rfl, ?_⟩)
  have FE := FD.fr F14
  have rg14 := rg13.fz F14.fz g14
  refine enda_cons hA (law14 (k := 99999599) H hf B14 T14 l14 (by walk_at "m_lv") (by walk_at "m_lv") FE.r FE.R hrl4 hok hbd14 fun pv2 bep2 pll its2 j2 es2 σ15 B15 T15 g15 l15 K15 Z15 hbd15 hj15 hc15 hpl15 hN15 => ⟨rfl, ?_⟩)
  have F15 : Fr σ13 σ15 := fun b o hc e => K15 b o (fun q => by rw [q, hbd0] at e; cases e) hc (F14 b o hc e)
  have FF := FD.fr F15
  have rg15 := rg14.fz Z15 g15
  have hk15 : ∀ p ∈ es2, p.1 < 95 := fun p hp => by have := T15.2 p hp; omega
  have bent15 : Bent σ15 es2 bd xs rows := ⟨fv, pv2, bep2, fll, pll, its, its2, j, j2, hbd15, hj14, hc14.fz Z15 g15, Z15 _ _ (calm_bnames hN14) hfl14, hN14.fz Z15 g15, hj15, hc15, hpl15, hN15⟩
  refine enda_cons hA (law15 H hf B15 (by walk_at "m_lv") FF.r FF.R hrl4 hok fun s cl cs lv16 σ16 e16 hs16 hcl16 hC16 hcs0 elv16 => ⟨rfl, ?_⟩)
  subst elv16
  have B16 := B15.ext e16
  have FG := FF.fr e16.fr
  have T16 := T15.ext e16
  refine enda_cons hA (law16 H hf (by walk_at "m_lv") (by walk_at "m_lv") (by walk_at "m_lv") (by walk_at "m_lv") (by walk_at "m_lv") hs16 T16 (fun σ' e => (FG.hd.ext e).good es2 hid hok) (fun σ' e => (bent15.fr (e16.trans e).fr).good hk15 (rg15.fz (e16.trans e).fr.fz fun _ _ q => q) hok) FG.f hxl FG.r FG.R hrl4 hok fun lv17 σ17 e17 hlv17 => ⟨rfl, ?_⟩)
  have B17 := B16.ext e17
  have FH := FG.fr e17.fr
  have T17 := T16.ext e17
  have m1 : lv17 "shelf" = some (.ref s) := (hlv17 _ (by decide +kernel)).trans (by walk_at "m_lv")
  have m2 : lv17 "rows" = some (.ref rl) := (hlv17 _ (by decide +kernel)).trans (by walk_at "m_lv")
  have m3 : lv17 "head" = some (.ref hd) := (hlv17 _ (by decide +kernel)).trans (by walk_at "m_lv")
  have m4 : lv17 "parts" = some (.ref pl) := (hlv17 _ (by decide +kernel)).trans (by walk_at "m_lv")
  have m5 : lv17 "copies" = some (.ref cl) := (hlv17 _ (by decide +kernel)).trans (by walk_at "m_lv")
  clear hlv17
  exact c_law_c H hA hf B17 T17 hk15 (rg15.fz (e16.trans e17).fr.fz fun _ _ q => q) (hs16.ext e17) FH hR5 hd0 (e17 _ _ hcl16) (hC16.ext e17) (fun c hc => new_out FF.R (hcs0 c hc)) hrl4 hok hid m1 m2 m3 m4 m5 last
end
set_option hygiene false
section
variable {G : Gd} {n : Nat} {σ : St} {env : Env} {lv : Lv}
theorem c_law (H : Pr G) {A : Around} {L sc : Addr} {ns : List Int} (hA : Room A (n + 4)) (hf : FnEnv (e_law L)) (hsc : Scr G sc (ns.map V.int)) (hns : ns.length ≤ 1000) (c1 : σ (L + 1) = some (.cell none)) (c2 : σ (L + 2) = some (.cell none)) (c3 : σ (L + 3) = some (.cell none))
    (last : ∀ (lv : Lv) (σ : St) (v due : V), lv "due" = some due → σ (L + 3) = some (.cell (some v)) → DueV σ v due → EndA A G (e_law L) lv σ (execs [ls 25] (e_law L))) :
    EndA A G (e_law L) (noV.set "script" (.ref sc)) σ (execs (fbody (top 50)) (e_law L)) := by
  rw [body_law]
  refine enda_cons hA (law0S H hf (by walk_at "m_lv") hsc hns c1 c2 c3 fun p l σ1 B1 => ⟨rfl, ?_⟩)
  refine enda_cons hA (law1 (k := 99999900) H hf B1 fun q ts sp σ2 B2 hq2 hqp hP2 hsp M2 => ⟨rfl, ?_⟩)
  refine enda_cons hA (law2 (k := 99999800) H hf B2 (by walk_at "m_lv") hq2 hqp hP2 hsp fun rl ds rows σ3 B3 hr3 hrp hR3 hok hrl M3 => ⟨rfl, ?_⟩)
  have F3 := M3.fr B2.pen
  have hq3 := F3 _ _ calm_refs hq2
  have hP3 := hP2.mut M3 (soft_pen B2.pen)
  refine enda_cons hA (law3 (k := 99999799) H hf B3 (by walk_at "m_lv") hq3 hP3 hsp fun nl len lv4 σ4 B4 hn4 hnp M4 hlen elv4 => ⟨rfl, ?_⟩)
  subst elv4
  have F4 := M4.fr B3.pen
  have hq4 := F4 _ _ calm_refs hq3
  have hP4 := hP3.mut M4 (soft_pen B3.pen)
  have hr4 := F4 _ _ calm_refs hr3
  have hR4 := hR3.fr F4
  refine enda_cons hA (law4 H hf (by walk_at "m_lv") hq4 hP4 hsp fun fl σ5 e5 hfl0 hfl5 => ⟨rfl, ?_⟩)
  have B5 := B4.ext e5
  have hq5 := e5 _ _ hq4
  have hr5 := e5 _ _ hr4
  have hR5 := hR4.ext e5
  have hn5 := e5 _ _ hn4
  have hxl : (sp.map nmOf).length ≤ 4 := by rw [List.length_map]; exact hsp
  have hrl4 : rows.length ≤ 4 := by omega
  rw [← pick_names hP4] at hfl5
  have hid := full_idem hP4
  refine enda_cons hA (law5 H hf (by walk_at "m_lv") (by walk_at "m_lv") (by walk_at "m_lv") hn5 hr5 hR5 (by omega) (by omega) hok fun hd fp pp σ6 e6 hd0 hH6 => ⟨rfl, ?_⟩)
  have B6 := B5.ext e6
  refine enda_cons hA (law6 H hf (by walk_at "m_lv") (by walk_at "m_lv") (e6 _ _ hq5) (e6 _ _ hr5) (hR5.ext e6) (by omega) fun kl σ7 e7 hk7 => ⟨rfl, ?_⟩)
  have e67 := e6.trans e7
  have B7 := B6.ext e7
  have hH7 := hH6.ext e7
  have hte : ts.isEmpty = (sp.map nmOf).isEmpty := by
    have := hP4.1
    cases ts <;> cases sp <;> simp at this ⊢
  rw [hte] at hk7
  refine enda_cons hA (law7 H hf (by walk_at "m_lv") (by walk_at "m_lv") (e67 _ _ hr5) (hR5.ext e67) (by omega) hH7 fun sv pv lv8 σ8 e8 hs8 hp8 elv8 => ⟨rfl, ?_⟩)
  subst elv8
  have e68 := e67.trans e8
  have B8 := B7.ext e8
  refine enda_cons hA (law8 H hf (by walk_at "m_lv") (by walk_at "m_lv") (by walk_at "m_lv") (by walk_at "m_lv") (by walk_at "m_lv") (hH7.ext e8) (e8 _ _ hk7) (e68 _ _ hn5) (by omega) (e68 _ _ hfl5) fun σ9 e9 => ⟨rfl, ?_⟩)
  have e69 := e68.trans e9
  have B9 := B8.ext e9
  have hs9 : (sp.map nmOf = [] ∧ ∃ e, sv = .ref e ∧ σ9 e = some (.list [])) ∨ (sp.map nmOf ≠ [] ∧ FilV σ9 (sp.map nmOf) sv) := by
    rcases hs8 with ⟨a, e, b, c⟩ | ⟨a, b⟩
    · exact .inl ⟨a, e, b, e9 _ _ c⟩
    · exact .inr ⟨a, b.ext e9⟩
  refine enda_cons hA (law9 H hf (by walk_at "m_lv") (by walk_at "m_lv") (by walk_at "m_lv") hs9 (e69 _ _ hn5) (by omega) (e69 _ _ hfl5) fun σ10 e10 => ⟨rfl, ?_⟩)
  have e810 := e9.trans e10
  have eA := e69.trans e10
  have BA := B9.ext e10
  have hHA := (hH7.ext e8).ext e810
  have hpA : (anyRow rows = false ∧ ∃ e, pv = .ref e ∧ σ10 e = some (.list (List.replicate rows.length .none))) ∨ (anyRow rows = true ∧ ParV σ5 σ10 rows pv) := by
    rcases hp8 with ⟨a, e, b, c⟩ | ⟨a, b⟩
    · exact .inl ⟨a, e, b, e810 _ _ c⟩
    · refine .inr ⟨a, ?_⟩
      exact b.ext e810
  refine enda_cons hA (law10 H hf (by walk_at "m_lv") (by walk_at "m_lv") (by walk_at "m_lv") (eA _ _ hr5) (hR5.ext eA) (by omega) hHA hpA fun pl items σ11 e11 hpl hPP => ⟨rfl, ?_⟩)
  have eB := eA.trans e11
  have BB := BA.ext e11
  refine enda_cons hA (law11 H hf (by walk_at "m_lv") (by walk_at "m_lv") (eB _ _ hr5) (hR5.ext eB) (by omega) hok hpl hPP fun σ12 e12 => ⟨rfl, ?_⟩)
  have eC := eB.trans e12
  have BC := BB.ext e12
  have FC : Facts σ5 σ12 nl rl fl hd pl (sp.map nmOf) ds rows items len fp pp := ⟨eC _ _ hn5, eC _ _ hfl5, eC _ _ hr5, hR5.ext eC, (hHA.ext e11).ext e12, e12 _ _ hpl, hPP.ext e12⟩
  exact c_law_b H hA hf BC FC hR5 hd0 hxl hrl4 hok hid (by walk_at "m_lv") (by walk_at "m_lv") (by walk_at "m_lv") (by walk_at "m_lv") (by walk_at "m_lv") last
end
set_option hygiene false
section
variable {G : Gd} {n : Nat} {σ : St} {Q : V → St → Prop}
abbrev excTup (rest : List Value) : Obj := { cls := .type "tuple", data := .seq rest.toArray }
abbrev exc0 (C : Addr) (a0 : Value) : Obj := { cls := .ref C, data := .fields #[a0, .none, .none, .none, .bool false, .none] }
abbrev bm67 : List Value := [.ref 54, .type "Exception", .type "BaseException", .type "object"]
theorem at67 (H : Pr G) {h : Heap} (S : ∀ b o, G.hT.get? b = some o → h.get? b = some o) :
    h.get? 67 = some (excClassObj "FilterFault" "FilterFault" 67 66 [.ref 54] bm67 true [] [] false none none (some (.ref 58)) none (some (.str (Str.ofString "FilterFault") 252)) (some (.str (Str.ofString "FilterFault") 260)) (some (.bool true)) "Exception.__new__") :=
  S _ _ (H.at (o := k67) (by kernel_rfl))
section
variable {A : Around} {R : Result → Shared → Prop} {h : Heap} {g : Array GenState} {d : Drawn} {t : Nat} {os : OsState}
theorem exc_new67 (H : Pr G) (S : ∀ b o, G.hT.get? b = some o → h.get? b = some o) {rest : List Value}
    (hq : R (.ok (.ret (.ref (h.objs.size + 1)))) ⟨(h.push (excTup rest)).push (exc0 67 (.ref h.objs.size)), g, d, t, os⟩) (hrest : rest.length ≤ sizeLine) :
    codeAny (model G.prog G.w) A (.builtin "Exception.__new__" ⟨.ref 67 :: rest, []⟩) R ⟨h, g, d, t, os⟩ := by
  have F := PySem.F.excBase_Exception
  have hC := at67 H S
  have hends := F.ends
  have hcB : (Value.ref 67 :: bm67).contains (.type "Exception") = true := by decide +kernel
  have hcA : (Value.ref 67 :: bm67).contains (.type "AttributeError") = false := by decide +kernel
  have hcN : (Value.ref 67 :: bm67).contains (.type "NameError") = false := by decide +kernel
  refine codeAny_builtinAt F.entry ?_
  unfold Builtin.«BaseException.__new__»
  refine PySem.wpAt_bind ?_
  show PySem.wpAt _ _ _ (stack >>= _) _ _ _
  refine PySem.wpAt_bind (PySem.wpAt_stack fun p below => PySem.wpAt_of_wpAny ?_)
  wp_walk
  refine PySem.wpAt_of_wpAny ?_
  rw [F.owner]
  repeat (first | with_reducible refine wpAny_madeHere_exc F.canon hC ?_ | with_reducible refine wpAny_loadPart_at hC ?_ | (with_reducible refine wpAny_isSubtype_exc hC ?_; first | rw [hcB] | rw [hcA] | rw [hcN]) | wp_step)
  show R _ _
  rw [Heap.size_push]
  exact hq
theorem exc_check67 (H : Pr G) (S : ∀ b o, G.hT.get? b = some o → h.get? b = some o) {M : Model} {E : Value → Shared → Prop} {rest : List Value} {P : Unit → Shared → Prop} (hq : P () ⟨h, g, d, t, os⟩) :
    wpAny M A (checkBuiltinCall "Exception.__new__" ⟨.ref 67 :: rest, []⟩) P E ⟨h, g, d, t, os⟩ := by
  have F := PySem.F.excBase_Exception
  have hC := at67 H S
  have hcont : (Value.ref 67 :: bm67).contains (.type "Exception") = true := by decide +kernel
  have hstar := F.noStar
  simp only [checkBuiltinCall, F.newKind, F.newSplit, F.newRow]
  repeat (first | refine wpAny_loadPart_at hC ?_ | (refine wpAny_isSubtype_exc hC ?_; rw [hcont]) | refine wpAny_staticBase_exc hC ?_ | refine wpAny_madeBy_exc hC ?_ | simp only [bne_self_eq_false, Bool.false_eq_true, if_false] | wp_step)
  exact hq
theorem exc_core (H : Pr G) (S : ∀ b o, G.hT.get? b = some o → h.get? b = some o) {rest : List Value} (hrest : rest.length ≤ sizeLine)
    (hq : codeAny (model G.prog G.w) (A.under (.builtin "type.__call__" ⟨.ref 67 :: rest, []⟩)) (.call (.ref 44) ⟨.ref (h.objs.size + 1) :: rest, []⟩) (InitBack (h.objs.size + 1) R) ⟨(h.push (excTup rest)).push (exc0 67 (.ref h.objs.size)), g, d, t, os⟩) :
    codeAny (model G.prog G.w) A (.call (.ref 67) ⟨rest, []⟩) R ⟨h, g, d, t, os⟩ := by
  have hC := at67 H S
  have X : G.K.In h := G.X.keeps S
  refine codeAny_of_tree ?_
  show wpAny _ _ (callAny (.ref 67) _) _ _ _
  refine nd_load hC ?_
  show wpAny _ _ (callAny.viaDunder (.ref 67) _) _ _ _
  unfold callAny.viaDunder
  have call : Looks (model G.prog G.w) h (specialOf (.ref 67) "__call__") (some (.builtin "type.__call__")) := looks_specialIn X (by rw [H.k]; kernel_rfl)
  have typ : Looks (model G.prog G.w) h (isInstance (.ref 67) (.type "type")) true := looks_instIn X (by rw [H.k]; kernel_rfl)
  refine wpAny_bind (call.at ?_)
  dsimp only
  rw [tc_bind]
  refine wpAny_bind (wpAny_pure (wpAny_bind (wpAny_pure ?_)))
  refine wpAny_pure (a := Fin.again (.call (.builtin "type.__call__") ⟨.ref 67 :: rest, []⟩)) (And.intro rfl ?_)
  refine codeAny_call_builtin_at (Code.quiet_builtin _ (by decide +kernel)) entry_typeCall (check_slot tc_kind tc_split typ (tc_args _ _ _) ?_)
  unfold Builtin.«type.__call__»
  have hm : Looks (model G.prog G.w) h (mroOf (.ref 67)) (.ref 67 :: bm67) := (looks_clsIn (cd := { name := "FilterFault", bases := [.ref 54], mro := .ref 67 :: bm67, ns := 66, qualname := "FilterFault", hasDict := true, slotNames := [], subclasses := [], abstract := false, collection := none, hasDel := false }) X (by rw [H.k]; kernel_rfl)).andThen .now
  have made : Looks (model G.prog G.w) h (Bind.madeBy (.ref 67)) (some "Exception.__new__") := fun A Q E s k q => by
    obtain ⟨h', g', d', t', os'⟩ := s
    exact wpAny_madeBy_exc (k _ _ hC) q
  repeat (first | simp only [Bool.false_eq_true, if_false, List.isEmpty_cons] | with_reducible refine wpAny_call ?_ | lk)
  refine codeAny_call_builtin_code (Code.quiet_builtin _ PySem.F.excBase_Exception.quiet) (exc_check67 H S ?_)
  refine exc_new67 H S ?_ hrest
  have k : ∀ b o, h.get? b = some o → ((h.push (excTup rest)).push (exc0 67 (.ref h.objs.size))).get? b = some o := fun b o e => Heap.get?_push_of_some _ (Heap.get?_push_of_some _ e)
  have hx : ((h.push (excTup rest)).push (exc0 67 (.ref h.objs.size))).get? (h.objs.size + 1) = some (exc0 67 (.ref h.objs.size)) := by heap_get
  have t1 : Looks (model G.prog G.w) ((h.push (excTup rest)).push (exc0 67 (.ref h.objs.size))) (typeOf (.ref (h.objs.size + 1))) (.ref 67) := (Looks.ld hx).andThen .now
  have s1 : Looks (model G.prog G.w) ((h.push (excTup rest)).push (exc0 67 (.ref h.objs.size))) (isSubtype (.ref 67) (.ref 67)) true := looks_subIn (X.keeps k) (by rw [H.k]; kernel_rfl)
  have i1 : Looks (model G.prog G.w) ((h.push (excTup rest)).push (exc0 67 (.ref h.objs.size))) (typeLookup (.ref 67) "__init__") (some (.ref 44)) := looks_findIn (X.keeps k) (by rw [H.k]; kernel_rfl)
  have b1 := bind_fn (M := model G.prog G.w) (X.keeps k) (f := 44) (.ref (h.objs.size + 1)) (by rw [H.k]; kernel_rfl)
  show wpAny _ _ _ _ _ _
  unfold isInstance callSpecial? specialOf
  repeat (first | with_reducible refine wpAny_call ?_ | lk)
  refine codeAny_mono hq fun r s' z => ?_
  rcases r with e | (v | _ | _ | _) <;> first | exact z | exact z.elim | skip
  obtain ⟨rfl, z⟩ := z
  exact wpAny_pure (wpAny_pure z)
end
noncomputable def e_paper_init (L : Addr) : Env := callEnv (fdOf k44) L 44
theorem in_paper_init (H : Pr G) {a0 a1 : V} (h : ∀ L, FnEnv (e_paper_init L) → Ex G n (e_paper_init L) (lvOf [("at", .int (-1)), ("what", a1), ("self", a0)]) σ (execs (fbody (meth 5 0)) (e_paper_init L)) fun r _ σ' => Q (retOf r) σ') : CodeV G (n + 1) σ (.ref 44) [a0, a1] Q :=
  code_topD H (o := k44) (st := meth 5 0) (binds := fun vs => (["self", "what"] : List Str).zip vs ++ ([(("at" : Str), Value.int (-1) 225)] : List (Str × Value))) (bindsV := [("self", a0), ("what", a1), ("at", .int (-1))]) (by kernel_rfl) (by kernel_rfl) (by kernel_rfl) (by kernel_rfl)
    (fun vs hv => by
      have hl := hv.length
      obtain ⟨y0, y1, rfl⟩ := len2 hl.symm
      cases hv with
      | cons h0 hv =>
      cases hv with
      | cons h1 _ =>
      refine ⟨fun s hs => BindsTo.of_defaults (T := 37) (o := k37) (items := #[.int (-1) 225]) (n := 0) (by kernel_rfl) (hs _ _ (H.at (by kernel_rfl))) (by kernel_rfl) rfl rfl, ?_⟩
      exact .cons ⟨rfl, h0⟩ (.cons ⟨rfl, h1⟩ (.cons ⟨rfl, .int _ _⟩ .nil)))
    (by kernel_rfl) (by kernel_rfl) (by kernel_rfl) (by kernel_rfl) (by kernel_rfl) fun L => h L (fn_callEnv L 44 (by kernel_rfl) (by kernel_rfl) (by kernel_rfl))
theorem call_exc67 (H : Pr G) {args : List V} (hl : args.length ≤ 5) (h : ∀ e, σ e = none → CodeV G n (σ.set e (.exc 67 none true)) (.ref 44) (.ref e :: args) fun v σ' => v = .none ∧ Q (.ref e) σ') : CallV G (n + 1) σ (.ref 67) args Q := by
  intro fv vs hf hvs; refine .mk fun A s Φ E hA hS _ k => ?_
  obtain rfl := VR.ref_ hf
  refine wpAny_call ?_
  obtain ⟨hh, g, d, t, os⟩ := s
  have e1 := hvs.length
  refine exc_core H hS.top (by rw [sizeLine_eq]; omega) ?_
  dsimp only at hS
  have hS₁ : Sit G σ (hh.push (excTup vs)) := hS.grow fun b o e => Heap.get?_push_of_some _ e
  have hS₂ := hS₁.alloc (o := .exc 67 none true) (ob := exc0 67 (.ref hh.objs.size)) (.exc rfl rfl rfl fun _ => ⟨_, rfl⟩) rfl
  rw [Heap.size_push] at hS₂
  have k1 : Keep σ (σ.set (hh.objs.size + 1) (.exc 67 none true)) hh ((hh.push (excTup vs)).push (exc0 67 (.ref hh.objs.size))) := by
    have a : Keep σ σ hh (hh.push (excTup vs)) := Keep.grow fun b o e => Heap.get?_push_of_some _ e
    have b : Keep σ (σ.set (hh.push (excTup vs)).objs.size (.exc 67 none true)) (hh.push (excTup vs)) ((hh.push (excTup vs)).push (exc0 67 (.ref hh.objs.size))) := Keep.alloc
    rw [Heap.size_push] at b
    exact a.trans b
  refine h (hh.objs.size + 1) (hS.noneOf (get_none_of_size (Nat.le_succ _))) _ _ (.ref 44) (.cons (.ref _) hvs) _ ⟨_, g, d, t, os⟩ _ (room_under hA) hS₂ fun v x h' tk σ' hv hS' hK hq => ?_
  obtain ⟨rfl, hq⟩ := hq
  obtain rfl := VR.none_ hv
  exact ⟨rfl, k (.ref _) (.ref _) h' tk σ' (.ref _) hS' (k1.trans hK) hq⟩
end
set_option hygiene false
section
variable {G : Gd} {n : Nat} {σ : St} {env : Env} {lv : Lv} {Q : V → St → Prop}
noncomputable def GetT (G : Gd) (σ : St) (o : V) (name : Str) (f : V) (first : List V) : Prop := ∀ x pl, VR o x → ∃ fx fs, VR f fx ∧ Paired VR first fs ∧
  ∀ (A : Around) (s : Shared) (Φ : Value × List Value → Shared → Prop) (E : Value → Shared → Prop), Sit G σ s.heap → (∀ tk, Φ (fx, fs) { s with toks := tk }) → wpAny (model G.prog G.w) A (getMethod x name pl) Φ E s
theorem ev_metht {o : Expr} {name : Str} {es : List Expr} {apos pos : Pos} {Q : V → St → Prop}
    (h : Ev G n env lv σ o fun ov σ₁ => ∃ f first, GetT G σ₁ ov name f first ∧ Evs G n env lv σ₁ es fun vs σ₂ => Kp G f ∧ CallV G n σ₂ f (first ++ vs) Q)
    (hbase : attributeBase o name env (eval o env) = eval o env := by rfl)
    (hline : (apos.endLine == pos.line) = true := by rfl)
    (ht : backTo pos (starEach es env) = es.map (fun e => (false, eval e env)) := by rfl)
    (hlen : decide (es.length < 30) = true := by rfl) : Ev G n env lv σ (.Call (.Attribute o name apos) es [] pos) Q := by
  have he : eval (.Call (.Attribute o name apos) es [] pos) env = (do
    let ov ← attributeBase o name env (eval o env)
    standAt apos.atName
    methodCall o name apos pos env ov (es.length + ([] : List Keyword).length) (backTo pos (starEach es env)) (backToKw pos (keywordEach [] env))) := rfl
  refine Run.of_eq he ?_
  rw [hbase, ht]
  refine Run.bind (stable_env _ _ _) (h.mono fun ov σ₁ h₁ x hx => Run.standAt ?_)
  obtain ⟨f, first, hg, hv⟩ := h₁
  have hform : methodCallForm (es.length + ([] : List Keyword).length) (es.map fun e => (false, eval e env)) (backToKw pos (keywordEach [] env)) = true := by
    unfold methodCallForm
    have h1 : ((es.map fun e => (false, eval e env)).all fun x => !x.1) = true := by
      rw [List.all_eq_true]; intro x hx; obtain ⟨e, _, rfl⟩ := List.mem_map.mp hx; simp
    have h2 := of_decide_eq_true hlen
    rw [h1]
    show (true && true && decide (es.length + 0 + 0 < 30)) = true
    simpa using h2
  have hpos : methodCallPos true o env apos pos = pure pos := by unfold methodCallPos; simp [hline]
  unfold methodCall
  rw [hform]
  refine .mk fun A s Φ E hA hS hP k => ?_
  obtain ⟨fx, fs, hfx, hfs, hgm⟩ := hg x (do return (← importBound o env).getD true) hx
  refine wpAny_bind (wpAny_holding (hgm A s _ E hS fun tk => ?_))
  refine wpAny_bind (wpAny_of_eq hpos ?_)
  exact callWith_run hfx hfs hv A { s with toks := tk } Φ E hA hS hP k
theorem getm_exc_init (H : Pr G) : GetT G σ (.typ "Exception") "__init__" (.blt "Exception.__init__") [] := by
  intro x pl hx; obtain rfl := VR.typ_ hx
  refine ⟨_, [], .blt _, .nil, fun A s Φ E hS k => ?_⟩
  have X := hS.kin
  have hstub : opaqueClassAbove (.type "Exception") = pure none := by unfold opaqueClassAbove; dsimp only; rw [show Manifest.isStub "Exception" = false by decide +kernel]; rfl
  have L0 : Looks (model G.prog G.w) s.heap (typeOf (.type "Exception")) (.type "type") := Looks.of_pure (by kernel_rfl)
  have hg : findIn G.K (.type "type") "__getattribute__" = some (some (.builtin "type.__getattribute__")) := type_tga
  unfold getMethod specialOf
  refine wpAny_bind (wpAny_bind (L0.here ((looks_findIn X hg).here ?_)))
  dsimp only
  rw [if_pos canon_tga]
  refine wpAny_bind (wpAny_mono (Q := fun v => Φ (v, [])) (E := E) ?_ (fun _ _ z => wpAny_pure z) fun _ _ z => z)
  refine cls_open (r := .val (.builtin "Exception.__init__")) X (Looks.of_pure hstub) L0 hg (looks_hook X (r := none) (by rfl)) (by show subIn G.K _ _ = _; rfl) (by rw [H.k]; kernel_rfl)
    (wpAny_pure (by show wpAny _ _ (handedOut (.builtin "Exception.__init__")) _ _ _; rw [handedOut_of (by kernel_rfl)]; exact wpAny_pure (k _)))
section
variable {A : Around} {E : Value → Shared → Prop} {h : Heap} {g : Array GenState} {d : Drawn} {t : Nat} {os : OsState}
theorem exc_checkInit67 (H : Pr G) (S : ∀ b o, G.hT.get? b = some o → h.get? b = some o) {M : Model} {e : Addr} {oe : Obj} {rest : List Value} {P : Unit → Shared → Prop} (he : h.get? e = some oe) (hcls : oe.cls = .ref 67) (hq : P () ⟨h, g, d, t, os⟩) :
    wpAny M A (checkBuiltinCall "Exception.__init__" ⟨.ref e :: rest, []⟩) P E ⟨h, g, d, t, os⟩ := by
  have F := PySem.F.excBase_Exception
  have hC := at67 H S
  have hcB : (Value.ref 67 :: bm67).contains (.type "Exception") = true := by decide +kernel
  have hshort := F.noStar
  simp only [checkBuiltinCall, F.initKind, F.initSplit, F.initRow]
  repeat (first | (with_reducible refine wpAny_loadPart_at he ?_; rw [hcls]) | with_reducible refine wpAny_loadPart_at hC ?_ | (with_reducible refine wpAny_isSubtype_exc hC ?_; rw [hcB]) | wp_step)
  refine wpAny_onRaise ?_
  rw [show ∀ (a b : String) (n : Nat), Bind.check ⟨.positional, "*", "Exception", .self, [⟨"args", .varPos, false⟩]⟩ a b n (List.map (fun x => x.fst) ({ pos := Value.ref e :: rest } : Args).kw) = pure () from
    fun a b n => check_star_args _ _ _ _ _ _]
  exact wpAny_pure hq
end
theorem call_exc_init (H : Pr G) {e : Addr} {v : V} (he : σ e = some (.exc 67 none true)) (h : Q .none (σ.set e (.exc 67 none true))) : CallV G n σ (.blt "Exception.__init__") [.ref e, v] Q := by
  intro fv vs hf hvs; obtain rfl := VR.blt_ hf
  cases hvs with
  | cons h0 hvs =>
  cases hvs with
  | cons h1 hvs =>
  cases hvs
  obtain rfl := VR.ref_ h0
  rename_i y
  refine .mk fun A s Φ E hA hS _ k => ?_
  obtain ⟨ob, ho, r⟩ := hS.st e _ he
  obtain ⟨hc, hd, _, hv, hf⟩ := r.exc_
  obtain ⟨a0, rfl⟩ := hf rfl
  have F := PySem.F.excBase_Exception
  have h1' : Sit G σ (s.heap.push { cls := .type "tuple", data := .seq #[y] }) := hS.grow fun b o e => Heap.get?_push_of_some _ e
  have he₁ := Heap.get?_push_of_some (h := s.heap) { cls := .type "tuple", data := .seq #[y] } ho
  obtain ⟨hh, g, d, t, os⟩ := s
  refine wpAny_call (codeAny_call_builtin F.init.plain F.initEntry (exc_checkInit67 H hS.top ho rfl ?_))
  unfold Builtin.«BaseException.__init__»
  dsimp only
  rw [if_neg (by simp)]
  unfold newTuple Builtin.BaseException.bexcPut
  refine wpAny_bind (wpAny_newObj_type (wpAny_bind (wpAny_bind (wpAny_field he₁ rfl rfl (wpAny_bind (wpAny_setField he₁ rfl (show 0 < 6 by decide) ?_))))) (by size_fits))
  have fin : ∀ {P : Unit → Shared → Prop} {E' : Value → Shared → Prop} {s' : Shared}, P () s' → wpAny (model G.prog G.w) A.in1 (match a0 with | .ref _ => letGo [a0] | _ => pure ()) P E' s' := by
    intro P E' s' hp
    cases a0 <;> first | exact wpAny_letGo hp | exact wpAny_pure hp
  refine fin (wpAny_pure ?_)
  refine k .none .none _ _ (σ.set e (.exc 67 none true)) .none (h1'.put he (Heap.get?_update_self _ he₁ rfl) (.exc rfl rfl rfl fun _ => ⟨_, rfl⟩) fun b x hb hx => ?_) (Keep.put he fun b x hb hx => ?_) h
  · rw [Heap.get?_update_other _ _ (Ne.symm hb)]; exact hx
  · rw [Heap.get?_update_other _ _ (Ne.symm hb)]; exact Heap.get?_push_of_some _ hx
end
set_option hygiene false
section
open PySem.Builtin.ObjectAttr
variable {G : Gd} {n : Nat} {σ : St} {env : Env} {lv : Lv} {Q : V → St → Prop}
theorem g_Exception (H : Pg G) : G.glob "Exception" (.typ "Exception") := H.globB (y := .type "Exception") (by kernel_rfl) (.typ _) (by kernel_rfl) (by decide)
theorem exc_inst {h : Heap} {x d : Addr} {fr : Bool} {es : List (Str × V)} {ep : Nat} (S : Sit G σ h) (hx : σ x = some (.exc 67 (some d) fr)) (hd : σ d = some (.sdict es ep)) :
    ∃ ob od kvs, InstAt h x ob 67 (some od) ∧ ob.dict = some d ∧ (∃ ws, ob.data = .fields ws) ∧ h.get? d = some od ∧ IsDictE (strKind G.prog G.w) od kvs ep ∧ Paired KV es kvs := by
  obtain ⟨ob, h1, r1⟩ := S.st x _ hx
  obtain ⟨od, h2, r2⟩ := S.st d _ hd
  obtain ⟨hc, hd', _, hv, hf⟩ := r1.exc_
  cases r2 with
  | sdict hdd hp =>
    refine ⟨ob, od, _, ⟨h1, hc, ?_, ?_⟩, hd', ⟨_, hv⟩, h2, hdd, hp⟩
    · unfold notCls; rw [hv]
    · rw [hd']; exact h2
theorem attr_exc (H : Pr G) {x d : Addr} {fr : Bool} {es : List (Str × V)} {ep : Nat} {name : Str} {v : V} (hx : σ x = some (.exc 67 (some d) fr)) (hd : σ d = some (.sdict es ep)) (hv : vat es name = some v) (hp : v.plain = true)
    (ha : findIn G.K (.ref 67) name = some none) (h : Q v σ) : AttrV G n σ (.ref x) name Q := by
  intro ox hox; cases hox
  refine .mk fun A s Φ E _ hS _ k => ?_
  obtain ⟨ob, od, kvs, I, _, _, _, hdd, hpp⟩ := exc_inst hS hx hd
  obtain ⟨r, h1, h2⟩ := look_in hdd hpp name
  rw [hv] at h2
  cases h2 with
  | some hr =>
  rename_i y
  have hh : handedIn y = true := by cases hr <;> first | rfl | cases hp
  obtain ⟨hh', g, d', t, os⟩ := s
  have X : G.K.In hh' := hS.kin
  have hfin := k v y hh' (t + 1) σ hr hS (Keep.refl _ _) h
  have L0 : Looks (model G.prog G.w) hh' (typeOf (.ref x)) (.ref 67) := I.type
  have L1 : Looks (model G.prog G.w) hh' (typeLookup (.ref 67) "__getattribute__") (some (.builtin "BaseException.__getattribute__")) := looks_findIn X (by rw [H.k]; kernel_rfl)
  have L2 : Looks (model G.prog G.w) hh' (typeLookup (.ref 67) "__getattr__") none := looks_findIn X (by rw [H.k]; kernel_rfl)
  have LF := looks_find (M := model G.prog G.w) X I (findObj_own (by rw [H.k]; kernel_rfl) ha rfl h1)
  have LS : Looks (model G.prog G.w) hh' (isInstance (.ref x) (.type "BaseException")) true := L0.andThen (looks_subIn X (by rw [H.k]; kernel_rfl))
  have hb := PySem.F.attr_Exception.ga.bind (.ref x)
  have hk : builtinKind "BaseException.__getattribute__" = some .slot := by decide +kernel
  have hsplit : splitId "BaseException.__getattribute__" = some ("BaseException", "__getattribute__") := by decide +kernel
  have hx2 : (Value.builtin "BaseException.__getattribute__" == Value.builtin "object.__getattribute__") = false := by decide +kernel
  unfold getAttr
  refine wpAny_bind (wpAny_mkText ?_)
  unfold getAttrBy
  refine wpAny_holding (wpAny_bind (L0.at (wpAny_bind (L1.at ?_))))
  dsimp only
  rw [hx2, Bool.and_false, if_neg Bool.false_ne_true]
  unfold getAttrByItsOwn hookBefore
  rw [if_pos (show onTheHeap (.ref 67) = true from rfl)]
  refine wpAny_bind (L2.at (wpAny_bind (wpAny_attempt (wpAny_holding ?_))))
  unfold callGetattribute
  rw [show (true && onTheHeap (Value.builtin "BaseException.__getattribute__")) = false from rfl, if_neg Bool.false_ne_true]
  unfold boundAndCalled
  rw [hb]
  refine wpAny_bind (wpAny_pure ?_)
  show wpAny _ _ (call (.builtin "BaseException.__getattribute__") [.ref x, .str name t]) _ _ _
  have hargs := PySem.F.args_bexc_ga (.ref x) (.str name t)
  refine wpAny_call (codeAny_call_builtin PySem.F.attr_Exception.ga.plain PySem.F.entry_bexc_ga ?_)
  have hchk : ∀ {Q' : Unit → Shared → Prop} {E' : Value → Shared → Prop} {s' : Shared}, s'.heap = hh' → Q' () s' → wpAny (model G.prog G.w) A.in1 (checkBuiltinCall "BaseException.__getattribute__" ⟨[.ref x, .str name t], []⟩) Q' E' s' := by
    intro Q' E' s' he hq
    obtain ⟨h2, g2, d2, t2, os2⟩ := s'
    dsimp only at he
    subst he
    have c1 := @check_slot (model G.prog G.w) A.in1 E' ⟨h2, g2, d2, t2, os2⟩ "BaseException.__getattribute__" "BaseException" "__getattribute__" (.ref x) [.str name t] [] Q' hk
    have c2 := c1 hsplit
    have c3 := c2 LS
    have c4 := c3 hargs
    exact c4 hq
  refine hchk rfl ?_
  clear hk hsplit LS hargs hchk
  unfold Builtin.«object.__getattribute__»
  repeat (any_goals (first | assumption | lk))
  show wpAny _ _ (handedOut y) _ _ _
  rw [handedOut_of hh]
  exact wpAny_pure hfin
theorem store_tail {A : Around} {s : Shared} {Φ : Fin → Shared → Prop} {E : Value → Shared → Prop} {d : Addr} {es : List (Str × V)} {ep : Nat} {name : Str} {v : V} {y : Value} {tk0 : Tok} (hS : Sit G σ s.heap) (hd : σ d = some (.sdict es ep)) (hv : vat es name = none)
    (hz : es.length ≤ 1000) (hy : VR v y) (k : ∀ h' tk, Sit G (σ.set d (.sdict (es ++ [(name, v)]) (ep + 1))) h' → Keep σ (σ.set d (.sdict (es ++ [(name, v)]) (ep + 1))) s.heap h' → Φ (.done (.ret .none)) { s with heap := h', toks := tk }) :
    wpAny (model G.prog G.w) A (storeInDict d (.str name tk0) name y) Φ E s := by
  obtain ⟨od, hod, r⟩ := hS.st d _ hd
  cases r with
  | sdict hdd hpp =>
  rename_i kvs
  have hvn : valueAt kvs name = none := by
    have := vat_ok hpp name; rw [hv] at this; generalize valueAt kvs name = q at this; cases this; rfl
  unfold storeInDict newKeyGuard
  refine wpAny_bind (wpAny_pure (wpAny_bind ?_))
  unfold nsSet
  refine wpAny_bind (wpAny_bind (wpAny_askSetting (wpAny_pure (wpAny_bind (wpAny_mkText (wpAny_bind (wpAny_loadPart hod ?_)))))))
  have hput := put_new (w := G.w) hdd hvn s.toks y
  obtain ⟨es', hc', hdat, hk, hp', hnd⟩ := hdd
  rw [hdat]
  dsimp only
  rw [aRefKeyMayBeTheName_at, show es'.any (·.refKey) = false by rw [← Array.any_toList]; exact refKey_no hk, Bool.and_false]
  refine wpAny_updatePart hod ?_
  have hfr : (Obj.putName name (PySem.PyData.keyHash G.w.params name) (.str name s.toks) y od).isFreed = false := by
    obtain ⟨e2, _, h2, _⟩ := hput; exact Obj.isFreed_of_dict h2
  have hupd : (s.heap.update d (Obj.putName name (PySem.PyData.keyHash G.w.params name) (.str name s.toks) y)).get? d = some (Obj.putName name (PySem.PyData.keyHash G.w.params name) (.str name s.toks) y od) := Heap.get?_update_self _ hod hfr
  have hsame : Heap.SameBut d s.heap (s.heap.update d (Obj.putName name (PySem.PyData.keyHash G.w.params name) (.str name s.toks) y)) := Heap.SameBut.update ..
  refine wpAny_bind (wpAny_lookBehind hupd ?_ ?_)
  · obtain ⟨e2, _, h2, _, hp2, _⟩ := hput
    rw [h2]
    refine pastItsLine_dict ?_
    have e3 := hp2.length
    have e4 := hpp.length
    rw [Array.length_toList, List.length_append, List.length_singleton] at e3
    rw [sizeLine_eq]; omega
  · exact wpAny_pure (k _ _ (hS.put hd hupd (.sdict hput (paired_append hpp (.cons ⟨rfl, hy⟩ .nil))) (keep_but hsame)) (Keep.put hd (keep_but hsame)))
theorem osa67 (H : Pr G) {A : Around} {s : Shared} {R : Result → Shared → Prop} {x : Addr} {ob : Obj} {od : Option Obj} {name : Str} {tk : Tok} {y : Value} (S : ∀ b o, G.hT.get? b = some o → s.heap.get? b = some o) (I : InstAt s.heap x ob 67 od)
    (ha : findIn G.K (.ref 67) name = some none)
    (h : wpAny (model G.prog G.w) A.in1 (storeInOwnDict (.ref x) (.ref 67) (.str name tk) name y false)
      (fun fin s' => match fin with | .done f => R (.ok f) s' | .again c' => c'.quiet = true ∧ codeAny (model G.prog G.w) A c' R s') (fun e s' => R (.error e) s') s) :
    codeAny (model G.prog G.w) A (.call (.builtin "object.__setattr__") ⟨[.ref x, .str name tk, y], []⟩) R s := by
  have SF := PySem.F.store_object
  have X : G.K.In s.heap := G.X.keeps S
  have sub : Looks (model G.prog G.w) s.heap (isInstance (.ref x) (.type "object")) true := I.type.andThen (looks_subIn X (by rw [H.k]; kernel_rfl))
  have hm : Looks (model G.prog G.w) s.heap (mroOf (.ref 67)) (.ref 67 :: bm67) := (looks_clsIn (cd := { name := "FilterFault", bases := [.ref 54], mro := .ref 67 :: bm67, ns := 66, qualname := "FilterFault", hasDict := true, slotNames := [], subclasses := [], abstract := false, collection := none, hasDel := false }) X (by rw [H.k]; kernel_rfl)).andThen .now
  have L2 : Looks (model G.prog G.w) s.heap (typeLookup (.ref 67) name) none := looks_findIn X ha
  have c1 := @check_slot (model G.prog G.w) A.in1 (fun e s' => R (.error e) s') s "object.__setattr__" "object" "__setattr__" (.ref x) [.str name tk, y] []
    (fun _ s₁ => wpAny (model G.prog G.w) A.in1 (Builtin.«object.__setattr__» ⟨[.ref x, .str name tk, y], []⟩) (fun fin s' => match fin with | .done f => R (.ok f) s' | .again c' => c'.quiet = true ∧ codeAny (model G.prog G.w) A c' R s') (fun e s' => R (.error e) s') s₁) SF.kind SF.split
  have c2 := c1 sub (SF.args (.ref x) (.str name tk) y)
  refine codeAny_call_builtin SF.slot.plain SF.entry (c2 ?_)
  rw [osa_eq, refuse_eq]
  refine wpAny_bind (wpAny_bind (I.type.here (wpAny_bind (hm.here ?_))))
  rw [refuseLoop_ref, refuseLoop_ref, PySem.F.store_Exception.passes]
  exact wpAny_pure (wpAny_bind (I.type.here (wpAny_bind (L2.here (wpAny_bind (wpAny_pure h))))))
theorem set_exc2 (H : Pr G) {x d : Addr} {es : List (Str × V)} {ep : Nat} {name : Str} {v : V} {P : St → Prop} (hx : σ x = some (.exc 67 (some d) true)) (hd : σ d = some (.sdict es ep)) (hv : vat es name = none) (hz : es.length ≤ 1000)
    (ha : findIn G.K (.ref 67) name = some none) (h : P (σ.set d (.sdict (es ++ [(name, v)]) (ep + 1)))) : SetA G n σ (.ref x) name v P := by
  intro ox y hox hy; cases hox
  refine .mk fun A s Φ E _ hS _ k => ?_
  obtain ⟨ob, od, kvs, I, hdict, _, hod, _, _⟩ := exc_inst hS hx hd
  refine set_plain hS.kin I (by rw [H.k]; kernel_rfl) ?_
  refine osa67 H (s := { s with toks := s.toks + 1 }) hS.top I ha ?_
  have hlk := looks_clsIn (M := model G.prog G.w) (cd := { name := "FilterFault", bases := [.ref 54], mro := .ref 67 :: bm67, ns := 66, qualname := "FilterFault", hasDict := true, slotNames := [], subclasses := [], abstract := false, collection := none, hasDel := false }) (C := 67) hS.kin (by rw [H.k]; kernel_rfl)
  obtain ⟨oc, odi, oda, osl⟩ := ob
  have hcls : oc = .ref 67 := I.cls
  dsimp only at hdict
  subst hcls hdict
  unfold storeInOwnDict
  refine wpAny_bind (wpAny_pure (wpAny_bind (wpAny_bind (wpAny_loadPart I.at_ (wpAny_bind (Looks.here (s := { s with toks := s.toks + 1 }) hlk ?_))))))
  refine wpAny_pure (a := some d) ?_
  refine store_tail (s := { s with toks := s.toks + 1 }) hS hd hv hz hy fun h' tk hS' hK' => ?_
  exact k () () h' tk _ trivial hS' hK' h
theorem set_exc1 (H : Pr G) {x : Addr} {name : Str} {v : V} {P : St → Prop} (hx : σ x = some (.exc 67 none true))
    (ha : findIn G.K (.ref 67) name = some none) (h : ∀ d, σ d = none → P (((σ.set d (.sdict [] 0)).set x (.exc 67 (some d) true)).set d (.sdict [(name, v)] 1))) : SetA G n σ (.ref x) name v P := by
  intro ox y hox hy; cases hox
  refine .mk fun A s Φ E _ hS _ k => ?_
  obtain ⟨ob, hob, r⟩ := hS.st x _ hx
  obtain ⟨hc, hd', _, hvv, hf⟩ := r.exc_
  obtain ⟨a0, rfl⟩ := hf rfl
  have I : InstAt s.heap x { cls := .ref 67, dict := none, data := .fields #[a0, .none, .none, .none, .bool false, .none] } 67 none := ⟨hob, rfl, rfl, trivial⟩
  refine set_plain hS.kin I (by rw [H.k]; kernel_rfl) ?_
  refine osa67 H (s := { s with toks := s.toks + 1 }) hS.top I ha ?_
  have hlk := looks_clsIn (M := model G.prog G.w) (cd := { name := "FilterFault", bases := [.ref 54], mro := .ref 67 :: bm67, ns := 66, qualname := "FilterFault", hasDict := true, slotNames := [], subclasses := [], abstract := false, collection := none, hasDel := false }) (C := 67) hS.kin (by rw [H.k]; kernel_rfl)
  unfold storeInOwnDict
  refine wpAny_bind (wpAny_pure (wpAny_bind (wpAny_bind (wpAny_loadPart I.at_ (wpAny_bind (Looks.here (s := { s with toks := s.toks + 1 }) hlk ?_))))))
  have hx₁ := Heap.get?_push_of_some (h := s.heap) { cls := .type "dict", data := .dict #[] } hob
  refine wpAny_bind (wpAny_alloc (wpAny_bind (wpAny_update hx₁ (wpAny_pure ?_))))
  have hS₁ : Sit G (σ.set s.heap.objs.size (.sdict [] 0)) (s.heap.push { cls := .type "dict", data := .dict #[] }) :=
    hS.alloc (.sdict (kvs := []) ⟨#[], ⟨rfl, rfl, rfl⟩, rfl, fun _ he => by simp at he, Pairs.nil, List.nodup_nil⟩ .nil) rfl
  have hne : x ≠ s.heap.objs.size := Nat.ne_of_lt (Heap.lt_size hob)
  have hx2 : (σ.set s.heap.objs.size (.sdict [] 0)) x = some (.exc 67 none true) := by rw [St.set_ne _ _ hne]; exact hx
  have hs2 : ∀ b o, b ≠ x → (s.heap.push { cls := .type "dict", data := .dict #[] }).get? b = some o → ((s.heap.push { cls := .type "dict", data := .dict #[] }).update x fun o => { o with dict := some s.heap.objs.size }).get? b = some o :=
    fun b o hb e => by rw [Heap.get?_update_other _ _ (Ne.symm hb)]; exact e
  have hS₂ := hS₁.put (o' := .exc 67 (some s.heap.objs.size) true) hx2 (Heap.get?_update_self (fun o => { o with dict := some s.heap.objs.size }) hx₁ rfl) (.exc rfl rfl rfl fun _ => ⟨_, rfl⟩) hs2
  have hK₂ : Keep σ ((σ.set s.heap.objs.size (.sdict [] 0)).set x (.exc 67 (some s.heap.objs.size) true)) s.heap _ := Keep.alloc.trans (Keep.put hx2 hs2)
  refine store_tail (tk0 := s.toks) hS₂ (by rw [St.set_ne _ _ (Ne.symm hne)]; exact St.set_same _ _ _) rfl (by decide) hy fun h' tk hS' hK' => ?_
  exact k () () h' tk _ trivial hS' (hK₂.trans hK') (h _ hS.fresh)
end
set_option hygiene false
section
variable {G : Gd} {n : Nat} {σ : St} {env : Env} {lv : Lv} {Q : V → St → Prop}
theorem c_init67 (H : Pr G) {e : Addr} {v : V} (he : σ e = some (.exc 67 none true))
    (h : ∀ d σ', σ d = none → (∀ b o, b ≠ e → σ b = some o → σ' b = some o) → σ' e = some (.exc 67 (some d) true) → σ' d = some (.sdict [("what", v), ("at", .int (-1))] 2) → Q .none σ') : CodeV G (n + 1) σ (.ref 44) [.ref e, v] Q := by
  refine in_paper_init H fun L hf => ?_
  refine ex_cons (ex_expr (ev_metht ?_))
  refine ev_glob hf (by kernel_rfl) (g_Exception H.toPg) ?_
  refine ⟨_, _, getm_exc_init H, ?_⟩
  walk_at "m"
  refine call_exc_init H he ⟨rfl, ?_⟩
  walk_at "m"
  refine set_exc1 H (St.set_same _ _ _) (by rw [H.k]; kernel_rfl) fun d hd => ?_
  have hne : d ≠ e := fun q => by rw [q, St.set_same] at hd; cases hd
  have hd0 : σ d = none := by rw [St.set_ne _ _ hne] at hd; exact hd
  walk_at "m"
  refine set_exc2 H (d := d) (by rw [St.set_ne _ _ (Ne.symm hne)]; exact St.set_same _ _ _) (St.set_same _ _ _) (by kernel_rfl) (show 1 ≤ 1000 by decide) (by rw [H.k]; kernel_rfl) ?_
  walk_at "m"
  refine h d _ hd0 (fun b o hb hbo => ?_) ?_ (St.set_same _ _ _)
  · have hbd : b ≠ d := fun q => by rw [q, hd0] at hbo; cases hbo
    rw [St.set_ne _ _ hbd, St.set_ne _ _ hbd, St.set_ne _ _ hb, St.set_ne _ _ hbd, St.set_ne _ _ hb]; exact hbo
  · rw [St.set_ne _ _ (Ne.symm hne), St.set_ne _ _ (Ne.symm hne)]; exact St.set_same _ _ _
theorem c_fault (H : Pr G) {v : V} (h : ∀ e d σ', Ext σ σ' → σ e = none → σ d = none → e ≠ d → σ' e = some (.exc 67 (some d) true) → σ' d = some (.sdict [("what", v), ("at", .int (-1))] 2) → Q (.ref e) σ') : CallV G (n + 2) σ (.ref 67) [v] Q := by
  refine call_exc67 H (by simp) fun e he => ?_
  refine c_init67 H (St.set_same _ _ _) fun d σ' hd k1 k2 k3 => ⟨rfl, ?_⟩
  have hne : d ≠ e := fun q => by rw [q, St.set_same] at hd; cases hd
  have hd0 : σ d = none := by rw [St.set_ne _ _ hne] at hd; exact hd
  refine h e d σ' (fun b o hbo => ?_) he hd0 (Ne.symm hne) k2 k3
  have hbe : b ≠ e := fun q => by rw [q, he] at hbo; cases hbo
  exact k1 b o hbe (by rw [St.set_ne _ _ hbe]; exact hbo)
end
set_option hygiene false
section
variable {G : Gd} {σ σ' : St} {l : List Env} {fs : List Addr} {x : Option Value} {h h₁ h₂ : Heap} {e d : Addr}
abbrev fra (l : List Env) : List Addr := l.filterMap (·.frame)
abbrev oH : Heap := {}
theorem oH_none (b : Addr) : oH.get? b = none := Heap.get?_none_of_le (Nat.zero_le _)
theorem dict_mapFields (o : Obj) (f : Array Value → Array Value) : (o.mapFields f).dict = o.dict := by
  obtain ⟨c, dd, dt, sl⟩ := o; cases dt <;> rfl
/-- what an exception in flight bears of the frames that it left -/
noncomputable def Tb (G : Gd) (σ' : St) (h : Heap) (e d : Addr) (h' : Heap) (x : Option Value) : Prop :=
  ∃ oe vs, h'.get? e = some oe ∧ oe.cls = .ref 67 ∧ oe.dict = some d ∧ oe.data = .fields vs ∧ 1 < vs.size ∧ match x with
    | none => vs[1]? = some .none
    | some y => ∃ T oT ts, vs[1]? = some (.ref T) ∧ σ' T = none ∧ G.hT.get? T = none ∧ h.get? T = none ∧ T ≠ e ∧ h'.get? T = some oT ∧ oT.data = .fields ts ∧ ts[3]? = some y
structure Raised (G : Gd) (σ σ' : St) (l : List Env) (fs : List Addr) (x : Option Value) (h : Heap) (e d : Addr) (h' : Heap) : Prop where
  new1 : σ e = none
  new2 : h.get? e = none
  nfs : ∀ b ∈ fs, b ≠ e
  ext : Ext σ σ'
  sit : Sit G σ' h'
  exc : σ' e = some (.exc 67 (some d) false)
  dic : ∃ w, σ' d = some (.sdict [("what", w), ("at", .int (-1))] 2)
  keepA : ∀ b o, h.get? b = some o → σ b = none → b ∉ fra l → h'.get? b = some o ∧ σ' b = none
  keepF : ∀ b o, h.get? b = some o → b ∈ fs → ∃ sl, h'.get? b = some { o with slots := sl }
  fr : h'.FunFrames oH l
  off : ∀ b ∈ fra l, σ' b = none ∧ G.hT.get? b = none
  tb : Tb G σ' h e d h' x
theorem Raised.move (R : Raised G σ σ' l fs x h e d h₁) {x' : Option Value} {P : Addr → Prop} (hP : ∀ T, P T → σ' T = none ∧ G.hT.get? T = none ∧ h.get? T = none ∧ ∃ o vs, h₁.get? T = some o ∧ o.data = .fields vs)
    (m : ∀ b o, h₁.get? b = some o → b ≠ e → ¬ P b → ∃ sl, h₂.get? b = some { o with slots := sl } ∧ (b ∉ fra l → sl = o.slots)) (tb : Tb G σ' h e d h₂ x') : Raised G σ σ' l fs x' h e d h₂ := by
  have same : ∀ b o, h₁.get? b = some o → b ≠ e → ¬ P b → b ∉ fra l → h₂.get? b = some o := fun b o e1 e2 e3 e4 => by
    obtain ⟨sl, k1, k2⟩ := m b o e1 e2 e3
    rw [k2 e4] at k1; exact k1
  have notT : ∀ b o, G.hT.get? b = some o → b ≠ e ∧ ¬ P b ∧ b ∉ fra l := fun b o q =>
    ⟨(fun z => by subst z; have := R.sit.offAt R.exc; rw [q] at this; cases this), (fun z => by have := (hP b z).2.1; rw [q] at this; cases this), (fun z => by have := (R.off b z).2; rw [q] at this; cases this)⟩
  refine ⟨R.new1, R.new2, R.nfs, R.ext, ⟨fun b o q => ?_, R.sit.off, fun a o q => ?_, R.sit.sm⟩, R.exc, R.dic, fun b o e1 e2 e3 => ?_, fun b o e1 e2 => ?_, ?_, R.off, tb⟩
  · obtain ⟨n1, n2, n3⟩ := notT b o q
    exact same b o (R.sit.top b o q) n1 n2 n3
  · by_cases ha : a = e
    · subst ha
      rw [R.exc] at q; cases q
      obtain ⟨oe, vs, t1, t2, t3, t4, _⟩ := tb
      exact ⟨oe, t1, .exc t2 t3 t4 (fun z => by cases z)⟩
    · obtain ⟨ob, o1, o2⟩ := R.sit.st a o q
      refine ⟨ob, same a ob o1 ha (fun z => ?_) (fun z => ?_), o2⟩
      · have := (hP a z).1; rw [q] at this; cases this
      · have := (R.off a z).1; rw [q] at this; cases this
  · have k := R.keepA b o e1 e2 e3
    refine ⟨same b o k.1 (fun z => ?_) (fun z => ?_) e3, k.2⟩
    · subst z; rw [R.new2] at e1; cases e1
    · have := (hP b z).2.2.1; rw [e1] at this; cases this
  · obtain ⟨sl, k⟩ := R.keepF b o e1 e2
    obtain ⟨sl', k', _⟩ := m b _ k (R.nfs b e2) (fun z => by have := (hP b z).2.2.1; rw [e1] at this; cases this)
    exact ⟨sl', k'⟩
  · obtain ⟨oe, vs, t1, t2, t3, t4, _⟩ := R.tb
    refine R.fr.of_keeps fun b o hb hnf => ?_
    obtain ⟨sl, k, _⟩ := m b o hb (fun z => by subst z; rw [t1] at hb; cases hb; exact hnf _ t4) (fun z => by
      obtain ⟨_, _, _, ob, ws, g1, g2⟩ := hP b z
      rw [g1] at hb; cases hb; exact hnf _ g2)
    exact ⟨_, k, rfl⟩
end
section
variable {M : Model} {A : Around} {E : Value → Shared → Prop} {s : Shared} {G : Gd} {σ σ' : St} {fs : List Addr} {x : Option Value} {h : Heap} {e d L : Addr} {env : Env} {outer : List Env} {Q : Unit → Shared → Prop}
theorem Raised.clear {l : List Env} {y : Value} (R : Raised G σ σ' l fs (some y) h e d s.heap) (k : ∀ h', Raised G σ σ' l fs (some .none) h e d h' → Q () { s with heap := h' }) :
    wpAny M A (setFlight (.ref e) none) Q E s := by
  obtain ⟨oe, vs, t1, t2, t3, t4, t5, T, oT, ts, u1, u2, u3, u4, u5, u6, u7, u8⟩ := id R.tb
  have hsz : 3 < ts.size := (Array.getElem?_eq_some_iff.mp u8).1
  unfold setFlight
  refine wpAny_bind (wpAny_field t1 t4 u1 ?_)
  rw [if_pos (show (Value.ref T != Value.none) = true from by simp)]
  refine wpAny_setField u6 u7 hsz (k _ ?_)
  have other : ∀ b, b ≠ T → (s.heap.update T (Obj.mapFields (·.setIfInBounds 3 ((none : Option Addr).elim Value.none fun f => rawInt f)))).get? b = s.heap.get? b := fun b hb => Heap.get?_update_other _ _ (Ne.symm hb)
  refine R.move (P := fun b => b = T) (fun b hb => by subst hb; exact ⟨u2, u3, u4, oT, ts, u6, u7⟩) (fun b o e1 _ e3 => ⟨o.slots, (other b e3).trans e1, fun _ => rfl⟩) ?_
  exact ⟨oe, vs, (other e (Ne.symm u5)).trans t1, t2, t3, t4, t5, T, _, _, u1, u2, u3, u4, u5, Heap.get?_update_self _ u6 (Obj.isFreed_of_fields (Obj.data_mapFields u7 _)), Obj.data_mapFields u7 _, by simp [hsz]⟩
theorem Raised.entry {head : Value} {hn : Bool} {x' : Option Value} (hfr : A.frames = some (env :: outer)) (hf : env.frame = some L) (R : Raised G σ σ' (env :: outer) fs x' h e d s.heap)
    (k : ∀ h', Raised G σ σ' (env :: outer) fs (some (rawInt L)) h e d h' → Q () { s with heap := h' }) :
    wpAny M A (do let a ← frameOf env; let pl ← entryPlaceOf L hn; let b ← EntryCells.newEntry head a .none (rawInt L) .none pl; setField (.ref e) 1 b) Q E s := by
  obtain ⟨oe, vs, t1, t2, t3, t4, t5, _⟩ := id R.tb
  have hee : e ∉ fra (env :: outer) := fun hm => by have := (R.off e hm).1; rw [R.exc] at this; cases this
  refine wpAny_bind (wpAny_frameOf_fun hfr R.fr hf fun h₁ hs₁ => ?_)
  obtain ⟨z1, z2, z3⟩ := hs₁
  refine wpAny_bind (wpAny_entryPlaceOf fun pl hpl => ?_)
  unfold EntryCells.newEntry newFields
  refine wpAny_bind (wpAny_newObj_type ?_ (hpl.sizeOk5 _ _ _ _ _))
  have e1 : h₁.get? e = some oe := (z2 e hee).trans t1
  have e2 := Heap.get?_push_of_some (h := h₁) { cls := .type "traceback", dict := none, data := .fields ([head, .ref L, .none, rawInt L, .none] ++ (if pl.isEmpty then List.replicate 6 Value.none else pl)).toArray } e1
  refine wpAny_setField e2 t4 t5 (k _ ?_)
  have hTe : h₁.objs.size ≠ e := Nat.ne_of_gt (Heap.lt_size e1)
  have d3 := Obj.data_mapFields t4 (·.setIfInBounds 1 (Value.ref h₁.objs.size))
  have e3 := Heap.get?_update_self (Obj.mapFields (·.setIfInBounds 1 (Value.ref h₁.objs.size))) e2 (Obj.isFreed_of_fields d3)
  have T3 := (Heap.get?_update_other (h₁.push { cls := .type "traceback", dict := none, data := .fields ([head, .ref L, .none, rawInt L, .none] ++ (if pl.isEmpty then List.replicate 6 Value.none else pl)).toArray })
    (Obj.mapFields (·.setIfInBounds 1 (Value.ref h₁.objs.size))) (Ne.symm hTe)).trans (Heap.get?_push_size h₁ rfl)
  have nn : ∀ b : Addr, s.heap.objs.size ≤ b → s.heap.get? b = none := fun b hb => get_none_of_size hb
  have hsz : s.heap.objs.size ≤ h₁.objs.size := Nat.le_of_eq z1.symm
  refine R.move (P := fun _ => False) (fun _ hb => hb.elim) (fun b o q1 q2 _ => ?_) ?_
  · have keep : ∀ o', h₁.get? b = some o' → ((h₁.push { cls := .type "traceback", dict := none, data := .fields ([head, .ref L, .none, rawInt L, .none] ++ (if pl.isEmpty then List.replicate 6 Value.none else pl)).toArray }).update e (Obj.mapFields (·.setIfInBounds 1 (Value.ref h₁.objs.size)))).get? b = some o' :=
      fun o' hb => by rw [Heap.get?_update_other _ _ (Ne.symm q2)]; exact Heap.get?_push_of_some _ hb
    by_cases hm : b ∈ fra (env :: outer)
    · obtain ⟨sl, hs⟩ := z3 b o q1
      exact ⟨sl, keep _ hs, fun z => (z hm).elim⟩
    · exact ⟨o.slots, keep o ((z2 b hm).trans q1), fun _ => rfl⟩
  · refine ⟨_, _, e3, (Obj.cls_mapFields _ _).trans t2, (dict_mapFields _ _).trans t3, d3, by simpa using t5, h₁.objs.size, _, _, by simp [t5], ?_, ?_, ?_, hTe, T3, rfl, by first | (simp; done) | (rcases hpl with rfl | ⟨_, _, _, _, _, _, _, rfl⟩ <;> simp)⟩
    · cases q : σ' h₁.objs.size with
      | none => rfl
      | some o' => exact absurd (R.sit.lt q) (Nat.not_lt.mpr hsz)
    · cases q : G.hT.get? h₁.objs.size with
      | none => rfl
      | some o' => exact absurd (Heap.lt_size (R.sit.top _ _ q)) (Nat.not_lt.mpr hsz)
    · cases q : h.get? h₁.objs.size with
      | none => rfl
      | some o' =>
        have big : ∀ o'', s.heap.get? h₁.objs.size = some o'' → False := fun o'' z => absurd (Heap.lt_size z) (Nat.not_lt.mpr hsz)
        cases q2 : σ h₁.objs.size with
        | some o2 => exact absurd (R.sit.lt (R.ext _ _ q2)) (Nat.not_lt.mpr hsz)
        | none =>
          by_cases hm : h₁.objs.size ∈ fra (env :: outer)
          · obtain ⟨_, o3, g3, _⟩ := R.fr.mem hm
            exact (big _ g3).elim
          · exact (big _ (R.keepA _ _ q q2 hm).1).elim
theorem Raised.set3 {l : List Env} {y v : Value} {T : Addr} {oT : Obj} {ts : Array Value} (R : Raised G σ σ' l fs (some y) h e d s.heap) (hT : ∃ oe vs, s.heap.get? e = some oe ∧ oe.data = .fields vs ∧ vs[1]? = some (.ref T)) (gT : s.heap.get? T = some oT) (dT : oT.data = .fields ts)
    (k : ∀ h', Raised G σ σ' l fs (some v) h e d h' → Q () { s with heap := h' }) : wpAny M A (setField (.ref T) 3 v) Q E s := by
  obtain ⟨oe, vs, t1, t2, t3, t4, t5, T', oT', ts', u1, u2, u3, u4, u5, u6, u7, u8⟩ := id R.tb
  obtain ⟨oe', vs', w1, w2, w3⟩ := hT
  rw [t1] at w1; cases w1
  rw [t4] at w2; cases w2
  rw [u1] at w3; cases w3
  rw [u6] at gT; cases gT
  rw [u7] at dT; cases dT
  have hsz : 3 < ts.size := (Array.getElem?_eq_some_iff.mp u8).1
  refine wpAny_setField u6 u7 hsz (k _ ?_)
  have other : ∀ b, b ≠ T → (s.heap.update T (Obj.mapFields (·.setIfInBounds 3 v))).get? b = s.heap.get? b := fun b hb => Heap.get?_update_other _ _ (Ne.symm hb)
  refine R.move (P := fun b => b = T) (fun b hb => by subst hb; exact ⟨u2, u3, u4, oT, ts, u6, u7⟩) (fun b o e1 _ e3 => ⟨o.slots, (other b e3).trans e1, fun _ => rfl⟩) ?_
  exact ⟨oe, vs, (other e (Ne.symm u5)).trans t1, t2, t3, t4, t5, T, _, _, u1, u2, u3, u4, u5, Heap.get?_update_self _ u6 (Obj.isFreed_of_fields (Obj.data_mapFields u7 _)), Obj.data_mapFields u7 _, by simp [hsz]⟩
theorem Raised.note (hfr : A.frames = some (env :: outer)) (hf : env.frame = some L) (hx : x = none ∨ x = some .none) (R : Raised G σ σ' (env :: outer) fs x h e d s.heap)
    (k : ∀ h', Raised G σ σ' (env :: outer) fs (some .none) h e d h' → Q () { s with heap := h' }) : wpAny M A (noteFrame (.ref e) env) (fun _ s₂ => wpAny M A (setFlight (.ref e) none) Q E s₂) E s := by
  unfold noteFrame
  simp only [hf]
  rcases hx with rfl | rfl
  · obtain ⟨oe, vs, t1, t2, t3, t4, t5, t6⟩ := id R.tb
    refine wpAny_bind (wpAny_field t1 t4 t6 ?_)
    rw [if_neg (by decide)]
    exact R.entry hfr hf fun h' R' => R'.clear (s := { s with heap := h' }) k
  · obtain ⟨oe, vs, t1, t2, t3, t4, t5, T, oT, ts, u1, u2, u3, u4, u5, u6, u7, u8⟩ := id R.tb
    refine wpAny_bind (wpAny_field t1 t4 u1 ?_)
    rw [if_pos (show (Value.ref T != Value.none) = true from by simp)]
    refine wpAny_bind (wpAny_field u6 u7 u8 ?_)
    rw [if_neg (show ¬ ((Value.none == rawInt L) = true) from by simp [rawInt])]
    refine wpAny_bind (R.set3 (v := .none) ⟨oe, vs, t1, t4, u1⟩ u6 u7 fun h' R1 => ?_)
    exact R1.entry (s := { s with heap := h' }) hfr hf fun h'' R' => R'.clear (s := { s with heap := h'' }) k
theorem Raised.leave (hfr : A.frames = some (env :: outer)) (hf : env.frame = some L) (hx : x = none ∨ x = some .none) (R : Raised G σ σ' (env :: outer) fs x h e d s.heap)
    (k : ∀ h', Raised G σ σ' (env :: outer) fs (some .none) h e d h' → Q () { s with heap := h' }) : wpAny M A (leaving env (.ref e)) Q E s := by
  unfold leaving
  exact wpAny_bind (R.note hfr hf hx k)
end
set_option hygiene false
section
variable {G : Gd} {n : Nat} {A : Around} {σ σ' : St} {l outer : List Env} {fs : List Addr} {env : Env} {lv : Lv}
/-- the frames that stand below -/
structure Outs (G : Gd) (σ : St) (l : List Env) (h : Heap) : Prop where
  fr : h.FunFrames oH l
  off : ∀ b ∈ fra l, σ b = none ∧ G.hT.get? b = none
theorem funFrames_of {h h' : Heap} : ∀ {l : List Env}, (∀ b ∈ fra l, ∀ o, h.get? b = some o → (∀ vs, o.data ≠ .fields vs) → ∃ o', h'.get? b = some o' ∧ ∀ vs, o'.data ≠ .fields vs) → h.FunFrames oH l → h'.FunFrames oH l
  | [], _, _ => trivial
  | env :: l, k, ⟨hk, ⟨L, o, hf, hn, ho, hd⟩, hr⟩ => by
    have hm : L ∈ fra (env :: l) := by simp [fra, hf]
    obtain ⟨o', h1, h2⟩ := k L hm o ho hd
    refine ⟨hk, ⟨L, o', hf, hn, h1, h2⟩, funFrames_of (fun b hb => k b ?_) hr⟩
    unfold fra; rw [List.filterMap_cons, hf]; exact .tail _ hb
theorem Outs.keep {h h' : Heap} (O : Outs G σ l h) (k : Keep σ σ' h h') : Outs G σ' l h' :=
  ⟨funFrames_of (fun b hb o ho hd => ⟨o, (k b o ho (O.off b hb).1).1, hd⟩) O.fr, fun b hb => by
    obtain ⟨_, o, ho, _⟩ := O.fr.mem hb
    exact ⟨(k b o ho (O.off b hb).1).2, (O.off b hb).2⟩⟩
theorem Outs.keepC {h h' : Heap} {lv' : Lv} (O : Outs G σ l h) (k : KeepC env.locals σ σ' h h') (P : EnvAt G env lv' σ' h') : Outs G σ' l h' := by
  obtain ⟨⟨m, ⟨oL, es, ep, hL, hdL, _⟩, _⟩, off, hT⟩ := P
  refine ⟨funFrames_of (fun b hb o ho hd => ?_) O.fr, fun b hb => ?_⟩
  · by_cases q : b = env.locals
    · exact ⟨oL, q ▸ hL, fun vs z => by rw [hdL] at z; cases z⟩
    · exact ⟨o, (k b o q ho (O.off b hb).1).1, hd⟩
  · by_cases q : b = env.locals
    · exact ⟨q ▸ off, (O.off b hb).2⟩
    · obtain ⟨_, o, ho, _⟩ := O.fr.mem hb
      exact ⟨(k b o q ho (O.off b hb).1).2, (O.off b hb).2⟩
theorem Outs.grow {h h' : Heap} (O : Outs G σ l h) (k : ∀ b o, h.get? b = some o → h'.get? b = some o) : Outs G σ l h' :=
  ⟨funFrames_of (fun b _ o ho hd => ⟨o, k b o ho, hd⟩) O.fr, O.off⟩
/-- a tree that raises FilterFault -/
structure Rz {α : Type} (G : Gd) (n : Nat) (A : Around) (l : List Env) (fs : List Addr) (Pre : St → Heap → Prop) (σ : St) (t : Sem α) : Prop where
  run : ∀ (s : Shared) (Φ : α → Shared → Prop) (E : Value → Shared → Prop), Room A n → Sit G σ s.heap → Pre σ s.heap → Outs G σ l s.heap →
    (∀ e d σ' h' tk x, (x = none ∨ x = some .none) → Raised G σ σ' l fs x s.heap e d h' → E (.ref e) { s with heap := h', toks := tk }) → wpAny (model G.prog G.w) A t Φ E s
noncomputable def RzC (G : Gd) (n : Nat) (A : Around) (l : List Env) (σ : St) (f : V) (args : List V) : Prop := ∀ fv vs, VR f fv → Paired VR args vs → ∀ (s : Shared) (R : Result → Shared → Prop), Room A n → Sit G σ s.heap → Outs G σ l s.heap →
  (∀ e d σ' h' tk, Raised G σ σ' l (fra l) (some .none) s.heap e d h' → R (.error (.ref e)) { s with heap := h', toks := tk }) → codeAny (model G.prog G.w) A (.call fv ⟨vs, []⟩) R s
theorem Raised.after {σ₁ : St} {x : Option Value} {h h₁ h' : Heap} {e d : Addr} (R : Raised G σ₁ σ' l fs x h₁ e d h') (ex : Ext σ σ₁) (k : ∀ b o, h.get? b = some o → σ b = none → b ∉ fra l ∨ b ∈ fs → h₁.get? b = some o ∧ σ₁ b = none)
    (off : ∀ b ∈ fs, σ b = none) (hS : Sit G σ h) : Raised G σ σ' l fs x h e d h' := by
  have back : ∀ T, h₁.get? T = none → T ∉ fra l → σ T = none → h.get? T = none := fun T e1 e2 e3 => by
    cases q : h.get? T with
    | none => rfl
    | some o => have := (k T o q e3 (.inl e2)).1; rw [e1] at this; cases this
  have nz : ∀ T, σ' T = none → σ T = none := fun T hT => by
    cases q : σ T with
    | none => rfl
    | some o => have := R.ext _ _ (ex _ _ q); rw [hT] at this; cases this
  have n1 : σ e = none := ex.no R.new1
  have hef : e ∉ fra l := fun hm => by have := (R.off e hm).1; rw [R.exc] at this; cases this
  refine ⟨n1, back e R.new2 hef n1, R.nfs, ex.trans R.ext, R.sit, R.exc, R.dic, fun b o e1 e2 e3 => ?_, fun b o e1 e2 => ?_, R.fr, R.off, ?_⟩
  · have z := k b o e1 e2 (.inl e3)
    exact R.keepA b o z.1 z.2 e3
  · have z := k b o e1 (off b e2) (.inr e2)
    exact R.keepF b o z.1 e2
  · obtain ⟨oe, vs, t1, t2, t3, t4, t5, t6⟩ := R.tb
    refine ⟨oe, vs, t1, t2, t3, t4, t5, ?_⟩
    cases x with
    | none => exact t6
    | some y =>
      obtain ⟨T, oT, ts, u1, u2, u3, u4, u5, u6, u7, u8⟩ := t6
      have hTf : T ∉ fra l := fun hm => by
        obtain ⟨_, o3, g3, g4⟩ := R.fr.mem hm
        rw [u6] at g3; cases g3; exact g4 _ u7
      exact ⟨T, oT, ts, u1, u2, u3, back T u4 hTf (nz T u2), u5, u6, u7, u8⟩
section
variable {α β γ : Type} {Pre : St → Heap → Prop} {R : β → α → Prop}
theorem rz_bind {m : Sem α} {f : α → Sem γ} (hs : Stable Pre) (hfs : ∀ b ∈ fs, b ∈ fra l) (h : Run G n Pre R σ m fun b σ₁ => Ext σ σ₁ ∧ ∀ x, R b x → Rz G n A l fs Pre σ₁ (f x)) : Rz G n A l fs Pre σ (m >>= f) := by
  refine ⟨fun s Φ E hA hS hP hO k => wpAny_bind (h A s _ E hA hS hP fun b x h' tk σ₁ hr hS' hK hq => ?_)⟩
  refine (hq.2 x hr).run { s with heap := h', toks := tk } Φ E hA hS' (hs _ _ _ _ hP hK) (hO.keep hK) fun e d σ' h'' tk' x hx hR => ?_
  exact k e d σ' h'' tk' x hx (hR.after hq.1 (fun b o e1 e2 _ => hK b o e1 e2) (fun b hb => (hO.off b (hfs b hb)).1) hS)
theorem rz_first {m : Sem α} {f : α → Sem γ} (h : Rz G n A l fs Pre σ m) : Rz G n A l fs Pre σ (m >>= f) := ⟨fun s Φ E hA hS hP hO k => wpAny_bind (h.run s _ E hA hS hP hO k)⟩
theorem rz_standAt {m : Sem α} {pos : Pos} (h : Rz G n A l fs Pre σ m) : Rz G n A l fs Pre σ (standAt pos >>= fun _ => m) := ⟨fun s Φ E hA hS hP hO k => wpAny_bind (wpAny_standAt (h.run s Φ E hA hS hP hO k))⟩
theorem rz_eq {m m' : Sem α} (e : m = m') (h : Rz G n A l fs Pre σ m') : Rz G n A l fs Pre σ m := e ▸ h
end
theorem rz_cons {st : Stmt} {rest : List Stmt} (hfs : ∀ b ∈ fs, b ∈ fra l) (hne : env.locals ∉ fs) (hin : env.locals ∈ fra l) (h : Ex G n env lv σ (exec st env) fun f lv' σ₁ => f = .next ∧ Ext σ σ₁ ∧ Rz G n A l fs (EnvAt G env lv') σ₁ (execs rest env)) :
    Rz G n A l fs (EnvAt G env lv) σ (execs (st :: rest) env) := by
  refine rz_eq (execs_cons env st rest) ⟨fun s Φ E hA hS hP hO k => wpAny_bind (h A s _ E hA hS hP fun f x h' tk σ₁ lv' hr hS' hP' hK hq => ?_)⟩
  obtain ⟨rfl, ex, hq⟩ := hq
  cases hr
  refine hq.run { s with heap := h', toks := tk } Φ E hA hS' hP' (hO.keepC hK hP') fun e d σ' h'' tk' x hx hR => ?_
  refine k e d σ' h'' tk' x hx (hR.after ex (fun b o e1 e2 e3 => hK b o (fun q => ?_) e1 e2) (fun b hb => (hO.off b (hfs b hb)).1) hS)
  subst q
  rcases e3 with z | z
  · exact z hin
  · exact hne z
theorem rz_last {st : Stmt} {rest : List Stmt} (h : Rz G n A l fs (EnvAt G env lv) σ (exec st env)) : Rz G n A l fs (EnvAt G env lv) σ (execs (st :: rest) env) := rz_eq (execs_cons env st rest) (rz_first h)
theorem rz_if {test : Expr} {body orelse : List Stmt} {pos : Pos} (hfs : ∀ b ∈ fs, b ∈ fra l) (h : Ts G n env lv σ test fun b σ₁ => b = true ∧ Ext σ σ₁ ∧ Rz G n A l fs (EnvAt G env lv) σ₁ (execs body env)) : Rz G n A l fs (EnvAt G env lv) σ (exec (.If test body orelse pos) env) := by
  refine rz_eq (exec_If env test body orelse pos) (rz_standAt (rz_bind (stable_env _ _ _) hfs (h.mono fun b σ₁ hq => ⟨hq.2.1, fun x hx => ?_⟩)))
  subst hx
  obtain ⟨rfl, _, hq⟩ := hq
  simpa using hq
theorem rz_raise (H : Pr G) {ex : Expr} {pos : Pos} (hfs : ∀ b ∈ fs, b ∈ fra l)
    (h : Ev G n env lv σ ex fun v σ₁ => ∃ e d w, v = .ref e ∧ Ext σ σ₁ ∧ σ e = none ∧ σ₁ e = some (.exc 67 (some d) true) ∧ e ≠ d ∧ σ₁ d = some (.sdict [("what", w), ("at", .int (-1))] 2)) :
    Rz G n A l fs (EnvAt G env lv) σ (exec (.Raise (some ex) none pos) env) := by
  refine ⟨fun s Φ E hA hS hP hO k => ?_⟩
  show wpAny _ A (do standAt pos; raiseStmt env (some (do let v ← eval ex env; standAt pos; pure v)) none) Φ E s
  refine wpAny_bind (wpAny_standAt ?_)
  unfold raiseStmt
  dsimp only
  refine wpAny_bind (wpAny_bind (h A s _ E hA hS hP fun v x h' tk σ₁ hr hS' hK hq => wpAny_bind (wpAny_standAt (wpAny_pure ?_))))
  obtain ⟨e, d, w, rfl, ext, ne, q1, q2, q3⟩ := hq
  obtain rfl := VR.ref_ hr
  obtain ⟨ob, he, r⟩ := hS'.st e _ q1
  obtain ⟨hc, hd, _, hv, hf⟩ := r.exc_
  obtain ⟨a0, rfl⟩ := hf rfl
  have hC := at67 H hS'.top
  have hcB : (Value.ref 67 :: bm67).contains (.type "BaseException") = true := by decide +kernel
  have new2 : s.heap.get? e = none := by
    cases z : s.heap.get? e with
    | none => rfl
    | some o => have := (hK e o z ne).2; rw [q1] at this; cases this
  have hef : ∀ b ∈ fra l, b ≠ e := fun b hb z => by subst z; obtain ⟨_, o, ho, _⟩ := hO.fr.mem hb; rw [new2] at ho; cases ho
  have fin : E (.ref e) { s with heap := h', toks := tk } := by
    refine k e d (σ₁.set e (.exc 67 (some d) false)) h' tk none (.inl rfl) ⟨ne, new2, fun b hb => hef b (hfs b hb), fun b o hb => ?_, hS'.put q1 he (.exc rfl rfl rfl fun z => by cases z) (fun _ _ _ z => z), St.set_same _ _ _, ⟨w, ?_⟩, fun b o e1 e2 e3 => ?_, fun b o e1 e2 => ⟨o.slots, (hK b o e1 (hO.off b (hfs b e2)).1).1⟩, (hO.keep hK).fr, fun b hb => ?_, ?_⟩
    · rw [St.set_ne _ _ (fun z => by subst z; rw [ne] at hb; cases hb)]; exact ext b o hb
    · rw [St.set_ne _ _ (Ne.symm q2)]; exact q3
    · have z := hK b o e1 e2
      exact ⟨z.1, by rw [St.set_ne _ _ (fun q => by subst q; rw [new2] at e1; cases e1)]; exact z.2⟩
    · rw [St.set_ne _ _ (hef b hb)]; exact (hO.keep hK).off b hb
    · exact ⟨_, _, he, rfl, rfl, rfl, show 1 < 6 by decide, rfl⟩
  have hh := hA.hd
  clear k hS' hK hO hP hS h
  repeat (first | with_reducible refine wpAny_loadPart_at he ?_ | with_reducible refine wpAny_loadPart_at hC ?_ | (with_reducible refine wpAny_isSubtype_exc hC ?_; rw [hcB]) | wp_step)
  exact wpAny_raiseNew_none hh fin
end
set_option hygiene false
section
variable {G : Gd} {n : Nat} {A : Around} {σ σ' : St} {l outer : List Env} {fs : List Addr} {env : Env} {lv : Lv}
theorem Raised.down {x : Option Value} {h h₁ h' : Heap} {e d L : Addr} (R : Raised G σ σ' (env :: l) fs x h₁ e d h') (k : ∀ b o, h.get? b = some o → h₁.get? b = some o) (hf : env.frame = some L) (hL : h.get? L = none) : Raised G σ σ' l fs x h e d h' := by
  have back : ∀ T, h₁.get? T = none → h.get? T = none := fun T e1 => by
    cases q : h.get? T with
    | none => rfl
    | some o => have := k T o q; rw [e1] at this; cases this
  have sub : ∀ b, b ∈ fra l → b ∈ fra (env :: l) := fun b hb => by unfold fra; rw [List.filterMap_cons, hf]; exact .tail _ hb
  refine ⟨R.new1, back e R.new2, R.nfs, R.ext, R.sit, R.exc, R.dic, fun b o e1 e2 e3 => R.keepA b o (k b o e1) e2 fun hm => ?_, fun b o e1 e2 => R.keepF b o (k b o e1) e2, R.fr.2.2, fun b hb => R.off b (sub b hb), ?_⟩
  · unfold fra at hm; rw [List.filterMap_cons, hf] at hm
    rcases List.mem_cons.mp hm with z | z
    · rw [z, hL] at e1; cases e1
    · exact e3 z
  · obtain ⟨oe, vs, t1, t2, t3, t4, t5, t6⟩ := R.tb
    refine ⟨oe, vs, t1, t2, t3, t4, t5, ?_⟩
    cases x with
    | none => exact t6
    | some y =>
      obtain ⟨T, oT, ts, u1, u2, u3, u4, u5, u6, u7, u8⟩ := t6
      exact ⟨T, oT, ts, u1, u2, u3, back T u4, u5, u6, u7, u8⟩
theorem Outs.push {h : Heap} {L : Addr} {m : Str → Option Value} (O : Outs G σ l h) (hk : env.scope.kind ≠ .module) (hf : env.frame = some L) (hn : h.Ns L m) (h1 : σ L = none) (h2 : G.hT.get? L = none) : Outs G σ (env :: l) h :=
  ⟨Heap.FunFrames.cons hk hf hn (oH_none L) O.fr, fun b hb => by
    unfold fra at hb; rw [List.filterMap_cons, hf] at hb
    rcases List.mem_cons.mp hb with z | z
    · subst z; exact ⟨h1, h2⟩
    · exact O.off b z⟩
theorem rzc_top (H : Pr G) {f : Addr} {o : Obj} {st : Stmt} {names : List Str} {args : List V} (env : Addr → Env) (bl : List (Str × V)) (henv : env = fun L => callEnv (fdOf o) L f) (hbl : (names.zip args).reverse = bl)
    (ho : (K0 G.w.params).lookup f = some o) (hd : o.data = .func (fdOf o)) (hcd : codeIn (K0 G.w.params) (fdOf o).code (fdOf o).qualname = true) (hbody : (fdOf o).body = .stmts (fbody st))
    (hb : ∀ vs : List Value, vs.length = args.length → bindArgs (fdOf o) ⟨vs, []⟩ = pure (names.zip vs))
    (hloc : (names.all fun x => decide ((fdOf o).scope.names.lookup x = some .local)) = true) (hcell : ((fdOf o).scope.names.all fun x => decide (x.2 ≠ .cell)) = true)
    (hco : (fdOf o).scope.isCoroutine = false) (hgen : (fdOf o).scope.isGenerator = false) (hk : (fdOf o).scope.kind = .function) (hg1 : (fdOf o).globals = mainGlobals) (hg2 : (fdOf o).builtins = builtinsNs)
    (hfr : A.frames = some l)
    (h : ∀ L, L ∉ fra l → FnEnv (env L) → Rz G n (A.deeper (env L)) (env L :: l) (fra l) (EnvAt G (env L) (lvOf bl)) σ (execs (fbody st) (env L))) : RzC G (n + 1) A l σ (.ref f) args := by
  subst henv
  subst hbl
  intro fv vs hf hvs s R hA hS hO k
  obtain rfl := VR.ref_ hf
  have hp : Paired KV (names.zip args) (names.zip vs) := zip_paired hvs
  refine codeAny_call_def (by have := hA.dp; omega) (hS.top _ _ (H.at ho)) hd (G.T.nolimit.keeps hS.top) ((H.code hcd).keeps hS.top) hbody (BindsTo.of_eq (hb vs hvs.length.symm)) (fun x hx => of_decide_eq_true (List.all_eq_true.mp hcell _ hx))
    (fun x hx => of_decide_eq_true (List.all_eq_true.mp hloc _ (List.of_mem_zip hx).1)) (fun h₁ hn hk₁ => ?_) hco hgen hk
  have hS₁ : Sit G σ h₁ := hS.grow hk₁
  refine (h s.heap.objs.size (fun hm => by obtain ⟨_, o, ho, _⟩ := hO.fr.mem hm; exact absurd (Heap.lt_size ho) (Nat.lt_irrefl _)) ⟨hk, hg1, hg2⟩).run _ _ _ (room_deeper hA) hS₁ ⟨⟨_, hn, fun x v hv => lvOf_lookup (paired_rev hp) x v hv⟩, hS.fresh, Sit.hTfresh hS⟩ ((hO.grow hk₁).push (env := callEnv (fdOf o) s.heap.objs.size f) (by show (fdOf o).scope.kind ≠ .module; rw [hk]; decide) rfl hn hS.fresh (Sit.hTfresh hS)) fun e d σ' h' tk x hx hR => ?_
  refine hR.leave (s := ⟨h', s.gens, s.drawn, tk, s.os⟩) (env := callEnv (fdOf o) s.heap.objs.size f) (L := s.heap.objs.size) (Around.frames_deeper hfr) rfl hx fun h'' hR' => ?_
  exact k e d σ' h'' tk (hR'.down hk₁ rfl (get_none_of_size (Nat.le_refl _)))
theorem RzC.run {f : V} {args : List V} (h : RzC G n A l σ f args) {fv : Value} {vs : List Value} (hf : VR f fv) (hvs : Paired VR args vs) : Rz G n A l (fra l) Any σ (call fv vs []) :=
  ⟨fun s _ _ hA hS _ hO k => wpAny_call (h fv vs hf hvs s _ hA hS hO fun e d σ' h' tk R => k e d σ' h' tk _ (.inr rfl) R)⟩
theorem rz_call {f : Expr} {es : List Expr} {pos : Pos} (h : Ev G n env lv σ f fun fv σ₁ => Ext σ σ₁ ∧ Evs G n env lv σ₁ es fun vs σ₂ => Ext σ₁ σ₂ ∧ Kp G fv ∧ RzC G n A l σ₂ fv vs)
    (he : eval (.Call f es [] pos) env = (do callWith pos (← eval f env) [] (backTo pos (starEach es env)) (backToKw pos (keywordEach [] env))) := by rfl)
    (ht : backTo pos (starEach es env) = es.map (fun e => (false, eval e env)) := by rfl) : Rz G n A l (fra l) (EnvAt G env lv) σ (eval (.Call f es [] pos) env) := by
  refine rz_eq he ?_
  rw [ht, show backToKw pos (keywordEach [] env) = [] from rfl]
  refine rz_bind (stable_env _ _ _) (fun _ hb => hb) (h.mono fun fv σ₁ hq => ⟨hq.1, fun x hx => ?_⟩)
  refine ⟨fun s Φ E hA hS hP hO k => ?_⟩
  refine callWith_wp (hq.2 A s _ E hA hS hP fun vs xs h' tk σ₂ hr hS' hK hq2 => ?_)
  obtain ⟨ext, hkp, hc⟩ := hq2
  obtain ⟨kp, Lk⟩ := hkp x hx
  exact ⟨⟨kp, Lk.keeps hS'.top⟩, (hc.run hx hr).run _ _ E hA hS' trivial (hO.keep hK) fun e d σ' h'' tk' x hx hR => k e d σ' h'' tk' x hx (hR.after ext (fun b o e1 e2 _ => hK b o e1 e2) (fun b hb => (hO.off b hb).1) hS)⟩
/-! a lambda without parameters -/
theorem lam_raw {A : Around} {s : Shared} {R : Result → Shared → Prop} {f : Addr} {fo : Obj} {fd : FuncData} {body : Expr} (ho : s.heap.get? f = some fo) (hd : fo.data = .func fd) (hb : fd.body = .expr body) (hargs : bindArgs fd ⟨[], []⟩ = pure [])
    (hco : fd.scope.isCoroutine = false) (hgen : fd.scope.isGenerator = false) (hk : fd.scope.kind = .function) (hcell : ∀ x ∈ fd.scope.names, x.2 ≠ .cell) (hcd : s.heap.CodeRec fd.code fd.qualname) (hlim : s.heap.NoLimit) (hroom : A.depth < recursionLimit)
    (h : ∀ h₁, h₁.Ns s.heap.objs.size (fun _ => none) → (∀ b o, s.heap.get? b = some o → h₁.get? b = some o) → wpAny (model G.prog G.w) (A.deeper (callEnv fd s.heap.objs.size f)) (eval body (callEnv fd s.heap.objs.size f)) (fun v s' => R (.ok (.ret v)) s')
      (fun e s' => wpAny (model G.prog G.w) (A.deeper (callEnv fd s.heap.objs.size f)) (leaving (callEnv fd s.heap.objs.size f) e) (fun _ s'' => R (.error e) s'') (fun e' s'' => R (.error e') s'') s') { s with heap := h₁, toks := s.toks }) :
    codeAny (model G.prog G.w) A (.call (.ref f) ⟨[], []⟩) R s := by
  refine kla_callFunE hroom ho hd hco hgen hb hcd ?_
  rw [hargs]
  refine wpAny_pure (wpAny_newFunctionEnv hcell (by intro x hx; cases hx) (fun h₁ hns hsb => ⟨hlim.fresh _ hsb, ?_⟩) hk)
  exact kla_codeExpr (h h₁ hns fun b o e => hsb.extBut b o (Nat.ne_of_lt (Heap.lt_size e)) (Heap.get?_push_of_some _ e))
theorem code_lam {f : Addr} {fo : Obj} {fd : FuncData} {body : Expr} {Q : V → St → Prop} (ho : G.hT.get? f = some fo) (hd : fo.data = .func fd) (hb : fd.body = .expr body) (hargs : bindArgs fd ⟨[], []⟩ = pure [])
    (hco : fd.scope.isCoroutine = false) (hgen : fd.scope.isGenerator = false) (hk : fd.scope.kind = .function) (hcell : ∀ x ∈ fd.scope.names, x.2 ≠ .cell) (hcd : G.hT.CodeRec fd.code fd.qualname)
    (h : ∀ L, Ev G n (callEnv fd L f) noV σ body Q) : CodeV G (n + 1) σ (.ref f) [] Q := by
  intro fv vs hf hvs A s R hA hS k
  obtain rfl := VR.ref_ hf
  cases hvs
  refine lam_raw (hS.top _ _ ho) hd hb hargs hco hgen hk hcell (hcd.keeps hS.top) (G.T.nolimit.keeps hS.top) (by have := hA.dp; omega) fun h₁ hn hk₁ => ?_
  refine h s.heap.objs.size (A.deeper _) _ _ _ (room_deeper hA) (hS.grow hk₁) ⟨⟨_, hn, fun x v hv => by cases hv⟩, hS.fresh, Sit.hTfresh hS⟩ fun v x h' tk σ' hr hS' hK hq => ?_
  exact k v x h' tk σ' hr hS' (fun b o e nn => hK b o (hk₁ b o e) nn) hq
theorem rzc_lam {f : Addr} {fo : Obj} {fd : FuncData} {body : Expr} (ho : G.hT.get? f = some fo) (hd : fo.data = .func fd) (hb : fd.body = .expr body) (hargs : bindArgs fd ⟨[], []⟩ = pure [])
    (hco : fd.scope.isCoroutine = false) (hgen : fd.scope.isGenerator = false) (hk : fd.scope.kind = .function) (hcell : ∀ x ∈ fd.scope.names, x.2 ≠ .cell) (hcd : G.hT.CodeRec fd.code fd.qualname) (hfr : A.frames = some l)
    (h : ∀ L, Rz G n (A.deeper (callEnv fd L f)) (callEnv fd L f :: l) (fra (callEnv fd L f :: l)) (EnvAt G (callEnv fd L f) noV) σ (eval body (callEnv fd L f))) : RzC G (n + 1) A l σ (.ref f) [] := by
  intro fv vs hf hvs s R hA hS hO k
  obtain rfl := VR.ref_ hf
  cases hvs
  refine lam_raw (hS.top _ _ ho) hd hb hargs hco hgen hk hcell (hcd.keeps hS.top) (G.T.nolimit.keeps hS.top) (by have := hA.dp; omega) fun h₁ hn hk₁ => ?_
  have sub : ∀ b, b ∈ fra l → b ∈ fra (callEnv fd s.heap.objs.size f :: l) := fun b hb => .tail _ hb
  refine (h s.heap.objs.size).run _ _ _ (room_deeper hA) (hS.grow hk₁) ⟨⟨_, hn, fun x v hv => by cases hv⟩, hS.fresh, Sit.hTfresh hS⟩ ((hO.grow hk₁).push (env := callEnv fd s.heap.objs.size f) (by show fd.scope.kind ≠ .module; rw [hk]; decide) rfl hn hS.fresh (Sit.hTfresh hS)) fun e d σ' h' tk x hx hR => ?_
  have hR2 : Raised G σ σ' (callEnv fd s.heap.objs.size f :: l) (fra l) x h₁ e d h' := { hR with nfs := fun b hb => hR.nfs b (sub b hb), keepF := fun b o e1 e2 => hR.keepF b o e1 (sub b e2) }
  refine hR2.leave (s := ⟨h', s.gens, s.drawn, tk, s.os⟩) (env := callEnv fd s.heap.objs.size f) (L := s.heap.objs.size) (Around.frames_deeper hfr) rfl hx fun h'' hR' => ?_
  exact k e d σ' h'' tk (hR'.down hk₁ rfl (get_none_of_size (Nat.le_refl _)))
end
set_option hygiene false
section
variable {G : Gd} {n : Nat} {A : Around} {σ σ' : St} {l outer : List Env} {fs : List Addr} {env : Env} {lv : Lv} {Q : V → St → Prop}
theorem g_bool (H : Pg G) : G.glob "bool" (.typ "bool") := H.globB (y := .type "bool") (by kernel_rfl) (.typ _) (by kernel_rfl) (by decide)
noncomputable def V.isB : V → Bool
  | .bool _ => true
  | _ => false
theorem isi_bool {v : V} (hv : (∃ b, v = .bool b) ∨ (∃ i, v = .int i) ∨ (∃ x, v = .str x) ∨ ∃ q xs, v = .ref q ∧ G.look σ q = some (.list xs)) (h : Q (.bool v.isB) σ) : CallV G n σ (.blt "isinstance") [v, .typ "bool"] Q := by
  intro fv vs hf hvs
  obtain ⟨_, _, rfl, h1, h2⟩ := pair2 hvs
  obtain rfl := VR.blt_ hf; obtain rfl := VR.typ_ h2
  refine .mk fun A s Φ E _ hS _ k => ?_
  have kk : ∀ tk, Φ (.bool v.isB) { s with toks := tk } := fun tk => k (.bool _) _ s.heap tk σ (.bool _) hS (Keep.refl _ _) h
  rcases hv with ⟨b, rfl⟩ | ⟨i, rfl⟩ | ⟨x, rfl⟩ | ⟨q, xs, rfl, hl⟩
  · obtain rfl := VR.bool_ h1; exact IsiPair.bool_bool (kk s.toks)
  · obtain ⟨_, rfl⟩ := VR.int_ h1; exact IsiPair.int_bool (kk _)
  · obtain ⟨_, rfl⟩ := VR.str_ h1; exact IsiPair.str_bool (kk _)
  · obtain rfl := VR.ref_ h1
    obtain ⟨us, c, h1, _⟩ := list_at hS hl
    exact IsiPair.list_bool h1 rfl (kk _)
theorem c_early_none (H : Pr G) {D : Addr} {es : List (Str × V)} {ep : Nat} (hd : σ D = some (.sdict es ep)) (hv : (vat es "EarlyChange").getD .none = .none) (h : Q (.int 1) σ) : CodeV G (n + 1) σ (.ref 261) [.ref D] Q := by
  refine in_early_of H fun L hf => ?_
  walk_at "m"
  refine ⟨_, _, getm_get (.inl ⟨_, _, hd⟩), ?_⟩
  walk_at "m"
  refine call_get1 hd ?_
  rw [hv]
  walk_at "m"
  rw [show (V.none).isNone = true from rfl]
  walk_at "m"
  exact h
theorem c_early_num (H : Pr G) {D : Addr} {ep : Nat} {i : Int} (hd : σ D = some (.sdict [("EarlyChange", .int i)] ep)) (hi : i = 0 ∨ i = 1) (h : ∀ σ', Ext σ σ' → Q (.int i) σ') : CodeV G (n + 3) σ (.ref 261) [.ref D] Q := by
  have gb := g_bool H.toPg
  refine in_early_of H fun L hf => ?_
  walk_at "m"
  refine ⟨_, _, getm_get (.inl ⟨_, _, hd⟩), ?_⟩
  walk_at "m"
  refine call_get1 hd ?_
  rw [show (vat [(("EarlyChange" : Str), V.int i)] "EarlyChange").getD .none = .int i from rfl]
  walk_at "m"
  rw [show (V.int i).isNone = false from rfl]
  walk_at "m"
  refine ev_glob hf (by kernel_rfl) gb ?_
  walk_at "m"
  refine isi_bool (.inr (.inl ⟨_, rfl⟩)) ?_
  rw [show (V.int i).isB = false from rfl]
  walk_at "m"
  refine ⟨sz (by simp), fun t ht => ?_⟩
  have x1 : Ext σ (σ.set t (.tuple [.int 0, .int 1])) := (Ext.refl _).more ht
  refine cmp_notin_slim (by omega) (Gd.look_of (St.set_same _ _ _)) trivial (by intro y hy; simp at hy; rcases hy with rfl | rfl <;> simp) ?_
  rw [show (![V.int 0, .int 1].any (eqToV (.int i))) = false by rcases hi with rfl | rfl <;> rfl]
  walk_at "m"
  exact h _ x1
noncomputable def ifBody (st : Stmt) (i : Nat) : List Stmt := (sP ((fbody st)[i]?.getD (.Pass ⟨0, 0, 0, 0⟩))).1
theorem rz_early (H : Pr G) {D : Addr} {ep : Nat} {v : V} (hd : σ D = some (.sdict [("EarlyChange", v)] ep)) (hb : BadV σ v) (hfr : A.frames = some l) : RzC G (n + 5) A l σ (.ref 261) [.ref D] := by
  have gb := g_bool H.toPg
  have vp : v.plain = true := by rcases hb with rfl | rfl | rfl | rfl | ⟨q, rfl, _⟩ <;> rfl
  have vn : v.isNone = false := by rcases hb with rfl | rfl | rfl | rfl | ⟨q, rfl, _⟩ <;> rfl
  refine rzc_top H (o := k261) (st := top 38) (names := ["parms"]) e_early_of [("parms", .ref D)] rfl rfl (by kernel_rfl) (by kernel_rfl) (by kernel_rfl) (by kernel_rfl) (fun vs hv => by obtain ⟨y0, rfl⟩ := len1 hv; kernel_rfl) (by kernel_rfl) (by kernel_rfl) (by kernel_rfl) (by kernel_rfl) (by kernel_rfl) (by kernel_rfl) (by kernel_rfl) hfr fun L hL hf => ?_
  have sub : ∀ b ∈ fra l, b ∈ fra (e_early_of L :: l) := fun b hb => .tail _ hb
  have hin : (e_early_of L).locals ∈ fra (e_early_of L :: l) := .head _
  refine rz_cons sub hL hin ?_
  refine ex_assign ?_
  walk_at "m"
  refine ⟨_, _, getm_get (.inl ⟨_, _, hd⟩), ?_⟩
  walk_at "m"
  refine call_get1 hd ?_
  rw [show (vat [(("EarlyChange" : Str), v)] "EarlyChange").getD .none = v from rfl]
  walk_at "m"
  refine ⟨rfl, Ext.refl _, ?_⟩
  refine rz_cons sub hL hin ?_
  refine ex_if ?_
  walk_at "m"
  refine cmp_is_none vp ?_
  rw [vn]
  walk_at "m"
  refine ⟨rfl, Ext.refl _, ?_⟩
  refine rz_last (rz_if sub ?_)
  walk_at "m"
  refine ev_glob hf (by kernel_rfl) gb ?_
  walk_at "m"
  refine isi_bool ?_ ?_
  · rcases hb with rfl | rfl | rfl | rfl | ⟨q, rfl, hq⟩
    · exact .inl ⟨_, rfl⟩
    · exact .inr (.inl ⟨_, rfl⟩)
    · exact .inr (.inl ⟨_, rfl⟩)
    · exact .inr (.inr (.inl ⟨_, rfl⟩))
    · exact .inr (.inr (.inr ⟨_, _, rfl, Gd.look_of hq⟩))
  have fin : ∀ σ₁, Ext σ σ₁ → true = true ∧ Ext σ σ₁ ∧ Rz G (n + 4) (A.deeper (e_early_of L)) (e_early_of L :: l) (fra l) (EnvAt G (e_early_of L) ((lvOf [(Str.ofString "parms", V.ref D)]).set (Str.ofString "early") v)) σ₁ (execs (ifBody (top 38) 2) (e_early_of L)) := fun σ₁ x₁ => ⟨rfl, x₁, by
    refine rz_last (rz_raise H sub ?_)
    walk_at "m"
    refine ⟨kp_cls (H.at (o := k67) (by kernel_rfl)) rfl (by rw [H.k]; kernel_rfl), ?_⟩
    exact c_fault H fun e d σ₂ x2 k1 k2 k3 k4 k5 => ⟨e, d, _, rfl, x2, k1, k4, k3, k5⟩⟩
  cases hB : v.isB with
  | true =>
    walk_at "m"
    exact fin σ (Ext.refl _)
  | false =>
    walk_at "m"
    refine ⟨sz (by simp), fun t ht => ?_⟩
    have x1 : Ext σ (σ.set t (.tuple [.int 0, .int 1])) := (Ext.refl _).more ht
    refine cmp_notin_slim (by omega) (Gd.look_of (St.set_same _ _ _)) ?_ (by intro y hy; simp at hy; rcases hy with rfl | rfl <;> simp) ?_
    · rcases hb with rfl | rfl | rfl | rfl | ⟨q, rfl, hq⟩
      · trivial
      · trivial
      · trivial
      · trivial
      · exact ⟨_, Gd.look_of (x1 _ _ hq)⟩
    rw [show (![V.int 0, .int 1].any (eqToV v)) = true by
      rcases hb with rfl | rfl | rfl | rfl | ⟨q, rfl, hq⟩
      · cases hB
      · rfl
      · rfl
      · rfl
      · rfl]
    walk_at "m"
    exact fin _ x1
end
set_option hygiene false
section
variable {G : Gd} {n : Nat} {A : Around} {σ σ' : St} {l : List Env} {fs : List Addr} {env : Env} {lv : Lv} {Q : V → St → Prop} {L : Addr}
theorem ex_try_ok {body : List Stmt} {h₀ : ExceptHandler} {hs : List ExceptHandler} {pos : Pos} {Q : Fl → Lv → St → Prop} (h : Ex G n env lv σ (execs body env) Q) : Ex G n env lv σ (exec (.Try body (h₀ :: hs) [] [] pos) env) Q := by
  refine .mk fun A s Φ E hA hS hP k => wpAny_Try_except (h A s _ _ hA hS hP fun f x h' tk σ' lv' hr hS' hP' hK hq => ?_)
  have kk := k f x h' tk σ' lv' hr hS' hP' hK hq
  cases hr <;> first | exact kk | (show wpAny _ _ (pure Flow.next) _ _ _; exact wpAny_pure kk)
noncomputable def e_heard (L : Addr) : Env := callEnv (fdOf k318) L 318
noncomputable def hst (i : Nat) : Stmt := match (fbody (top 47))[i]? with
  | some s => s
  | none => .Pass ⟨0, 0, 0, 0⟩
theorem kp_heard (H : Pr G) : Kp G (.ref 318) := kp_fn (o := k318) (fd := fdOf k318) (H.at (by kernel_rfl)) (by kernel_rfl)
theorem in_heard (H : Pr G) {a0 : V} (h : ∀ L, FnEnv (e_heard L) → Ex G n (e_heard L) (lvOf [("work", a0)]) σ (execs (fbody (top 47)) (e_heard L)) fun r _ σ' => Q (retOf r) σ') : CodeV G (n + 1) σ (.ref 318) [a0] Q :=
  code_top H (o := k318) (st := top 47) (names := ["work"]) e_heard [("work", a0)] rfl rfl (by kernel_rfl) (by kernel_rfl) (by kernel_rfl) (by kernel_rfl) (fun vs hv => by obtain ⟨y0, rfl⟩ := len1 hv; kernel_rfl) (by kernel_rfl) (by kernel_rfl) (by kernel_rfl) (by kernel_rfl) (by kernel_rfl) (by kernel_rfl) (by kernel_rfl) fun L hf => h L hf
theorem heard0 (H : Pr G) (hf : FnEnv (e_heard L)) {Q : Fl → Lv → St → Prop} (h : ∀ σ₁, Ext σ σ₁ → Q .next ((lv.set "caught" .none).set "found" .none) σ₁) : Ex G n (e_heard L) lv σ (exec (hst 0) (e_heard L)) Q := by
  refine ex_assign ?_
  walk_at "m"
  refine ⟨sz (by simp), fun t ht => ?_⟩
  refine tgt_tuple (Gd.look_of (St.set_same _ _ _)) rfl ?_
  refine tgt_name hf (.inl ⟨by kernel_rfl, ?_⟩)
  refine tgt_name hf (.inl ⟨by kernel_rfl, ?_⟩)
  exact h _ ((Ext.refl _).more ht)
theorem c_heard_ok (H : Pr G) {f v : V} (hkp : Kp G f) (hc : ∀ σ₁ Q', Ext σ σ₁ → (∀ σ', Ext σ₁ σ' → Q' v σ') → CodeV G n σ₁ f [] Q') (h : ∀ σ', Ext σ σ' → Q v σ') : CodeV G (n + 1) σ (.ref 318) [f] Q := by
  refine in_heard H fun L hf => ?_
  refine ex_cons (heard0 H hf fun σ₁ e1 => ?_)
  refine ex_cons (ex_try_ok (ex_cons (ex_assign ?_)))
  walk_at "m"
  refine ⟨hkp, (hc _ _ e1 fun σ' e => ?_).call⟩
  walk_at "m"
  rw [show (V.none).isNone = true from rfl]
  walk_at "m"
  exact h _ (e1.trans e)
/-! the run that raises -/
theorem wp_glob {E : Value → Shared → Prop} {s : Shared} {x : Str} {pos : Pos} {v : V} {Φ : Value → Shared → Prop} (hf : FnEnv env) (hk : env.kindOf x = some .globalImplicit) (hv : G.glob x v) (hS : Sit G σ s.heap) (h : ∀ y, VR v y → Φ y s)
    (hd : (x == ("__debug__" : Str)) = false := by decide) : wpAny (model G.prog G.w) A (eval (.Name x pos) env) Φ E s := by
  obtain ⟨y, hr, hy⟩ := hv
  have q := h y hr
  have hg := G.T.g.keeps hS.top
  have hb := G.T.b.keeps hS.top
  refine Name_function_global hf.fn hk ?_ hd
  rcases hy with hy | ⟨hy, hne, hy'⟩
  · exact loadGlobal_global (by rw [hf.gl]; exact hg) hy q
  · exact loadGlobal_builtin (by rw [hf.gl]; exact hg) hy (by rw [hf.bl]; exact hb) ((G.T.builtins x hne).trans hy') q
theorem wp_local {E : Value → Shared → Prop} {s : Shared} {x : Str} {pos : Pos} {v : V} {Φ : Value → Shared → Prop} (hf : FnEnv env) (hk : env.kindOf x = some .local) (hv : lv x = some v) (hP : EnvAt G env lv σ s.heap) (h : ∀ y, VR v y → Φ y s)
    (hd : (x == ("__debug__" : Str)) = false := by decide) : wpAny (model G.prog G.w) A (eval (.Name x pos) env) Φ E s := by
  obtain ⟨⟨m, hn, hm⟩, _, _⟩ := hP
  obtain ⟨y, hy, hr⟩ := hm x v hv
  exact wpAny_Name (wpAny_loadName_local hf.fn hk hn hy (h y hr)) hd
/-- the same but for this block -/
noncomputable def But (a : Addr) (h h' : Heap) : Prop := ∀ b o, b ≠ a → h.get? b = some o → h'.get? b = some o
theorem Sit.butL {h h' : Heap} (hS : Sit G σ h) (h1 : σ L = none) (h2 : G.hT.get? L = none) (k : But L h h') : Sit G σ h' :=
  ⟨fun b o e => k b o (fun z => by subst z; rw [h2] at e; cases e) (hS.top b o e), hS.off, fun a o e => by
    obtain ⟨ob, k1, k2⟩ := hS.st a o e
    exact ⟨ob, k a ob (fun z => by subst z; rw [h1] at e; cases e) k1, k2⟩, hS.sm⟩
theorem wp_store {E : Value → Shared → Prop} {s : Shared} {x : Str} {v : V} {y : Value} {Φ : Unit → Shared → Prop} (hf : FnEnv env) (hk : env.kindOf x = some .local) (hv : VR v y) (hS : Sit G σ s.heap) (hP : EnvAt G env lv σ s.heap)
    (h : ∀ h' tk, Sit G σ h' → EnvAt G env (lv.set x v) σ h' → But env.locals s.heap h' → Φ () { s with heap := h', toks := tk }) : wpAny (model G.prog G.w) A (storeName env x y) Φ E s := by
  obtain ⟨⟨m, hn, hm⟩, hoff, hT⟩ := hP
  refine wpAny_storeName_local hk hn (fun h' hn' hs' => ?_) (notClass hf)
  have bt : But env.locals s.heap h' := fun b o hb e => (hs'.2 b hb).trans e
  refine h h' _ (hS.butL hoff hT bt) ⟨⟨_, hn', fun z u hz => ?_⟩, hoff, hT⟩ bt
  unfold Lv.set at hz
  split at hz
  · rename_i hzx; cases hz; exact ⟨y, by rw [if_pos hzx], hv⟩
  · rename_i hzx
    obtain ⟨u', h1, h2⟩ := hm z u hz
    exact ⟨u', by rw [if_neg hzx]; exact h1, h2⟩
theorem wp_goes {E : Value → Shared → Prop} {s : Shared} {x : Str} {pos : Pos} {Φ : Unit → Shared → Prop} (hf : FnEnv env) (hk : env.kindOf x = some .local) (hS : Sit G σ s.heap) (hP : EnvAt G env lv σ s.heap)
    (h : ∀ h' tk, Sit G σ h' → EnvAt G env (fun z => if z = x then none else lv z) σ h' → But env.locals s.heap h' → Φ () { s with heap := h', toks := tk }) :
    wpAny (model G.prog G.w) A (do bindName env x .none; unbindBehindTheSuite env x pos) Φ E s := by
  obtain ⟨⟨m, hn, hm⟩, hoff, hT⟩ := hP
  refine wpAny_nameGoes_keeps hk hn (notClass hf) fun h' v hn' hs' => ?_
  have bt : But env.locals s.heap h' := fun b o hb e => (hs'.2 b hb).trans e
  refine h h' _ (hS.butL hoff hT bt) ⟨⟨_, hn', fun z u hz => ?_⟩, hoff, hT⟩ bt
  split at hz
  · cases hz
  · rename_i hzx
    obtain ⟨u', h1, h2⟩ := hm z u hz
    exact ⟨u', by rw [if_neg hzx]; exact h1, h2⟩
theorem wp_assign_name {E : Value → Shared → Prop} {s : Shared} {x : Str} {p pos : Pos} {value : Expr} {Φ : Flow → Shared → Prop} (h : wpAny (model G.prog G.w) A (eval value env) (fun y s₁ => wpAny (model G.prog G.w) A (storeName env x y) (fun _ s₂ => Φ .next s₂) E s₁) E s)
    (hs : swapsWith value (some (.Name x p)) pos.line env = pure false := by rfl) : wpAny (model G.prog G.w) A (exec (.Assign [.Name x p] value pos) env) Φ E s := by
  rw [exec_Assign_Name env x p value pos hs]
  exact wpAny_bind (wpAny_standAt (wpAny_bind (wpAny_mono h (fun y s₁ h₁ => wpAny_bind (wpAny_standAt (wpAny_bind (wpAny_bindName (wpAny_mono h₁ (fun _ s₂ h₂ => wpAny_pure h₂) fun _ _ z => z))))) fun _ _ z => z)))
theorem rz_assign_name {x : Str} {p pos : Pos} {value : Expr} (h : Rz G n A l fs (EnvAt G env lv) σ (eval value env))
    (hs : swapsWith value (some (.Name x p)) pos.line env = pure false := by rfl) : Rz G n A l fs (EnvAt G env lv) σ (exec (.Assign [.Name x p] value pos) env) :=
  rz_eq (exec_Assign_Name env x p value pos hs) (rz_standAt (rz_first h))
theorem ns_slots {h h' : Heap} {a : Addr} {m : Str → Option Value} (hn : h.Ns a m) (k : ∀ o, h.get? a = some o → ∃ sl, h'.get? a = some { o with slots := sl }) : h'.Ns a m := by
  obtain ⟨o, es, ep, ho, hd, hk, hm⟩ := hn
  obtain ⟨sl, q⟩ := k o ho
  exact ⟨_, es, ep, q, hd, hk, hm⟩
theorem Raised.envAt {x : Option Value} {h h' : Heap} {e d : Addr} (R : Raised G σ σ' l fs x h e d h') (P : EnvAt G env lv σ h) (h1 : env.locals ∈ fs) (h2 : env.locals ∈ fra l) : EnvAt G env lv σ' h' := by
  obtain ⟨⟨m, hn, hm⟩, _, _⟩ := P
  exact ⟨⟨m, ns_slots hn fun o ho => R.keepF _ o ho h1, hm⟩, (R.off _ h2).1, (R.off _ h2).2⟩
theorem EnvAt.less {lv' : Lv} {h : Heap} (P : EnvAt G env lv σ h) (k : ∀ x v, lv' x = some v → lv x = some v) : EnvAt G env lv' σ h := by
  obtain ⟨⟨m, hn, hm⟩, a, b⟩ := P
  exact ⟨⟨m, hn, fun x v e => hm x v (k x v e)⟩, a, b⟩
end
set_option hygiene false
section
variable {G : Gd} {n : Nat} {A : Around} {σ σ' : St} {l : List Env} {fs : List Addr} {env : Env} {lv : Lv} {Q : V → St → Prop} {L : Addr}
/-- what stands after a call that raised within -/
structure Kept (σ σ' : St) (l : List Env) (fs : List Addr) (h h' : Heap) : Prop where
  ext : Ext σ σ'
  keepA : ∀ b o, h.get? b = some o → σ b = none → b ∉ fra l → h'.get? b = some o ∧ σ' b = none
  keepF : ∀ b o, h.get? b = some o → b ∈ fs → ∃ sl, h'.get? b = some { o with slots := sl }
  off : ∀ b ∈ fs, σ' b = none
noncomputable def tryBody (s : Stmt) : List Stmt := (sP s).1
theorem heard1 (H : Pr G) (hf : FnEnv (e_heard L)) {f : V} (hl : lv "work" = some f) (hkp : Kp G f) (hc : RzC G n A l σ f []) : Rz G n A l (fra l) (EnvAt G (e_heard L) lv) σ (execs (tryBody (hst 1)) (e_heard L)) := by
  refine rz_last (rz_assign_name (rz_call ?_))
  walk_at "m"
  refine ⟨Ext.refl _, ?_⟩
  walk_at "m"
  exact ⟨Ext.refl _, hkp, hc⟩
theorem heard2 (H : Pr G) (hf : FnEnv (e_heard L)) {e d : Addr} {w : V} {Q : Fl → Lv → St → Prop} (hl : lv "caught" = some (.ref e)) (he : σ e = some (.exc 67 (some d) false)) (hd : σ d = some (.sdict [("what", w), ("at", .int (-1))] 2))
    (h : ∀ t, σ t = none → Q (.ret (.ref t)) lv (σ.set t (.tuple [.str "fault", .int (-1)]))) : Ex G n (e_heard L) lv σ (exec (hst 2) (e_heard L)) Q := by
  refine ex_return ?_
  walk_at "m"
  rw [show (V.ref e).isNone = false from rfl]
  walk_at "m"
  refine attr_exc H he hd (v := .int (-1)) rfl rfl (by rw [H.k]; kernel_rfl) ?_
  walk_at "m"
  refine ⟨sz (by simp), fun t ht => ?_⟩
  exact h t ht
theorem heard_body (H : Pr G) {f : V} {s : Shared} {Φ : Flow → Shared → Prop} {E : Value → Shared → Prop} (hkp : Kp G f) (hfr : A.frames = some (e_heard L :: l)) (hL : L ∉ fra l) (hf : FnEnv (e_heard L)) (hc : ∀ σ₁, Ext σ σ₁ → RzC G n A (e_heard L :: l) σ₁ f [])
    (hA : Room A n) (hS : Sit G σ s.heap) (hP : EnvAt G (e_heard L) (lvOf [("work", f)]) σ s.heap) (hO : Outs G σ (e_heard L :: l) s.heap)
    (k : ∀ σ' t h' tk, Kept σ σ' (e_heard L :: l) (fra l) s.heap h' → Sit G σ' h' → σ' t = some (.tuple [.str "fault", .int (-1)]) → Φ (.ret (.ref t)) { s with heap := h', toks := tk }) :
    wpAny (model G.prog G.w) A (execs (fbody (top 47)) (e_heard L)) Φ E s := by
  have hin : (e_heard L).locals ∈ fra (e_heard L :: l) := .head _
  rw [show fbody (top 47) = [hst 0, hst 1, hst 2] by kernel_rfl, execs_cons]
  refine wpAny_bind ((heard0 H hf (lv := lvOf [("work", f)]) (σ := σ) (Q := fun f' lv' σ' => f' = .next ∧ lv' = ((lvOf [("work", f)]).set "caught" .none).set "found" .none ∧ Ext σ σ') fun σ₁ e1 => ⟨rfl, rfl, e1⟩).go A s _ E hA hS hP fun f' x h2 tk2 σ2 lv2 hr hS2 hP2 hK2 hq => ?_)
  obtain ⟨q1, q2, e2⟩ := hq
  subst q1 q2
  cases hr
  have hO2 := hO.keepC hK2 hP2
  show wpAny _ _ (execs [hst 1, hst 2] _) _ _ _
  rw [execs_cons]
  refine wpAny_bind ?_
  refine wpAny_Try_except (body := tryBody (hst 1)) ((heard1 H hf (by walk_at "m_lv") hkp (hc _ e2)).run _ _ _ hA hS2 hP2 hO2 fun e d σ' h' tk x hx R => ?_)
  refine R.note (s := ⟨h', s.gens, s.drawn, tk, s.os⟩) hfr rfl hx fun h3 R3 => ?_
  refine wpAny_handleBy_cons (codeAny_handlers_test ?_) (by intro q; cases q)
  refine wp_glob hf (by kernel_rfl) (g_FilterFault H.toPg) R3.sit fun y hy => ?_
  obtain rfl := VR.ref_ hy
  obtain ⟨oe, vs, t1, t2, t3, t4, t5, _⟩ := id R3.tb
  have LT : Looks (model G.prog G.w) h3 (typeOf (.ref e)) oe.cls := (Looks.ld t1).andThen .now
  rw [t2] at LT
  refine (exm_one R3.sit.kin LT (b := true) (by rw [H.k]; kernel_rfl)).here ?_
  refine codeAny_handlers_suite_as ?_
  refine Raised.clear R3 fun h4 R4 => ?_
  have P4 := R4.envAt hP2 hin hin
  refine wp_store hf (by kernel_rfl) (.ref e) R4.sit P4 fun h5 tk5 S5 P5 B5 => ?_
  rw [execs_cons]
  refine wpAny_bind (wp_assign_name (wp_local hf (by kernel_rfl) (by walk_at "m_lv") P5 fun y hy => ?_))
  obtain rfl := VR.ref_ hy
  refine wp_store hf (by kernel_rfl) (.ref e) S5 P5 fun h6 tk6 S6 P6 B6 => ?_
  show wpAny _ _ (pure Flow.next) _ _ _
  refine wpAny_pure ?_
  refine wp_goes hf (by kernel_rfl) S6 P6 fun h7 tk7 S7 P7 B7 => ?_
  show wpAny _ _ (execs [hst 2] _) _ _ _
  rw [execs_cons]
  have P8 := P7.less (lv' := noV.set "caught" (.ref e)) fun x v hv => by
    unfold Lv.set at hv
    split at hv
    · rename_i hx; subst hx; rw [if_neg (by decide)]; rw [← hv]; exact lv_hit
    · cases hv
  obtain ⟨w, hw⟩ := R4.dic
  refine wpAny_bind ((heard2 H hf (lv := noV.set "caught" (.ref e)) (σ := σ') lv_hit R4.exc hw (Q := fun f' lv' σ'' => ∃ t, f' = .ret (.ref t) ∧ σ'' = σ'.set t (.tuple [.str "fault", .int (-1)]) ∧ σ' t = none) fun t ht => ⟨t, rfl, rfl, ht⟩).go A _ _ E hA S7 P8 fun f' x h8 tk8 σ8 lv8 hr hS8 hP8 hK8 hq => ?_)
  obtain ⟨t, q1, q2, ht⟩ := hq
  subst q1 q2
  cases hr
  rename_i hvr
  obtain rfl := VR.ref_ hvr
  show wpAny _ _ (pure (Flow.ret _)) _ _ _
  refine wpAny_pure ?_
  have low : ∀ b o, b ≠ L → h4.get? b = some o → h7.get? b = some o := fun b o hb e4 => B7 b o hb (B6 b o hb (B5 b o hb e4))
  have keepF : ∀ b o, s.heap.get? b = some o → b ∈ fra l → b ≠ L ∧ (∃ sl, h7.get? b = some { o with slots := sl }) ∧ σ' b = none := fun b o e1 hb => by
    have hbL : b ≠ L := fun z => hL (z ▸ hb)
    have z2 := hK2 b o hbL e1 (hO.off b (.tail _ hb)).1
    obtain ⟨sl, z4⟩ := R4.keepF b o z2.1 (.tail _ hb)
    exact ⟨hbL, ⟨sl, low b _ hbL z4⟩, (R4.off b (.tail _ hb)).1⟩
  refine k _ t h8 tk8 ⟨(e2.trans R4.ext).more ht, fun b o e1 e2 e3 => ?_, fun b o e1 hb => ?_, fun b hb => ?_⟩ hS8 (St.set_same _ _ _)
  · have hbL : b ≠ L := fun z => e3 (z ▸ hin)
    have z2 := hK2 b o hbL e1 e2
    have z4 := R4.keepA b o z2.1 z2.2 e3
    exact hK8 b o hbL (low b o hbL z4.1) z4.2
  · obtain ⟨hbL, ⟨sl, z7⟩, z8⟩ := keepF b o e1 hb
    exact ⟨sl, (hK8 b _ hbL z7 z8).1⟩
  · obtain ⟨_, o, ho, _⟩ := hO.fr.mem (List.mem_cons_of_mem _ hb : b ∈ fra (e_heard L :: l))
    obtain ⟨hbL, ⟨sl, z7⟩, z8⟩ := keepF b o ho hb
    exact (hK8 b _ hbL z7 z8).2
theorem heard_bad (H : Pr G) {f : V} {fv : Value} {s : Shared} {R : Result → Shared → Prop} (hkp : Kp G f) (hfr : A.frames = some l) (hlam : ∀ L σ₁, Ext σ σ₁ → RzC G n (A.deeper (e_heard L)) (e_heard L :: l) σ₁ f [])
    (hfv : VR f fv) (hA : Room A (n + 1)) (hS : Sit G σ s.heap) (hO : Outs G σ l s.heap)
    (k : ∀ σ' t h' tk, Kept σ σ' l (fra l) s.heap h' → Sit G σ' h' → σ' t = some (.tuple [.str "fault", .int (-1)]) → R (.ok (.ret (.ref t))) { s with heap := h', toks := tk }) :
    codeAny (model G.prog G.w) A (.call (.ref 318) ⟨[fv], []⟩) R s := by
  refine codeAny_call_def (o := k318) (fd := fdOf k318) (body := fbody (top 47)) (binds := [("work", fv)]) (by have := hA.dp; omega) (hS.top _ _ (H.at (by kernel_rfl))) (by kernel_rfl) (G.T.nolimit.keeps hS.top) ((H.code (by kernel_rfl)).keeps hS.top) (by kernel_rfl) (BindsTo.of_eq (by kernel_rfl))
    (fun x hx => of_decide_eq_true (List.all_eq_true.mp (show ((fdOf k318).scope.names.all fun x => decide (x.2 ≠ .cell)) = true by kernel_rfl) _ hx)) (fun x hx => by cases hx with | head => (show (fdOf k318).scope.names.lookup ("work" : Str) = some NameKind.local; kernel_rfl) | tail _ z => cases z) (fun h₁ hn hk₁ => ?_) (by kernel_rfl) (by kernel_rfl) (by kernel_rfl)
  have hf : FnEnv (e_heard s.heap.objs.size) := fn_callEnv _ 318 (by kernel_rfl) (by kernel_rfl) (by kernel_rfl)
  have hL : s.heap.objs.size ∉ fra l := fun hm => by obtain ⟨_, o, ho, _⟩ := hO.fr.mem hm; exact absurd (Heap.lt_size ho) (Nat.lt_irrefl _)
  have hp : Paired KV ([("work", f)] : List (Str × V)) ([("work", fv)] : List (Str × Value)) := .cons ⟨rfl, hfv⟩ .nil
  refine heard_body H (L := s.heap.objs.size) (s := ⟨h₁, _, _, _, _⟩) hkp (Around.frames_deeper hfr) hL hf (hlam _) (room_deeper hA) (hS.grow hk₁) ⟨⟨_, hn, fun x v hv => lvOf_lookup (paired_rev hp) x v hv⟩, hS.fresh, Sit.hTfresh hS⟩
    ((hO.grow hk₁).push (env := e_heard s.heap.objs.size) (by show (fdOf k318).scope.kind ≠ .module; rw [show (fdOf k318).scope.kind = .function by kernel_rfl]; decide) rfl hn hS.fresh (Sit.hTfresh hS)) fun σ' t h' tk K S ht => ?_
  refine k σ' t h' tk ⟨K.ext, fun b o e1 e2 e3 => K.keepA b o (hk₁ b o e1) e2 fun hm => ?_, fun b o e1 hb => K.keepF b o (hk₁ b o e1) hb, K.off⟩ S ht
  rcases List.mem_cons.mp (show b ∈ s.heap.objs.size :: fra l from hm) with z | z
  · rw [z] at e1; exact absurd (Heap.lt_size e1) (Nat.lt_irrefl _)
  · exact e3 z
end
set_option hygiene false
section
variable {G : Gd} {n : Nat} {A : Around} {σ σ' : St} {l : List Env} {fs : List Addr} {env : Env} {lv : Lv} {Q : V → St → Prop} {L : Addr}
/-! the ground, grown by a function that was made within -/
noncomputable def hid (G : Gd) (h : Heap) (f c : Addr) : List Addr := (List.range h.objs.size).filter fun b => (G.hT.get? b).isNone && (decide (b ≠ f) && decide (b ≠ c))
theorem hid_top {h : Heap} {f c b : Addr} {o : Obj} (e : G.hT.get? b = some o) : b ∉ hid G h f c := fun hm => by
  have := (List.mem_filter.mp hm).2
  rw [e] at this; cases this
theorem hid_f {h : Heap} {f c : Addr} : f ∉ hid G h f c := fun hm => by
  have := (List.mem_filter.mp hm).2
  simp at this
theorem hid_c {h : Heap} {f c : Addr} : c ∉ hid G h f c := fun hm => by
  have := (List.mem_filter.mp hm).2
  simp at this
theorem hid_of {h : Heap} {f c b : Addr} {o : Obj} (e : (hideAll h (hid G h f c)).get? b = some o) : h.get? b = some o ∧ ((∃ o', G.hT.get? b = some o') ∨ b = f ∨ b = c) := by
  have e1 := of_hideAll _ e
  refine ⟨e1, ?_⟩
  cases q : G.hT.get? b with
  | some o' => exact .inl ⟨o', rfl⟩
  | none =>
    by_cases hf : b = f
    · exact .inr (.inl hf)
    · by_cases hc : b = c
      · exact .inr (.inr hc)
      · have hm : b ∈ hid G h f c := List.mem_filter.mpr ⟨List.mem_range.mpr (Heap.lt_size e1), by rw [q]; simp [hf, hc]⟩
        rw [hideAll_none _ hm] at e; cases e
noncomputable def Gd.plus (G : Gd) (h : Heap) (k : ∀ b o, G.hT.get? b = some o → h.get? b = some o) (f c : Addr) : Gd where
  prog := G.prog
  w := G.w
  hT := hideAll h (hid G h f c)
  K := G.K
  p := G.p
  loose := G.loose
  mean := G.mean
  mg := G.mg
  mb := G.mb
  X := G.X.keeps fun b o e => hideAll_get _ (k b o e) (hid_top e)
  T := G.T.keeps fun b o e => hideAll_get _ (k b o e) (hid_top e)
  rom := G.rom
  R := fun a o e => by
    obtain ⟨ob, h1, h2⟩ := G.R a o e
    exact ⟨ob, hideAll_get _ (k a ob h1) (hid_top h1), h2⟩
theorem Pr.plus (H : Pr G) {h : Heap} {k : ∀ b o, G.hT.get? b = some o → h.get? b = some o} {f c : Addr} : Pr (G.plus h k f c) := ⟨⟨H.k⟩, H.r⟩
theorem Sit.plus {h : Heap} (hS : Sit G σ h) {f c : Addr} (hf : σ f = none) (hc : σ c = none) : Sit (G.plus h hS.top f c) σ h :=
  ⟨fun b o e => (hid_of e).1, fun b o e => by
    rcases (hid_of e).2 with ⟨o', z⟩ | z | z
    · exact hS.off b o' z
    · subst z; exact hf
    · subst z; exact hc, hS.st, hS.sm⟩
theorem Sit.minus {h h' : Heap} {k : ∀ b o, G.hT.get? b = some o → h.get? b = some o} {f c : Addr} (hS : Sit (G.plus h k f c) σ h') : Sit G σ h' :=
  ⟨fun b o e => hS.top b o (hideAll_get _ (k b o e) (hid_top e)), fun b o e => hS.off b o (hideAll_get _ (k b o e) (hid_top e)), hS.st, hS.sm⟩
theorem plus_none {h : Heap} {k : ∀ b o, G.hT.get? b = some o → h.get? b = some o} {f c b : Addr} (e : G.hT.get? b = none) (hf : b ≠ f) (hc : b ≠ c) : (G.plus h k f c).hT.get? b = none := by
  cases q : (G.plus h k f c).hT.get? b with
  | none => rfl
  | some o =>
    rcases (hid_of q).2 with ⟨o', z⟩ | z | z
    · rw [e] at z; cases z
    · exact (hf z).elim
    · exact (hc z).elim
/-! the lambda -/
noncomputable def r25 : Expr := (sP (ls 25)).2.2.2.getD (.Constant .none 0 ⟨0, 0, 0, 0⟩)
noncomputable def lamE : Expr := eN (eP (eN (eP (eN (eP r25).1 0)).1 0)).1 0
noncomputable def lamPs : Arguments := (eP lamE).2.1
noncomputable def lamB : Expr := eN (eP lamE).1 0
noncomputable def lamSc : Scope := (eP lamE).2.2.1
noncomputable def lamPos : Pos := (eP lamE).2.2.2
theorem lam_eq : lamE = .Lambda lamPs lamB lamSc lamPos := by kernel_rfl
noncomputable def lamQ : Str := (e_law 0).qual ++ "<lambda>"
noncomputable def lamF (L : Addr) (pm cdv ct : Value) : FuncData := kla_fn "<lambda>" lamQ lamPs lamB lamSc [("early", L + 3)] pm cdv ct
noncomputable def lamO (L : Addr) (pm : Value) (c : Addr) (ct : Value) : Obj := { cls := .type "function", data := .func (lamF L pm (.ref c) ct) }
theorem lam_made (H : Pr G) {E : Value → Shared → Prop} {Φ : Value → Shared → Prop} {s : Shared} (hS : Sit G σ s.heap) (ht : s.heap.get? 334 = some (tabObj #[]))
    (k : ∀ f c h₁ tk pm ct, s.heap.objs.size ≤ c → c < f → f = h₁.objs.size - 1 → (∀ b o, b ≠ 334 → s.heap.get? b = some o → h₁.get? b = some o) → GrownAt 334 h₁ → h₁.CodeRec (.ref c) lamQ → h₁.get? f = some (lamO L pm c ct) → Φ (.ref f) { s with heap := h₁, toks := tk }) :
    wpAny (model G.prog G.w) A (eval lamE (e_law L)) Φ E s := by
  rw [lam_eq]
  have hgs : s.heap.Ns mainGlobals G.mg := G.T.g.keeps hS.top
  obtain ⟨bm, ob, b1, b2, b3, b4, b5, b6⟩ := G.T.bmain
  have hbP : bm ≠ 334 := fun q => by
    have e := hS.top _ _ b3
    rw [q, ht] at e; cases e; cases b4
  have hbG : bm ≠ mainGlobals := fun q => by
    obtain ⟨o, es, ep, e, hd, _⟩ := G.T.g
    rw [q, e] at b3; cases b3; rw [hd] at b6; cases b6
  have C : CodeHd s.heap 336 334 := ⟨k336, _, _, _, _, _, _, _, _, hS.top _ _ (H.at (by kernel_rfl)), rfl, rfl, rfl, rfl, rfl, rfl, rfl, rfl, by decide⟩
  refine kla_eval (by kernel_rfl) (kla_makeFunction (mg := G.mg) (c := 336) (P := 334) (ps := #[]) (clos := [("early", L + 3)]) (by kernel_rfl) (by kernel_rfl) hgs (by kernel_rfl) C ht trivial rfl (by decide) ⟨bm, ob, b1, b2, hbG, hbP, hS.top _ _ b3, b4, b5, b6⟩ fun c' ctv h' tk hx hge hlt hrec htb => ?_)
  refine k h'.objs.size c' _ tk ((G.mg "__name__").getD .none) ctv hge hlt ?_ ?_ ?_ ?_ ?_
  · rw [Heap.size_push]; rfl
  · exact fun b o hb e => Heap.get?_push_of_some _ (hx b o hb e)
  · exact ⟨_, Heap.get?_push_of_some _ htb⟩
  · exact hrec.push _
  · exact Heap.get?_push_size _ rfl
end
set_option hygiene false
section
variable {G : Gd} {n : Nat} {A : Around} {σ σ' : St} {l : List Env} {fs : List Addr} {env : Env} {lv : Lv} {Q : V → St → Prop} {L : Addr}
theorem lam_fn {pm cdv ct : Value} {L' f : Addr} : FnEnv (callEnv (lamF L pm cdv ct) L' f) := ⟨by kernel_rfl, by kernel_rfl, by kernel_rfl⟩
theorem lam_cell {pm cdv ct : Value} {L' f : Addr} : (callEnv (lamF L pm cdv ct) L' f).cells.lookup ("early" : Str) = some (L + 3) := by kernel_rfl
theorem lam_kind {pm cdv ct : Value} {L' f : Addr} : decide ((callEnv (lamF L pm cdv ct) L' f).kindOf "early" = some .free) = true := by kernel_rfl
noncomputable def lamArg : Expr := eN (eP lamB).1 0
theorem lam_dict {pm cdv ct : Value} {L' f : Addr} {v : V} {Q : V → St → Prop} (hc : σ (L + 3) = some (.cell (some v)))
    (h : ∀ d ep, σ d = none → Q (.ref d) ((σ.set d (.sdict [] 0)).set d (.sdict [("EarlyChange", v)] ep))) : Ev G n (callEnv (lamF L pm cdv ct) L' f) lv σ lamArg Q := by
  refine ev_sdict' (fun d hd => ?_) rfl rfl
  refine prs_cons (ev_str (ev_free' lam_fn lam_kind (by kernel_rfl) (by kernel_rfl) lam_cell (St.set_new hd hc) (prs_nil ⟨[("EarlyChange", v)], rfl, St.set_same _ _ _, fun ep => ?_⟩)))
  exact h d ep hd
theorem lam_new {d : Addr} {o o' : O} (hd : σ d = none) : Ext σ ((σ.set d o).set d o') := ((Ext.refl σ).more hd).upd hd
theorem BadV.ext' {σ σ' : St} {v : V} (x : Ext σ σ') (h : BadV σ v) : BadV σ' v := by
  rcases h with h | h | h | h | ⟨q, h1, h2⟩
  · exact .inl h
  · exact .inr (.inl h)
  · exact .inr (.inr (.inl h))
  · exact .inr (.inr (.inr (.inl h)))
  · exact .inr (.inr (.inr (.inr ⟨q, h1, x _ _ h2⟩)))
theorem lam_norm (H : Pr G) {f : Addr} {pm ct : Value} {c : Addr} {v w : V} {Q : V → St → Prop} (ho : G.hT.get? f = some (lamO L pm c ct)) (hcd : G.hT.CodeRec (.ref c) lamQ) (hc : σ (L + 3) = some (.cell (some v)))
    (hv : (∃ i, v = .int i ∧ (i = 0 ∨ i = 1) ∧ w = .int i) ∨ (v = .none ∧ w = .int 1)) (h : ∀ σ', Ext σ σ' → Q w σ') : CodeV G (n + 4) σ (.ref f) [] Q := by
  refine code_lam (fd := lamF L pm (.ref c) ct) (body := lamB) ho rfl rfl (by kernel_rfl) (by kernel_rfl) (by kernel_rfl) (by kernel_rfl)
    (fun x hx => of_decide_eq_true (List.all_eq_true.mp (show (lamSc.names.all fun x => decide (x.2 ≠ .cell)) = true by kernel_rfl) _ hx)) hcd fun L' => ?_
  refine ev_call (ev_glob' lam_fn (by kernel_rfl) (by kernel_rfl) (g_early_of H.toPg) (evs_cons (lam_dict hc fun d ep hd => evs_nil ⟨kp_early_of H, ?_⟩)))
  rcases hv with ⟨i, rfl, hi, rfl⟩ | ⟨rfl, rfl⟩
  · exact (c_early_num H (St.set_same _ _ _) hi fun σ' e => h σ' ((lam_new hd).trans e)).call
  · exact (c_early_none H (n := n + 2) (St.set_same _ _ _) rfl (h _ (lam_new hd))).call
theorem lam_bad (H : Pr G) {f : Addr} {pm ct : Value} {c : Addr} {v : V} (ho : G.hT.get? f = some (lamO L pm c ct)) (hcd : G.hT.CodeRec (.ref c) lamQ) (hc : σ (L + 3) = some (.cell (some v))) (hb : BadV σ v) (hfr : A.frames = some l) : RzC G (n + 6) A l σ (.ref f) [] := by
  refine rzc_lam (fd := lamF L pm (.ref c) ct) (body := lamB) ho rfl rfl (by kernel_rfl) (by kernel_rfl) (by kernel_rfl) (by kernel_rfl)
    (fun x hx => of_decide_eq_true (List.all_eq_true.mp (show (lamSc.names.all fun x => decide (x.2 ≠ .cell)) = true by kernel_rfl) _ hx)) hcd hfr fun L' => ?_
  refine rz_call (ev_glob' lam_fn (by kernel_rfl) (by kernel_rfl) (g_early_of H.toPg) ⟨Ext.refl _, evs_cons (lam_dict hc fun d ep hd => evs_nil ⟨lam_new hd, kp_early_of H, ?_⟩)⟩)
  exact rz_early H (St.set_same _ _ _) (hb.ext' (lam_new hd)) (Around.frames_deeper hfr)
end
set_option hygiene false
section
variable {G : Gd} {n : Nat} {A : Around} {σ σ' : St} {l : List Env} {fs : List Addr} {env : Env} {lv : Lv} {Q : V → St → Prop} {L : Addr}
theorem cmp_eq_fault {a b : Addr} (ha : σ a = some (.tuple [.str "fault", .int (-1)])) (hb : σ b = some (.tuple [.str "fault", .int (-1)])) (h : Q (.bool true) σ) : Cmp G n σ .Eq (.ref a) (.ref b) Q := by
  intro x y hx hy; obtain rfl := VR.ref_ hx; obtain rfl := VR.ref_ hy
  refine .mk fun A s Φ E hA hS _ k => ?_
  obtain ⟨vs, h1, h2⟩ := tup_of hS (Gd.look_of ha)
  obtain ⟨us, h3, h4⟩ := tup_of hS (Gd.look_of hb)
  have e1 := h2.length
  have e2 := h4.length
  refine PySem.SeqAt.eq_tupleAt (items := vs.toArray) (items2 := us.toArray) (e := fun _ => true) h1 h3 (hu_of hA) (fun j j1 j2 => ?_) ?_
  · rw [List.size_toArray] at j1 j2
    obtain ⟨x, hx, rx⟩ := paired_at h2 j1
    obtain ⟨y, hy, ry⟩ := paired_at h4 j2
    rw [hx] at hy
    cases hy
    have hm := List.mem_of_getElem? hx
    have hfl : flatEq x x = some true := by
      simp at hm
      rcases hm with rfl | rfl <;> simp [flatEq]
    simpa using flat_eqAt hfl rx ry
  · have e3 : ((List.range (min vs.toArray.size us.toArray.size)).all (fun _ => true) && vs.toArray.size == us.toArray.size) = true := by
      simp only [List.size_toArray, ← e1, ← e2]
      decide
    rw [e3]
    exact k _ _ s.heap s.toks σ (.bool _) hS (Keep.refl _ _) h
theorem wp_cmp {E : Value → Shared → Prop} {s : Shared} {Φ : Value → Shared → Prop} {x r : Expr} {op : CmpOp} {pos : Pos}
    (h : wpAny (model G.prog G.w) A (eval x env) (fun a s₁ => wpAny (model G.prog G.w) A (eval r env) (fun b s₂ => wpAny (model G.prog G.w) A (compareOp op a b) Φ E s₂) E s₁) E s)
    (hm : behindInMarks op r = false := by with_unfolding_all rfl) : wpAny (model G.prog G.w) A (eval (.Compare x [op] [r] pos) env) Φ E s := by
  rw [eval_Compare1 env x op r pos, markedBehindIn_of_false hm]
  exact wpAny_bind (wpAny_mono h (fun a s₁ h₁ => wpAny_bind (wpAny_holding (wpAny_mono h₁ (fun b s₂ h₂ => wpAny_bind (wpAny_standAt (wpAny_operateT h₂))) fun _ _ z => z))) fun _ _ z => z)
theorem wp_call {E : Value → Shared → Prop} {s : Shared} {Φ : Value → Shared → Prop} {f : Expr} {es : List Expr} {pos : Pos}
    (h : wpAny (model G.prog G.w) A (eval f env) (fun fv s₁ => wpAny (model G.prog G.w) A (spliced (es.map fun e => (false, eval e env))) (fun vs s₂ => (∃ kp, Looks (model G.prog G.w) s₂.heap (keeperOf fv) kp) ∧ wpAny (model G.prog G.w) A (call fv vs []) Φ E s₂) E s₁) E s)
    (he : eval (.Call f es [] pos) env = (do callWith pos (← eval f env) [] (backTo pos (starEach es env)) (backToKw pos (keywordEach [] env))) := by rfl)
    (ht : backTo pos (starEach es env) = es.map (fun e => (false, eval e env)) := by rfl) : wpAny (model G.prog G.w) A (eval (.Call f es [] pos) env) Φ E s := by
  rw [he, ht, show backToKw pos (keywordEach [] env) = [] from rfl]
  refine wpAny_bind (wpAny_mono h (fun fv s₁ h₁ => ?_) fun _ _ z => z)
  exact callWith_wp h₁
/-- what law hears, and what is due -/
noncomputable def HeardV (σ : St) (r due : V) : Prop := (∃ i, r = .int i ∧ due = .int i) ∨ ∃ t u, r = .ref t ∧ due = .ref u ∧ σ t = some (.tuple [.str "fault", .int (-1)]) ∧ σ u = some (.tuple [.str "fault", .int (-1)])
theorem code_in {h : Heap} {k : ∀ b o, G.hT.get? b = some o → h.get? b = some o} {f c : Addr} {q : Str} (x : h.CodeRec (.ref c) q) : (G.plus h k f c).hT.CodeRec (.ref c) q := by
  obtain ⟨c', o, vs, t, e, g, r⟩ := x
  cases e
  exact ⟨c, o, vs, t, rfl, hideAll_get _ g hid_c, r⟩
theorem heard_call (H : Pr G) (hA : Room A (n + 8)) (hfr : A.frames = some [e_law L]) (hf : FnEnv (e_law L)) (h334 : G.hT.get? 334 = none) {v due : V} (hc : σ (L + 3) = some (.cell (some v))) (hd : DueV σ v due)
    {s : Shared} {Φ : Value → Shared → Prop} {E : Value → Shared → Prop} {p pos : Pos} (hS : Sit G σ s.heap) (hP : EnvAt G (e_law L) lv σ s.heap) (ht : s.heap.get? 334 = some (tabObj #[])) (hn : σ 334 = none)
    (k : ∀ r y h' tk σ', VR r y → Sit G σ' h' → EnvAt G (e_law L) lv σ' h' → (∃ ps, h'.get? 334 = some (tabObj ps)) → σ' 334 = none → HeardV σ' r due → Φ y { s with heap := h', toks := tk }) :
    wpAny (model G.prog G.w) A (eval (.Call (.Name "_law_heard" p) [lamE] [] pos) (e_law L)) Φ E s := by
  refine wp_call (wp_glob hf (by kernel_rfl) (g_law_heard H.toPg) hS fun y hy => ?_)
  obtain rfl := VR.ref_ hy
  show wpAny _ _ (spliced ((false, eval lamE (e_law L)) :: [])) _ _ _
  refine spliced_cons (lam_made H hS ht fun f c h₁ tk pm ct hc0 hcf hf1 hbut hgr hrec hob => ?_)
  refine wpAny_pure ?_
  have hL0 : (334 : Nat) ≠ L := fun q => by
    obtain ⟨⟨m, ⟨o, es, ep, ho, hdd, _⟩, _⟩, _⟩ := hP
    rw [show (e_law L).locals = L from rfl, ← q, ht] at ho
    cases ho
    cases hdd
  have S1 : Sit G σ h₁ := hS.butL hn h334 hbut
  have cz : σ c = none := by
    cases q : σ c with
    | none => rfl
    | some o => exact absurd (hS.lt q) (Nat.not_lt.mpr hc0)
  have fz : σ f = none := by
    cases q : σ f with
    | none => rfl
    | some o => exact absurd (hS.lt q) (Nat.not_lt.mpr (Nat.le_of_lt (Nat.lt_of_le_of_lt hc0 hcf)))
  have S2 := S1.plus fz cz
  have H' : Pr (G.plus h₁ S1.top f c) := H.plus
  have lf : (G.plus h₁ S1.top f c).hT.get? f = some (lamO L pm c ct) := hideAll_get _ hob hid_f
  have lc : (G.plus h₁ S1.top f c).hT.CodeRec (.ref c) lamQ := code_in hrec
  have P1 : EnvAt G (e_law L) lv σ h₁ := by
    obtain ⟨⟨m, hm1, hm⟩, p2, p3⟩ := hP
    exact ⟨⟨m, hm1.at fun o e => hbut L o (Ne.symm hL0) e, hm⟩, p2, p3⟩
  have hLs : L < s.heap.objs.size := by
    obtain ⟨⟨m, hm1, hm⟩, p2, p3⟩ := hP
    exact hm1.lt
  have P2 : EnvAt (G.plus h₁ S1.top f c) (e_law L) lv σ h₁ := ⟨P1.ns, P1.off, plus_none P1.hT (Nat.ne_of_lt (Nat.lt_of_lt_of_le hLs (Nat.le_of_lt (Nat.lt_of_le_of_lt hc0 hcf)))) (Nat.ne_of_lt (Nat.lt_of_lt_of_le hLs hc0))⟩
  have kh : ∃ kp, Looks (model G.prog G.w) h₁ (keeperOf (.ref 318)) kp := by
    obtain ⟨kp, Lk⟩ := kp_heard H _ (.ref 318)
    exact ⟨kp, Lk.keeps S1.top⟩
  have kf : Kp (G.plus h₁ S1.top f c) (.ref f) := kp_fn lf rfl
  obtain ⟨ps, hps⟩ := hgr
  refine ⟨kh, ?_⟩
  have norm : ∀ w : V, ((∃ i, v = .int i ∧ (i = 0 ∨ i = 1) ∧ w = .int i) ∨ (v = .none ∧ w = .int 1)) → (∃ i, w = .int i ∧ due = .int i) → wpAny (model G.prog G.w) A (call (.ref 318) [.ref f] []) Φ E { s with heap := h₁, toks := tk } := fun w hw hw2 => by
    have hcv : CodeV (G.plus h₁ S1.top f c) (n + 5) σ (.ref 318) [.ref f] (fun r σ' => r = w ∧ Ext σ σ') := c_heard_ok H' kf (v := w) (fun σ₁ Q' e hq => lam_norm H' lf lc (e _ _ hc) hw hq) (fun σ' e => ⟨rfl, e⟩)
    refine wpAny_call (hcv _ _ (.ref _) (.cons (.ref _) .nil) A _ _ (hA.le (by lia)) S2 fun r x h' tk' σ' hr S' K q => ?_)
    obtain ⟨rfl, e⟩ := q
    have K' : Keep σ σ' h₁ h' := K
    exact k _ _ h' tk' σ' hr S'.minus (stable_env _ _ _ _ _ _ _ P1 K') ⟨ps, (K' _ _ hps hn).1⟩ (K' _ _ hps hn).2 (.inl hw2)
  rcases hd with ⟨rfl, rfl⟩ | ⟨rfl, rfl⟩ | ⟨rfl, rfl⟩ | ⟨hb, t, rfl, htu⟩
  · exact norm (.int 0) (.inl ⟨0, rfl, .inl rfl, rfl⟩) ⟨0, rfl, rfl⟩
  · exact norm (.int 1) (.inl ⟨1, rfl, .inr rfl, rfl⟩) ⟨1, rfl, rfl⟩
  · exact norm (.int 1) (.inr ⟨rfl, rfl⟩) ⟨1, rfl, rfl⟩
  · have O2 : Outs (G.plus h₁ S1.top f c) σ [e_law L] h₁ := by
      obtain ⟨m, hm1, _⟩ := P2.ns
      exact Outs.push (l := []) ⟨trivial, fun b hb => by cases hb⟩ (by rw [hf.fn]; decide) rfl hm1 P2.off P2.hT
    refine wpAny_call (heard_bad (n := n + 6) H' kf hfr (fun L' σ₁ e => lam_bad H' lf lc (e _ _ hc) (hb.ext' e) (Around.frames_deeper hfr)) (.ref _) (hA.le (by lia)) (s := { s with heap := h₁, toks := tk }) S2 O2 fun σ' t' h' tk' K S' ht' => ?_)
    have mem : ∀ b, b ∈ fra [e_law L] → b = L := fun b hb => by
      rcases List.mem_cons.mp (show b ∈ [L] from hb) with z | z
      · exact z
      · cases z
    have hin : L ∈ fra [e_law L] := .head _
    have g334 := K.keepA 334 _ hps hn fun hm => hL0 (mem _ hm)
    refine k _ _ h' tk' σ' (.ref t') S'.minus ?_ ⟨ps, g334.1⟩ g334.2 (.inr ⟨t', t, rfl, rfl, ht', K.ext _ _ htu⟩)
    obtain ⟨⟨m, hm1, hm⟩, p2, p3⟩ := P1
    exact ⟨⟨m, ns_slots hm1 fun o e => K.keepF L o e hin, hm⟩, K.off L hin, p3⟩
noncomputable def l25R : Expr := eN (eP r25).1 1
theorem l25R_ev (H : Pr G) (hf : FnEnv (e_law L)) : Ev G (n + 8) (e_law L) lv σ l25R fun r _ => r = .bool true := by
  refine ev_cmp (ev_call (ev_glob' hf (by kernel_rfl) (by kernel_rfl) (g_early_of H.toPg) (evs_cons (ev_dict0 fun d hd => evs_nil ⟨kp_early_of H, (c_early_none H (n := n + 7) (St.set_same _ _ _) rfl ?_).call⟩))))
  refine ev_int (cmp_eq_int ?_)
  rfl
theorem l25_eq : ∃ p1 p2 p3 p4 p5 p6, ls 25 = .Return (some (.BoolOp .And [.Compare (.Call (.Name "_law_heard" p1) [lamE] [] p2) [.Eq] [.Name "due" p3] p4, l25R] p5)) p6 := ⟨_, _, _, _, _, _, rfl⟩
theorem law25 (H : Pr G) (hA : Room A (n + 8)) (hfr : A.frames = some [e_law L]) (hf : FnEnv (e_law L)) (h334 : G.hT.get? 334 = none) {v due : V} (hl : lv "due" = some due) (hc : σ (L + 3) = some (.cell (some v))) (hd : DueV σ v due) :
    EndA A G (e_law L) lv σ (execs [ls 25] (e_law L)) := by
  refine ⟨fun s Φ E hS hP ht hn k => ?_⟩
  obtain ⟨p1, p2, p3, p4, p5, p6, e⟩ := l25_eq
  rw [execs_cons, e]
  refine wpAny_bind ?_
  rw [exec_Return_some]
  refine wpAny_bind (wpAny_standAt (wpAny_bind (BoolOp_and (wp_cmp (heard_call H hA hfr hf h334 hc hd hS hP ht hn fun r y h' tk σ' hy S P T n' q => ?_)))))
  refine wp_local hf (by kernel_rfl) hl P fun b hb => ?_
  have hcmp : Cmp G (n + 8) σ' .Eq r due fun c _ => c = .bool true := by
    rcases q with ⟨i, rfl, rfl⟩ | ⟨t, u, rfl, rfl, h1, h2⟩
    · exact cmp_eq_int (by simp)
    · exact cmp_eq_fault h1 h2 rfl
  refine hcmp y b hy hb A _ _ _ hA S trivial fun c x h2 tk2 σ2 hcx S2 K2 hq => ?_
  subst hq
  obtain rfl := VR.bool_ hcx
  refine wpAny_truthy_bool ?_
  show wpAny _ _ (eval (.BoolOp .And [l25R] p5) (e_law L)) _ _ _
  refine BoolOp_one (l25R_ev H hf A _ _ _ hA S2 (stable_env _ _ _ _ _ _ _ P K2) fun c x h3 tk3 σ3 hcx S3 K3 hq => ?_)
  subst hq
  obtain rfl := VR.bool_ hcx
  obtain ⟨ps, hps⟩ := T
  have g2 := K2 _ _ hps n'
  have g3 := K3 _ _ g2.1 g2.2
  exact wpAny_pure (wpAny_pure (k h3 tk3 S3.top ⟨ps, g3.1⟩))
end
set_option hygiene false
section
variable {G : Gd} {n : Nat} {A : Around} {σ : St}
theorem e_law_fn (L : Addr) : FnEnv (e_law L) := ⟨by kernel_rfl, by kernel_rfl, by kernel_rfl⟩
theorem law_cells (σ : St) (sc L : Addr) : cellSt σ (bC (callEnvC (fdOf k337) L 337).kindOf [(("script" : Str), V.ref sc)] fun _ => none) (cellsFrom (L + 1) (fdOf k337).scope.names []) = ((σ.set (L + 1) (.cell none)).set (L + 2) (.cell none)).set (L + 3) (.cell none) := by
  kernel_rfl
theorem law_lv (sc L : Addr) : bL (callEnvC (fdOf k337) L 337).kindOf [(("script" : Str), V.ref sc)] (fun _ => none) = noV.set "script" (.ref sc) := by
  kernel_rfl
theorem code_law (H : Pr G) {s : Shared} {R : Result → Shared → Prop} {sc : Addr} {ns : List Int} (hA : Room A 9) (hfr : A.frames = some []) (hS : Sit G σ s.heap) (h334 : G.hT.get? 334 = none) (ht : s.heap.get? 334 = some (tabObj #[])) (hn : σ 334 = none)
    (hsc : Scr G sc (ns.map V.int)) (hns : ns.length ≤ 1000) (k : ∀ h' tk, (∀ b o, G.hT.get? b = some o → h'.get? b = some o) → GrownAt 334 h' → R (.ok (.ret (.bool true))) { s with heap := h', toks := tk }) :
    codeAny (model G.prog G.w) A (.call (.ref 337) ⟨[.ref sc], []⟩) R s := by
  have hp : Paired KV ([("script", V.ref sc)] : List (Str × V)) ([("script", Value.ref sc)] : List (Str × Value)) := .cons ⟨rfl, .ref _⟩ .nil
  refine codeAny_call_cells (o := k337) (fd := fdOf k337) (body := fbody (top 50)) (binds := [("script", .ref sc)]) (by have := hA.dp; omega) (hS.top _ _ (H.at (by kernel_rfl))) (by kernel_rfl) (G.T.nolimit.keeps hS.top) ((H.code (by kernel_rfl)).keeps hS.top) (by kernel_rfl) (by kernel_rfl) (by kernel_rfl)
    (fun x hx => by cases hx with | head => exact .inl (show (fdOf k337).scope.names.lookup ("script" : Str) = some NameKind.local by kernel_rfl) | tail _ z => cases z) (fun s₁ hc => ?_) (by kernel_rfl) (by kernel_rfl) (by kernel_rfl)
  obtain ⟨h₁, tk₁, rfl, hk₁⟩ := hc.done
  have hS₁ : Sit G σ h₁ := hS.grow hk₁
  have above : ∀ n c, (n, c) ∈ cellsFrom (s.heap.objs.size + 1) (fdOf k337).scope.names [] → s.heap.objs.size < c := fun n c hm => hc.above n c hm
  have hTn : ∀ c, s.heap.objs.size ≤ c → G.hT.get? c = none := fun c hc => by
    cases e : G.hT.get? c with
    | none => rfl
    | some o => exact absurd (Heap.lt_size (hS.top _ _ e)) (Nat.not_lt.mpr hc)
  have hnd : ((cellsFrom 0 (fdOf k337).scope.names []).map (·.1)).Nodup := by decide +kernel
  have hS₂ : Sit G (cellSt σ (bC (callEnvC (fdOf k337) s.heap.objs.size 337).kindOf [(("script" : Str), V.ref sc)] fun _ => none) (cellsFrom (s.heap.objs.size + 1) (fdOf k337).scope.names [])) h₁ := by
    refine sit_cells (cm := bindC (callEnvC (fdOf k337) s.heap.objs.size 337).kindOf [("script", .ref sc)] fun _ => none) (bC_ok hp fun _ => .none) hS₁ fun n c hm => ⟨hc.cell n c (lookup_of_mem_nodup ?_ hm), hTn _ (Nat.le_of_lt (above n c hm)), Nat.ne_of_gt (Nat.lt_trans hS.big (above n c hm))⟩
    exact cellsFrom_names (fdOf k337).scope.names 0 (s.heap.objs.size + 1) [] [] rfl ▸ hnd
  have off : ∀ b, b ≤ s.heap.objs.size → σ b = none → cellSt σ (bC (callEnvC (fdOf k337) s.heap.objs.size 337).kindOf [(("script" : Str), V.ref sc)] fun _ => none) (cellsFrom (s.heap.objs.size + 1) (fdOf k337).scope.names []) b = none :=
    fun b hb e => cellSt_off e fun n c hm => Nat.ne_of_lt (Nat.lt_of_le_of_lt hb (above n c hm))
  have hP : EnvAt G (e_law s.heap.objs.size) (noV.set "script" (.ref sc)) (cellSt σ (bC (callEnvC (fdOf k337) s.heap.objs.size 337).kindOf [(("script" : Str), V.ref sc)] fun _ => none) (cellsFrom (s.heap.objs.size + 1) (fdOf k337).scope.names [])) h₁ :=
    ⟨⟨_, hc.toInCall.ns, fun x v hv => bL_ok hp (m := fun _ => none) (m' := fun _ => none) (fun _ _ e => by cases e) x v (by rw [law_lv]; exact hv)⟩, off _ (Nat.le_refl _) hS.fresh, hTn _ (Nat.le_refl _)⟩
  have hn2 := off 334 (Nat.le_of_lt (Heap.lt_size ht)) hn
  rw [law_cells] at hS₂ hP hn2
  have hA' : Room (A.deeper (e_law s.heap.objs.size)) 8 := room_deeper hA
  have n12 : s.heap.objs.size + 2 ≠ s.heap.objs.size + 1 := fun e => absurd (Nat.add_left_cancel e) (by decide)
  have n13 : s.heap.objs.size + 3 ≠ s.heap.objs.size + 1 := fun e => absurd (Nat.add_left_cancel e) (by decide)
  have n23 : s.heap.objs.size + 3 ≠ s.heap.objs.size + 2 := fun e => absurd (Nat.add_left_cancel e) (by decide)
  refine (c_law (n := 4) H hA' (e_law_fn _) hsc hns (St.upd (Ne.symm n13) (St.upd (Ne.symm n12) (St.set_same _ _ _))) (St.upd (Ne.symm n23) (St.set_same _ _ _)) (St.set_same _ _ _) fun lv σ v due h1 h2 h3 => law25 (n := 0) H hA' (Around.frames_deeper hfr) (e_law_fn _) h334 h1 h2 h3).run ⟨h₁, s.gens, s.drawn, tk₁, s.os⟩ _ _ hS₂ hP (hk₁ _ _ ht) hn2 fun h' tk k1 k2 => ?_
  exact k h' tk k1 k2
end
section
open PySem PySem.W PyProof.Rows PySem.Calls PySem.Spec
noncomputable def gd0 {w : World} {p : Program} {loose : List Str} {mean : ExcName → Option Value} {mg mb : Str → Option Value} {h : Heap} (hT : TabsAt [(336, 334)] h) (X : (K0 w.params).In h) (T : Top p loose mean mg mb h) : Gd where
  prog := PySem.Challenge.pw_nn0215_01
  w := w
  hT := ghostOf h [(336, 334)]
  K := K0 w.params
  p := topProg
  loose := loose ++ (recsOf p).map (·.name) ++ (litsOf p).map (·.1) ++ (clssOf p loose).map (·.name)
  mean := mean
  mg := mg
  mb := mb
  X := ghost_K hT X (by kernel_rfl)
  T := ghost_top hT T
  rom := rom0
  R := rom0_ok rfl (ghost_K hT X (by kernel_rfl))
theorem walk_law {d : DefRec} {kwd : List (Str × Expr)} (hdn : d.name = Str.ofString "law") : WalkO view0 loose0 (XL view0 lv0) hook0.says PySem.Challenge.rw_nn0215_01.row.toRowW d kwd fun f vs => PySem.call f vs := by
  intro w s₀ s₁ mg mb G Y fa o pm cd doc dV kV ho hd hcd hD hmg hg args vals as hpre hlay hrd hwl hlo
  have KX : (K0 w.params).In s₁.heap := Y.1
  have hT8 : s₁.heap.get? 334 = some (tabObj #[]) := Y.2 334 (.head _)
  have T := G.T
  have hT9 : TabsAt [(336, 334)] s₁.heap := fun q hq => by
    cases List.mem_singleton.mp hq
    exact ⟨codeHd_of_K (c := 336) (P := 334) KX (by kernel_rfl), hT8⟩
  have efa : fa = 337 := by
    rw [hdn] at hmg
    obtain ⟨o', es, ep, h1, h2, _, h4⟩ := T.g
    have h3 : s₁.heap.get? 3 = some (k3 w.params) := KX 3 _ (by kernel_rfl)
    rw [show mainGlobals = 3 from rfl, h3] at h1
    cases h1
    have h5 : findG w.params (Str.ofString "law") = some (.ref 337) := by kernel_rfl
    have h6 : findG w.params (Str.ofString "law") = mg (Str.ofString "law") := by
      rw [← h4]
      unfold findG
      rw [h2]
    rw [h5, hmg] at h6
    cases h6
    rfl
  subst efa
  clear hD hcd hd ho hmg
  wrow_args hpre hlay hrd hwl hlo
  rename_i ns hs hlay0 hlay1 hr1 hl2 as1 as2 sc vs as3 hL ra w1 r0 hI hr hlen hcond
  have hns : ns.length ≤ 1000 := by omega
  refine enter_call (kn_post (tabs := [(336, 334)]) hT9 (fun a x => rfl) ?_)
  have hG : Pr (gd0 hT9 KX T) := ⟨⟨rfl⟩, rfl⟩
  have hS : Sit (gd0 hT9 KX T) (fun _ => none) s₁.heap := ⟨fun b o e => of_hideAll _ e, fun _ _ _ => rfl, (fun a o e => by cases e), rfl⟩
  have hA : Room callerA 9 := ⟨rfl, by decide +kernel, by decide +kernel⟩
  refine code_law (G := gd0 hT9 KX T) hG hA rfl hS (hideAll_none _ (.head _)) hT8 rfl (scr_of (ghost_list hT9 hL) hI) hns fun h' tk k1 k2 => ⟨⟨.inl ⟨.bool true, .bool true, [], rfl, fun _ => rfl, .bool _, postW_of rfl (X := true) (by kernel_rfl) rfl, fun _ => ⟨List.nodup_nil, fun a ha => by cases ha⟩⟩, k1, rfl, hg⟩, k2, trivial⟩
noncomputable def dk0 : Option (DefRec × List (Str × Expr)) := defOf view0 (Str.ofString "law")
noncomputable def dLaw : DefRec := match dk0 with
  | some x => x.1
  | none => ⟨"law", default, [], default, ⟨0, 0, 0, 0⟩⟩
theorem k1_ok : PySem.Challenge.rw_nn0215_01.row.wellSaid = true → PySem.Challenge.rw_nn0215_01.row.Holds := fun said => by
  refine holds_open (q := view0) (loose := loose0) (Xt := fun s => xlAt view0 lv0 s && recOk PySem.Challenge.rw_nn0215_01.row.toRowW.records s) (XP := XL view0 lv0) (Yf := hook0.obs) (Ya := hook0.val) (YP := hook0.says) (d := dLaw) (kwd := []) (N := 4776) left0 (Hook.of hook0) (Hook.keeps hook0)
    (fun s e => xl_of s (Bool.and_eq_true_iff.mp e).1) XL.keeps (by kernel_rfl) (by kernel_rfl) (by kernel_rfl) (fun s e => recFacts_of (Bool.and_eq_true_iff.mp e).2) (by rfl) said ?ok ?bare ?hw (walk_law (by kernel_rfl))
  case ok => decide +kernel
  case bare => exact ⟨rfl, rfl, rfl, rfl, rfl, by decide +kernel⟩
  case hw => w_witness2
end
end
end Mine
theorem PySem.Challenge.cw_nn0215_01_holds : PySem.Challenge.rw_nn0215_01.Holds := by
  exact holds_law Mine.said0 Mine.k1_ok
