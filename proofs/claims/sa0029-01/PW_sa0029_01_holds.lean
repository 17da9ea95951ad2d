import PyProof.Rows.All
import Wide.All
import OpenK.AllK
import Wide.FinOn
import KE.KDictList
import PySem.Challenge.RW_sa0029_01
set_option Elab.async false
set_option maxHeartbeats 4000000
section
open PySem PySem.W PyProof.Rows
namespace Mine
section
local macro_rules | `(tactic| o_head $_) => `(tactic| exact False.elim ‹False›)
theorem hz.tw11935140377862899646 : True := trivial
theorem hz.tw5956859895454681803 : True := trivial
set_option Elab.async true in
set_option maxRecDepth 100000 in
set_option maxHeartbeats 8000000 in
theorem hz (f : False) : PySem.Challenge.rw_sa0029_01.Holds := by
  w_on
  o_law
  exact f.elim
theorem hz_done : True := trivial
set_option maxRecDepth 100000 in
set_option maxHeartbeats 8000000 in
theorem hx (f : False) : PySem.Challenge.rw_sa0029_01.Holds := by
  w_on
  o_law
  k_head
end
end Mine
end
section
open PySem PySem.W PyProof.Rows PySem.Calls PySem.Spec
set_option maxRecDepth 100000
set_option linter.unusedVariables false
namespace Mine

abbrev Locs := Str → Option Value
abbrev PG : Program := PySem.Challenge.pw_sa0029_01

abbrev Ext (b b₁ : Heap) : Prop := ∀ c o, b.get? c = some o → b₁.get? c = some o
/-- every object of b that is not in S stands in b₁ as it was -/
def Keep (S : Addr → Prop) (b b₁ : Heap) : Prop := ∀ c o, ¬ S c → b.get? c = some o → b₁.get? c = some o
theorem Ext.refl {b : Heap} : Ext b b := fun _ _ e => e
theorem Ext.trans {a b c : Heap} (x : Ext a b) (y : Ext b c) : Ext a c := fun d o e => y d o (x d o e)
theorem Keep.ext {S : Addr → Prop} {b b₁ : Heap} (e : Ext b b₁) : Keep S b b₁ := fun c o _ h => e c o h
theorem Keep.refl {S : Addr → Prop} {b : Heap} : Keep S b b := fun _ _ _ h => h

/-- a frame: its names' dict, its cells, and what is hidden behind it -/
structure Fram where
  L : Addr
  cl : List (Str × Addr)
  hid : List (Addr × Obj)
def Fram.fa (f : Fram) : List Addr := f.L :: (f.cl.map (·.2) ++ f.hid.map (·.1))
def Fram.more (f : Fram) (l : List (Addr × Obj)) : Fram := { f with hid := l ++ f.hid }
theorem Fram.fa_L (f : Fram) : f.L ∈ f.fa := .head _
theorem Fram.fa_cl (f : Fram) {x : Str} {c : Addr} (h : (x, c) ∈ f.cl) : c ∈ f.fa := .tail _ (List.mem_append_left _ (List.mem_map.mpr ⟨_, h, rfl⟩))
theorem Fram.fa_hid (f : Fram) {p : Addr × Obj} (h : p ∈ f.hid) : p.1 ∈ f.fa := .tail _ (List.mem_append_right _ (List.mem_map_of_mem h))
theorem Fram.fa_more (f : Fram) {l : List (Addr × Obj)} {c : Addr} (h : c ∈ (f.more l).fa) : c ∈ l.map (·.1) ∨ c ∈ f.fa := by
  simp only [fa, more, List.mem_cons, List.mem_append, List.map_append] at h ⊢
  rcases h with h | h | h | h <;> simp [h]
theorem Fram.fa_more' (f : Fram) {l : List (Addr × Obj)} {c : Addr} (h : c ∈ f.fa) : c ∈ (f.more l).fa := by
  simp only [fa, more, List.mem_cons, List.mem_append, List.map_append] at h ⊢
  rcases h with h | h | h <;> simp [h]
theorem Fram.fa_more_l (f : Fram) {l : List (Addr × Obj)} {c : Addr} (h : c ∈ l.map (·.1)) : c ∈ (f.more l).fa := by
  simp only [fa, more, List.mem_cons, List.mem_append, List.map_append] at h ⊢
  simp [h]

structure Fm (G b : Heap) (f : Fram) (h : Heap) (m : Locs) : Prop where
  ns : ∃ ml, h.Ns f.L ml ∧ ∀ x, f.cl.lookup x = none → ml x = m x
  cells : ∀ x c, f.cl.lookup x = some c → h.IsCell c (m x)
  one : ∀ x y c, f.cl.lookup x = some c → f.cl.lookup y = some c → x = y
  apart : ∀ x c, (x, c) ∈ f.cl → c ≠ f.L ∧ ∃ o, h.get? c = some o
  hid : ∀ p ∈ f.hid, h.get? p.1 = some p.2
  hidL : ∀ p ∈ f.hid, p.1 ≠ f.L ∧ ∀ x c, (x, c) ∈ f.cl → c ≠ p.1
  keep : ∀ c o, b.get? c = some o → h.get? c = some o
  out : ∀ c ∈ f.fa, b.get? c = none
  base : ∀ c o, G.get? c = some o → b.get? c = some o

section
variable {w : World} {G b h h₁ : Heap} {A : Around} {f : Fram} {m : Locs} {α β : Type}

theorem Fm.at (F : Fm G b f h m) {c : Addr} {o : Obj} (e : b.get? c = some o) : h.get? c = some o := F.keep c o e
theorem Fm.not_fa (F : Fm G b f h m) {c : Addr} {o : Obj} (e : b.get? c = some o) : c ∉ f.fa := fun q => by rw [F.out c q] at e; cases e
theorem Fm.live (F : Fm G b f h m) {c : Addr} (q : c ∈ f.fa) : ∃ o, h.get? c = some o := by
  simp only [Fram.fa, List.mem_cons, List.mem_append, List.mem_map] at q
  rcases q with rfl | ⟨p, hp, rfl⟩ | ⟨p, hp, rfl⟩
  · obtain ⟨ml, ⟨o, _, _, e, _⟩, _⟩ := F.ns; exact ⟨o, e⟩
  · exact (F.apart p.1 p.2 hp).2
  · exact ⟨_, F.hid p hp⟩
theorem Fm.gh (F : Fm G b f h m) : Ext G h := fun c o e => F.keep c o (F.base c o e)

/-- the frame's own objects as they were: the frame stands, over any base that lies in the heap behind it -/
theorem Fm.move {b₁ : Heap} (F : Fm G b f h m) (k : ∀ c ∈ f.fa, ∀ o, h.get? c = some o → h₁.get? c = some o) (kb : ∀ c o, b₁.get? c = some o → h₁.get? c = some o)
    (ko : ∀ c ∈ f.fa, b₁.get? c = none) (kg : ∀ c o, G.get? c = some o → b₁.get? c = some o) : Fm G b₁ f h₁ m where
  ns := by
    obtain ⟨ml, ⟨oL, es, ep, h1, h2, h3, h4⟩, hm⟩ := F.ns
    exact ⟨ml, ⟨oL, es, ep, k _ f.fa_L _ h1, h2, h3, h4⟩, hm⟩
  cells := fun x c hx => by
    obtain ⟨o, ho, hd⟩ := F.cells x c hx
    exact ⟨o, k _ (f.fa_cl (mem_of_lookup hx)) _ ho, hd⟩
  one := F.one
  apart := fun x c hx => ⟨(F.apart x c hx).1, let ⟨o, ho⟩ := (F.apart x c hx).2; ⟨o, k _ (f.fa_cl hx) _ ho⟩⟩
  hid := fun p hp => k _ (f.fa_hid hp) _ (F.hid p hp)
  hidL := F.hidL
  keep := kb
  out := ko
  base := kg

theorem Fm.ext (F : Fm G b f h m) (e : Ext h h₁) : Fm G b f h₁ m := F.move (fun c _ o => e c o) (fun c o q => e c o (F.keep c o q)) F.out F.base

/-- the heap behind a step, without the frame -/
theorem Fm.rebase {S : Addr → Prop} (F : Fm G b f h m) (k : Keep S h h₁) (hS : ∀ c, S c → ∃ o, b.get? c = some o) (hG : ∀ c, S c → G.get? c = none) :
    Fm G (hideAll h₁ f.fa) f h₁ m ∧ Keep S b (hideAll h₁ f.fa) := by
  have nS : ∀ c ∈ f.fa, ¬ S c := fun c hc s => by
    obtain ⟨o, e⟩ := hS c s
    rw [F.out c hc] at e; cases e
  have kb : Keep S b (hideAll h₁ f.fa) := fun c o n e => hideAll_get _ (k c o n (F.keep c o e)) (F.not_fa e)
  exact ⟨F.move (fun c hc o e => k c o (nS c hc) e) (fun c o e => of_hideAll _ e) (fun c hc => hideAll_none _ hc) fun c o e => kb c o (fun q => by rw [hG c q] at e; cases e) (F.base c o e), kb⟩
end

section
variable (w : World) (G : Heap) (A : Around) (f : Fram)
/-- an expression's step: the names stay -/
def ET {α : Type} (t : Sem α) (b : Heap) (m : Locs) (P : α → Heap → Prop) : Prop :=
  ∀ (s : Shared) (Q : α → Shared → Prop) (E : Value → Shared → Prop), Fm G b f s.heap m →
    (∀ a h₁ tk b₁, Fm G b₁ f h₁ m → P a b₁ → Q a { s with heap := h₁, toks := tk }) → wpAny (model PG w) A t Q E s
/-- a statement's step -/
def TT {α : Type} (t : Sem α) (b : Heap) (m : Locs) (P : α → Heap → Locs → Prop) : Prop :=
  ∀ (s : Shared) (Q : α → Shared → Prop) (E : Value → Shared → Prop), Fm G b f s.heap m →
    (∀ a h₁ tk b₁ m₁, Fm G b₁ f h₁ m₁ → P a b₁ m₁ → Q a { s with heap := h₁, toks := tk }) → wpAny (model PG w) A t Q E s
/-- a step that knows no frame -/
def CT {α : Type} (t : Sem α) (b : Heap) (P : α → Heap → Prop) : Prop := ∀ f m, ET w G A f t b m P
end

section
variable {w : World} {G b : Heap} {A : Around} {f : Fram} {m : Locs} {α β : Type}
theorem ET.pure {a : α} {P : α → Heap → Prop} (x : P a b) : ET w G A f (Pure.pure a) b m P := fun s _ _ F k => wpAny_pure (k a s.heap s.toks b F x)
theorem ET.bind {t : Sem α} {g : α → Sem β} {P : β → Heap → Prop} (x : ET w G A f t b m fun a b₁ => ET w G A f (g a) b₁ m P) : ET w G A f (t >>= g) b m P :=
  fun s Q E F k => wpAny_bind (x s _ E F fun a h₁ tk b₁ F₁ p => p _ Q E F₁ fun c h₂ tk₂ b₂ F₂ p₂ => k c h₂ tk₂ b₂ F₂ p₂)
theorem ET.mono {t : Sem α} {P P' : α → Heap → Prop} (x : ET w G A f t b m P) (g : ∀ a b₁, P a b₁ → P' a b₁) : ET w G A f t b m P' :=
  fun s Q E F k => x s Q E F fun a h₁ tk b₁ F₁ p => k a h₁ tk b₁ F₁ (g _ _ p)
theorem ET.holding {vs : List Value} {t : Sem α} {P : α → Heap → Prop} (x : ET w G A f t b m P) : ET w G A f (holding vs t) b m P := fun s Q E F k => wpAny_holding (x s Q E F k)
theorem ET.standAt {pos : Pos} {P : Unit → Heap → Prop} (x : P () b) : ET w G A f (standAt pos) b m P := fun s _ _ F k => wpAny_standAt (k () s.heap s.toks b F x)
theorem ET.point {P : Unit → Heap → Prop} (x : P () b) : ET w G A f point b m P := fun s _ _ F k => wpAny_point (k () s.heap s.toks b F x)
theorem CT.mono {t : Sem α} {P P' : α → Heap → Prop} (x : CT w G A t b P) (g : ∀ a b₁, P a b₁ → P' a b₁) : CT w G A t b P' := fun f m => (x f m).mono g
theorem TT.pure {a : α} {P : α → Heap → Locs → Prop} (x : P a b m) : TT w G A f (Pure.pure a) b m P := fun s _ _ F k => wpAny_pure (k a s.heap s.toks b m F x)
theorem TT.bind {t : Sem α} {g : α → Sem β} {P : β → Heap → Locs → Prop} (x : TT w G A f t b m fun a b₁ m₁ => TT w G A f (g a) b₁ m₁ P) : TT w G A f (t >>= g) b m P :=
  fun s Q E F k => wpAny_bind (x s _ E F fun a h₁ tk b₁ m₁ F₁ p => p _ Q E F₁ fun c h₂ tk₂ b₂ m₂ F₂ p₂ => k c h₂ tk₂ b₂ m₂ F₂ p₂)
theorem TT.mono {t : Sem α} {P P' : α → Heap → Locs → Prop} (x : TT w G A f t b m P) (g : ∀ a b₁ m₁, P a b₁ m₁ → P' a b₁ m₁) : TT w G A f t b m P' :=
  fun s Q E F k => x s Q E F fun a h₁ tk b₁ m₁ F₁ p => k a h₁ tk b₁ m₁ F₁ (g _ _ _ p)
theorem TT.holding {vs : List Value} {t : Sem α} {P : α → Heap → Locs → Prop} (x : TT w G A f t b m P) : TT w G A f (holding vs t) b m P := fun s Q E F k => wpAny_holding (x s Q E F k)
theorem TT.standAt {pos : Pos} {P : Unit → Heap → Locs → Prop} (x : P () b m) : TT w G A f (standAt pos) b m P := fun s _ _ F k => wpAny_standAt (k () s.heap s.toks b m F x)
theorem TT.point {P : Unit → Heap → Locs → Prop} (x : P () b m) : TT w G A f point b m P := fun s _ _ F k => wpAny_point (k () s.heap s.toks b m F x)
theorem TT.of {t : Sem α} {P : α → Heap → Locs → Prop} (x : ET w G A f t b m fun a b₁ => P a b₁ m) : TT w G A f t b m P := fun s Q E F k => x s Q E F fun a h₁ tk b₁ F₁ p => k a h₁ tk b₁ m F₁ p
theorem TT.bindE {t : Sem α} {g : α → Sem β} {P : β → Heap → Locs → Prop} (x : ET w G A f t b m fun a b₁ => TT w G A f (g a) b₁ m P) : TT w G A f (t >>= g) b m P := TT.bind (TT.of x)

/-- a library rule that leaves the heap as it is -/
theorem CT.still {t : Sem α} {P : α → Heap → Prop} (r : ∀ (s : Shared) (Q : α → Shared → Prop) (E : Value → Shared → Prop), Ext b s.heap → Ext G s.heap → (∀ a tk, P a b → Q a { s with toks := tk }) → wpAny (model PG w) A t Q E s) : CT w G A t b P :=
  fun f m s Q E F k => r s Q E F.keep F.gh fun a tk p => k a s.heap tk b F p
/-- a library rule that adds to the heap, what it adds unseen -/
theorem CT.grow {t : Sem α} {P : α → Heap → Prop} (r : ∀ (s : Shared) (Q : α → Shared → Prop) (E : Value → Shared → Prop), Ext b s.heap → Ext G s.heap → (∀ a h₁ tk, Ext s.heap h₁ → P a b → Q a { s with heap := h₁, toks := tk }) → wpAny (model PG w) A t Q E s) : CT w G A t b P :=
  fun f m s Q E F k => r s Q E F.keep F.gh fun a h₁ tk e p => k a h₁ tk b (F.ext e) p
/-- a library rule that makes one new object -/
theorem CT.new {t : Sem α} {P : α → Heap → Prop} (r : ∀ (s : Shared) (Q : α → Shared → Prop) (E : Value → Shared → Prop), Ext b s.heap → Ext G s.heap →
    (∀ v h₁ tk, Ext s.heap h₁ → (∀ b₁, Ext b b₁ → (∀ c o, s.heap.get? c = none → h₁.get? c = some o → b.get? c = none ∧ b₁.get? c = some o) → P v b₁) → Q v { s with heap := h₁, toks := tk }) → wpAny (model PG w) A t Q E s) : CT w G A t b P :=
  fun f m s Q E F k => r s Q E F.keep F.gh fun a h₁ tk e p => by
    have q := F.rebase (S := fun _ => False) (.ext e) (fun _ h => h.elim) (fun _ h => h.elim)
    refine k a h₁ tk _ q.1 (p _ (fun c o e => q.2 c o id e) fun c o n e' => ⟨?_, hideAll_get _ e' fun hc => ?_⟩)
    · cases hb : b.get? c with
      | none => rfl
      | some o' => rw [F.keep c o' hb] at n; cases n
    · obtain ⟨o', ho⟩ := F.live hc; rw [ho] at n; cases n
/-- a library rule that turns the object at c -/
theorem CT.turn {t : Sem α} {P : α → Heap → Prop} {c : Addr} {o o₁ : Obj} (e : b.get? c = some o) (g : G.get? c = none)
    (r : ∀ (s : Shared) (Q : α → Shared → Prop) (E : Value → Shared → Prop), Ext b s.heap → Ext G s.heap →
      (∀ a h₁ tk, (∀ d x, d ≠ c → s.heap.get? d = some x → h₁.get? d = some x) → h₁.get? c = some o₁ → (∀ b₁, (∀ d x, d ≠ c → b.get? d = some x → b₁.get? d = some x) → b₁.get? c = some o₁ → P a b₁) → Q a { s with heap := h₁, toks := tk }) →
      wpAny (model PG w) A t Q E s) : CT w G A t b P :=
  fun f m s Q E F k => r s Q E F.keep F.gh fun a h₁ tk e₁ e₂ p => by
    have q := F.rebase (S := fun d => d = c) (fun d x n y => e₁ d x n y) (fun _ h => h ▸ ⟨_, e⟩) (fun _ h => h ▸ g)
    exact k a h₁ tk _ q.1 (p _ (fun d x n y => q.2 d x n y) (hideAll_get _ e₂ (F.not_fa e)))
end

/-- what the walk knows of a block's names -/
structure EnvOk (env : Env) (f : Fram) (ns : List (Str × NameKind)) : Prop where
  kind : env.scope.kind = .function
  names : env.scope.names = ns
  locals : env.locals = f.L
  globals : env.globals = mainGlobals
  builtins : env.builtins = builtinsNs
  cells : env.cells = f.cl
theorem EnvOk.kindOf {env : Env} {f : Fram} {ns : List (Str × NameKind)} (O : EnvOk env f ns) (x : Str) : env.kindOf x = ns.lookup x := by unfold Env.kindOf; rw [O.names]

structure Wld (K : Frag) (G : Heap) : Prop where
  X : K.In G
  nolimit : G.NoLimit
  top : ∃ p loose mg mb, TopRead p loose mg mb G

section
variable {w : World} {G b : Heap} {A : Around} {f : Fram} {m : Locs} {env : Env} {ns : List (Str × NameKind)} {K : Frag}

theorem e_local {x : Str} {pos : Pos} {v : Value} {P : Value → Heap → Prop} (O : EnvOk env f ns) (hk : ns.lookup x = some .local) (hc : f.cl.lookup x = none) (hv : m x = some v) (k : P v b)
    (hd : (x == ("__debug__" : Str)) = false := by decide) : ET w G A f (eval (.Name x pos) env) b m P := fun s Q E F kk => by
  obtain ⟨ml, n, q⟩ := F.ns
  exact wpAny_Name (wpAny_loadName_local O.kind ((O.kindOf x).trans hk) (O.locals ▸ n) ((q x hc).trans hv) (kk v s.heap s.toks b F k)) hd
theorem e_cell {x : Str} {pos : Pos} {c : Addr} {v : Value} {P : Value → Heap → Prop} (O : EnvOk env f ns) (hk : ns.lookup x = some .cell) (hf : f.cl.lookup x = some c) (hv : m x = some v) (k : P v b)
    (hd : (x == ("__debug__" : Str)) = false := by decide) : ET w G A f (eval (.Name x pos) env) b m P := fun s Q E F kk =>
  wpAny_Name (wpAny_loadName_cell O.kind ((O.kindOf x).trans hk) (O.cells ▸ hf) (hv ▸ F.cells x c hf) (kk v s.heap s.toks b F k)) hd
theorem e_global {x : Str} {pos : Pos} {v : Value} {P : Value → Heap → Prop} (W : Wld K G) (O : EnvOk env f ns) (hk : ns.lookup x = some .globalImplicit) (hv : nsIn K mainGlobals x = some (some v)) (k : P v b)
    (hd : (x == ("__debug__" : Str)) = false := by decide) : ET w G A f (eval (.Name x pos) env) b m P := fun s Q E F kk => by
  obtain ⟨p, loose, mg, mb, T⟩ := W.top
  exact Name_function_global O.kind ((O.kindOf x).trans hk) (loadGlobal_global (mg := mg) (O.globals ▸ T.g.keeps F.gh) (mg_of W.X T.g hv) (kk v s.heap s.toks b F k)) hd
theorem e_builtin {x : Str} {pos : Pos} {v : Value} {P : Value → Heap → Prop} (W : Wld K G) (O : EnvOk env f ns) (hk : ns.lookup x = some .globalImplicit) (hn : nsIn K mainGlobals x = some none) (hv : bootBuiltins x = some v) (hx : x ≠ "__name__") (k : P v b)
    (hd : (x == ("__debug__" : Str)) = false := by decide) : ET w G A f (eval (.Name x pos) env) b m P := fun s Q E F kk => by
  obtain ⟨p, loose, mg, mb, T⟩ := W.top
  exact Name_function_global O.kind ((O.kindOf x).trans hk) (loadGlobal_builtin (O.globals ▸ T.g.keeps F.gh) (mg_none_of W.X T.g hn) (O.builtins ▸ T.b.keeps F.gh) ((T.builtins x hx).trans hv) (kk v s.heap s.toks b F k)) hd

theorem e_int {i : Int} {kk : Nat} {pos : Pos} {P : Value → Heap → Prop} (k : ∀ t, P (.int i t) b) : ET w G A f (eval (.Constant (.int i) kk pos) env) b m P := fun s Q E F c => wpAny_Constant_int (c _ _ _ b F (k _))
theorem e_str {x : Str} {kk : Nat} {pos : Pos} {P : Value → Heap → Prop} (k : ∀ t, P (.str x t) b) : ET w G A f (eval (.Constant (.str x) kk pos) env) b m P := fun s Q E F c => wpAny_Constant_str (c _ _ _ b F (k _))
theorem e_none {kk : Nat} {pos : Pos} {P : Value → Heap → Prop} (k : P .none b) : ET w G A f (eval (.Constant .none kk pos) env) b m P := fun s Q E F c => wpAny_Constant_none (c _ s.heap s.toks b F k)
theorem e_bool {x : Bool} {kk : Nat} {pos : Pos} {P : Value → Heap → Prop} (k : P (.bool x) b) : ET w G A f (eval (.Constant (.bool x) kk pos) env) b m P := fun s Q E F c => wpAny_Constant_bool (c _ s.heap s.toks b F k)

theorem Fm.store {h h₁ : Heap} {x : Str} {v : Value} (F : Fm G b f h m) (hc : f.cl.lookup x = none) {ml : Locs} (hm : ∀ x, f.cl.lookup x = none → ml x = m x) (hn : h₁.Ns f.L fun y => if y = x then some v else ml y)
    (hs : Heap.SameBut f.L h h₁) : Fm G b f h₁ fun y => if y = x then some v else m y where
  ns := ⟨_, hn, fun y hy => by by_cases e : y = x <;> simp only [e, if_true, if_false]; exact hm y hy⟩
  cells := fun y c hy => by
    have e : y ≠ x := fun q => by rw [q, hc] at hy; cases hy
    simp only [e, if_false]
    exact (F.cells y c hy).sameBut hs (F.apart y c (mem_of_lookup hy)).1
  one := F.one
  apart := fun y c hy => ⟨(F.apart y c hy).1, let ⟨o, ho⟩ := (F.apart y c hy).2; ⟨o, (hs.2 c (F.apart y c hy).1).trans ho⟩⟩
  hid := fun p hp => (hs.2 p.1 (F.hidL p hp).1).trans (F.hid p hp)
  hidL := F.hidL
  keep := fun c o e => (hs.2 c (fun q => F.not_fa e (q ▸ f.fa_L))).trans (F.keep c o e)
  out := F.out
  base := F.base
theorem Fm.storeCell {h h₁ : Heap} {x : Str} {c : Addr} {v : Value} (F : Fm G b f h m) (hc : f.cl.lookup x = some c) (hn : h₁.IsCell c (some v))
    (hs : Heap.SameBut c h h₁) : Fm G b f h₁ fun y => if y = x then some v else m y where
  ns := by
    obtain ⟨ml, n, q⟩ := F.ns
    refine ⟨ml, n.sameBut hs (Ne.symm (F.apart x c (mem_of_lookup hc)).1), fun y hy => ?_⟩
    have e : y ≠ x := fun q => by rw [q, hc] at hy; cases hy
    simp only [e, if_false]; exact q y hy
  cells := fun y d hy => by
    by_cases e : y = x
    · subst e
      obtain rfl : c = d := Option.some.inj (hc.symm.trans hy)
      simpa using hn
    · simp only [e, if_false]
      exact (F.cells y d hy).sameBut hs fun q => e (F.one y x c (q ▸ hy) hc)
  one := F.one
  apart := fun y d hy => ⟨(F.apart y d hy).1, by
    by_cases e : d = c
    · obtain ⟨o, ho, _⟩ := hn; exact ⟨o, e ▸ ho⟩
    · obtain ⟨o, ho⟩ := (F.apart y d hy).2; exact ⟨o, (hs.2 d e).trans ho⟩⟩
  hid := fun p hp => (hs.2 p.1 (Ne.symm ((F.hidL p hp).2 x c (mem_of_lookup hc)))).trans (F.hid p hp)
  hidL := F.hidL
  keep := fun d o e => (hs.2 d (fun q => F.not_fa e (q ▸ f.fa_cl (mem_of_lookup hc)))).trans (F.keep d o e)
  out := F.out
  base := F.base

theorem s_local {x : Str} {v : Value} {P : Unit → Heap → Locs → Prop} (O : EnvOk env f ns) (hk : ns.lookup x = some .local) (hc : f.cl.lookup x = none) (k : P () b fun y => if y = x then some v else m y) :
    TT w G A f (storeName env x v) b m P := fun s Q E F kk => by
  obtain ⟨ml, n, q⟩ := F.ns
  refine wpAny_storeName_local ((O.kindOf x).trans hk) (O.locals.symm ▸ n) (fun h₁ hn hs => kk () h₁ _ b _ (F.store hc q (O.locals ▸ hn) (O.locals ▸ hs)) k) ?_
  rw [O.kind]; rfl
theorem s_cell {x : Str} {c : Addr} {v : Value} {P : Unit → Heap → Locs → Prop} (O : EnvOk env f ns) (hk : ns.lookup x = some .cell) (hf : f.cl.lookup x = some c) (k : P () b fun y => if y = x then some v else m y) :
    TT w G A f (storeName env x v) b m P := fun s Q E F kk =>
  wpAny_storeName_cell O.kind ((O.kindOf x).trans hk) (O.cells ▸ hf) (F.cells x c hf) fun h₁ hn hs => kk () h₁ _ b _ (F.storeCell hf hn hs) k
theorem s_bind {x : Str} {v : Value} {P : Unit → Heap → Locs → Prop} (k : TT w G A f (storeName env x v) b m P) : TT w G A f (bindName env x v) b m P := fun s Q E F kk => wpAny_bindName (k s Q E F kk)
theorem s_name {x : Str} {pos : Pos} {v : Value} {P : Unit → Heap → Locs → Prop} (k : TT w G A f (storeName env x v) b m P) : TT w G A f (assign (.Name x pos) env v) b m P := fun s Q E F kk => wpAny_assign_Name (k s Q E F kk)
end

/-- n more levels of calls may be entered -/
structure AOk (n : Nat) (A : Around) : Prop where
  hd : A.handled = none
  depth : A.depth + 3 * n < recursionLimit
  units : A.units + 16 * n < cLine
theorem lin {a j c n L : Nat} (h : a + c * (n + 1) < L) (hj : j ≤ c) : a + j + c * n < L := by
  refine Nat.lt_of_le_of_lt ?_ h
  rw [Nat.mul_succ, Nat.add_assoc, Nat.add_comm j]
  exact Nat.add_le_add_left (Nat.add_le_add_left hj _) a
theorem AOk.deeper {n : Nat} {A : Around} (x : AOk (n + 1) A) (env : Env) : AOk n (A.deeper env) :=
  ⟨x.hd, lin (j := 1) x.depth (by decide), lin (j := 3) x.units (by decide)⟩
theorem AOk.in1 {n : Nat} {A : Around} (x : AOk (n + 1) A) : AOk n A.in1 :=
  ⟨x.hd, lin (j := 0) x.depth (by decide), lin (j := 1) x.units (by decide)⟩
theorem AOk.mono {n k : Nat} {A : Around} (x : AOk n A) (h : k ≤ n) : AOk k A :=
  ⟨x.hd, Nat.lt_of_le_of_lt (Nat.add_le_add_left (Nat.mul_le_mul_left 3 h) _) x.depth, Nat.lt_of_le_of_lt (Nat.add_le_add_left (Nat.mul_le_mul_left 16 h) _) x.units⟩
theorem lo {n j k : Nat} (h : Nat.ble k j = true) : n + k ≤ n + j := Nat.add_le_add_left (Nat.le_of_ble_eq_true h) n
theorem AOk.room {n : Nat} {A : Around} (x : AOk n A) : A.depth < recursionLimit := Nat.lt_of_le_of_lt (Nat.le_add_right _ _) x.depth
theorem AOk.u {n : Nat} {A : Around} (x : AOk n A) : A.units < cLine := Nat.lt_of_le_of_lt (Nat.le_add_right _ _) x.units
theorem AOk.u1 {n : Nat} {A : Around} (x : AOk (n + 1) A) : A.in1.units < cLine := Nat.lt_of_le_of_lt (Nat.le_add_right _ _) (lin (j := 1) x.units (by decide))
theorem AOk.ui {n : Nat} {A : Around} (x : AOk (n + 1) A) {k : Nat} (h : k ≤ 15) : A.units + k < cLine := Nat.lt_of_le_of_lt (Nat.le_add_right _ _) (lin (j := k) x.units (Nat.le_trans h (by decide)))

section
variable {w : World} {G b : Heap} {A : Around} {f : Fram} {m : Locs} {env : Env} {ns : List (Str × NameKind)} {K : Frag}

theorem t_nil {P : Flow → Heap → Locs → Prop} (k : P .next b m) : TT w G A f (execs [] env) b m P := fun s Q E F kk => wpAny_execs_nil (kk _ s.heap s.toks b m F k)
/-- what stands behind a statement -/
def After (w : World) (G : Heap) (A : Around) (f : Fram) (env : Env) (rest : List Stmt) (P : Flow → Heap → Locs → Prop) (fl : Flow) (b : Heap) (m : Locs) : Prop :=
  match fl with
  | .next => TT w G A f (execs rest env) b m P
  | fl => P fl b m
theorem t_cons {st : Stmt} {rest : List Stmt} {P : Flow → Heap → Locs → Prop} (k : TT w G A f (exec st env) b m (After w G A f env rest P)) :
    TT w G A f (execs (st :: rest) env) b m P := fun s Q E F kk => by
  refine wpAny_execs_cons (k s _ E F fun fl h₁ tk b₁ m₁ F₁ p => ?_)
  cases fl with
  | next => exact p _ Q E F₁ kk
  | _ => exact kk _ _ _ b₁ m₁ F₁ p
theorem t_ret {e : PySem.Expr} {pos : Pos} {P : Flow → Heap → Locs → Prop} (k : ET w G A f (eval e env) b m fun v b₁ => P (.ret v) b₁ m) : TT w G A f (exec (.Return (some e) pos) env) b m P :=
  fun s Q E F kk => wpAny_Return_some (k s _ E F fun v h₁ tk b₁ F₁ p => kk _ h₁ tk b₁ m F₁ p)
theorem t_retNone {pos : Pos} {P : Flow → Heap → Locs → Prop} (k : P (.ret .none) b m) : TT w G A f (exec (.Return none pos) env) b m P :=
  fun s Q E F kk => wpAny_Return_none (kk _ s.heap s.toks b m F k)
theorem t_assign {x : Str} {p' pos : Pos} {value : PySem.Expr} {P : Flow → Heap → Locs → Prop}
    (k : ET w G A f (eval value env) b m fun v b₁ => TT w G A f (storeName env x v) b₁ m fun _ => P .next)
    (hs : swapsWith value (some (.Name x p')) pos.line env = pure false := by rfl) : TT w G A f (exec (.Assign [.Name x p'] value pos) env) b m P :=
  fun s Q E F kk => wpAny_Assign_Name (k s _ E F fun v h₁ tk b₁ F₁ p => p _ _ E F₁ fun _ h₂ tk₂ b₂ m₂ F₂ p₂ => kk _ h₂ tk₂ b₂ m₂ F₂ p₂) hs
theorem t_if {test : PySem.Expr} {body orelse : List Stmt} {pos : Pos} {P : Flow → Heap → Locs → Prop}
    (k : ET w G A f (isTrue test env (eval test env)) b m fun c b₁ => (c = true → TT w G A f (execs body env) b₁ m P) ∧ (c = false → TT w G A f (execs orelse env) b₁ m P)) : TT w G A f (exec (.If test body orelse pos) env) b m P := by
  rw [exec_If]
  refine TT.bind (TT.standAt (TT.bindE (ET.mono k fun c b₁ p => ?_)))
  cases c
  · exact p.2 rfl
  · exact p.1 rfl
theorem e_binop {l r : PySem.Expr} {op : PySem.Operator} {pos : Pos} {P : Value → Heap → Prop}
    (k : ET w G A f (eval l env) b m fun u b₁ => ET w G A f (eval r env) b₁ m fun v b₂ => ET w G A f (binaryOp op u v) b₂ m P) : ET w G A f (eval (.BinOp l op r pos) env) b m P :=
  fun s Q E F kk => wpAny_BinOp (k s _ E F fun u h₁ tk b₁ F₁ p => p _ _ E F₁ fun v h₂ tk₂ b₂ F₂ p₂ => p₂ _ Q E F₂ kk)
theorem e_cmp {l r : PySem.Expr} {op : CmpOp} {pos : Pos} {P : Value → Heap → Prop}
    (k : ET w G A f (eval l env) b m fun u b₁ => ET w G A f (eval r env) b₁ m fun v b₂ => ET w G A f (compareOp op u v) b₂ m P)
    (hm : behindInMarks op r = false := by with_unfolding_all rfl) : ET w G A f (eval (.Compare l [op] [r] pos) env) b m P :=
  fun s Q E F kk => wpAny_Compare1 (k s _ E F fun u h₁ tk b₁ F₁ p => p _ _ E F₁ fun v h₂ tk₂ b₂ F₂ p₂ => p₂ _ _ E F₂ kk) hm
/-- a test's value, taken for true or not -/
inductive Bl (P : Bool → Heap → Prop) (v : Value) (b : Heap) : Prop
  | mk (c : Bool) (h : v = .bool c) (p : P c b)
theorem i_cmp {l r : PySem.Expr} {op : CmpOp} {pos : Pos} {whole : Sem Value} {P : Bool → Heap → Prop}
    (k : ET w G A f (eval l env) b m fun u b₁ => ET w G A f (eval r env) b₁ m fun v b₂ => ET w G A f (compareOp op u v) b₂ m (Bl P))
    (hm : behindInMarks op r = false := by with_unfolding_all rfl) : ET w G A f (isTrue (.Compare l [op] [r] pos) env whole) b m P :=
  fun s Q E F kk => wpAny_isTrue_Compare1 (k s _ E F fun u h₁ tk b₁ F₁ p => p _ _ E F₁ fun v h₂ tk₂ b₂ F₂ p₂ => p₂ _ _ E F₂ fun y h₃ tk₃ b₃ F₃ p₃ => by
    obtain ⟨c, rfl, q⟩ := p₃
    exact wpAny_truthy_bool (kk c h₃ tk₃ b₃ F₃ q)) hm
theorem i_not {x : PySem.Expr} {pos : Pos} {whole : Sem Value} {P : Bool → Heap → Prop} (k : ET w G A f (isTrue x env (eval x env)) b m fun c => P (!c)) : ET w G A f (isTrue (.UnaryOp .Not x pos) env whole) b m P :=
  fun s Q E F kk => wpAny_isTrue_Not (k s _ E F fun c h₁ tk b₁ F₁ p => kk _ h₁ tk b₁ F₁ p)
theorem i_boolop {op : BoolOp} {values : List PySem.Expr} {pos : Pos} {whole : Sem Value} {P : Bool → Heap → Prop} (k : ET w G A f (allTrue op values env) b m P) : ET w G A f (isTrue (.BoolOp op values pos) env whole) b m P :=
  fun s Q E F kk => wpAny_isTrue_BoolOp (k s _ E F kk)
theorem i_and_nil {P : Bool → Heap → Prop} (k : P true b) : ET w G A f (allTrue .And [] env) b m P := fun s Q E F kk => wpAny_allTrue_And_nil (kk _ s.heap s.toks b F k)
theorem i_or_nil {P : Bool → Heap → Prop} (k : P false b) : ET w G A f (allTrue .Or [] env) b m P := fun s Q E F kk => wpAny_allTrue_Or_nil (kk _ s.heap s.toks b F k)
theorem i_and {x : PySem.Expr} {rest : List PySem.Expr} {P : Bool → Heap → Prop}
    (k : ET w G A f (isTrue x env (eval x env)) b m fun c b₁ => (c = false → P false b₁) ∧ (c = true → ET w G A f (allTrue .And rest env) b₁ m P)) : ET w G A f (allTrue .And (x :: rest) env) b m P := by
  rw [allTrue]
  refine ET.bind (ET.mono k fun c b₁ p => ?_)
  cases c
  · exact ET.pure (p.1 rfl)
  · exact p.2 rfl
theorem i_or {x : PySem.Expr} {rest : List PySem.Expr} {P : Bool → Heap → Prop}
    (k : ET w G A f (isTrue x env (eval x env)) b m fun c b₁ => (c = true → P true b₁) ∧ (c = false → ET w G A f (allTrue .Or rest env) b₁ m P)) : ET w G A f (allTrue .Or (x :: rest) env) b m P := by
  rw [allTrue]
  refine ET.bind (ET.mono k fun c b₁ p => ?_)
  cases c
  · exact p.2 rfl
  · exact ET.pure (p.1 rfl)
theorem e_ifexp {test body orelse : PySem.Expr} {pos : Pos} {P : Value → Heap → Prop}
    (k : ET w G A f (isTrue test env (eval test env)) b m fun c b₁ => (c = true → ET w G A f (eval body env) b₁ m P) ∧ (c = false → ET w G A f (eval orelse env) b₁ m P)) :
    ET w G A f (eval (.IfExp test body orelse pos) env) b m P := by
  show ET w G A f (do if ← isTrue test env (eval test env) then eval body env else eval orelse env) b m P
  refine ET.bind (ET.mono k fun c b₁ p => ?_)
  cases c
  · exact p.2 rfl
  · exact p.1 rfl
theorem e_spl_nil {pos : Pos} {P : List Value → Heap → Prop} (k : P [] b) : ET w G A f (spliced (backTo pos (starEach [] env))) b m P := fun s Q E F kk => wpAny_items_nil (kk _ s.heap s.toks b F k)
theorem e_spl_cons {pos : Pos} {e : PySem.Expr} {rest : List PySem.Expr} {P : List Value → Heap → Prop}
    (k : ET w G A f (eval e env) b m fun v b₁ => ET w G A f (spliced (backTo pos (starEach rest env))) b₁ m fun vs => P (v :: vs))
    (he : starEach (e :: rest) env = (false, eval e env) :: starEach rest env := by rfl) : ET w G A f (spliced (backTo pos (starEach (e :: rest) env))) b m P := by
  rw [he]
  show ET w G A f (spliced ((false, eval e env) :: backTo pos (starEach rest env))) b m P
  rw [spliced]
  refine ET.bind (ET.mono k fun v b₁ p => ?_)
  show ET w G A f (do let here ← pure [v]; return here ++ (← holding here (spliced (backTo pos (starEach rest env))))) b₁ m P
  exact ET.bind (ET.pure (ET.bind (ET.holding (ET.mono p fun vs b₂ q => ET.pure q))))
theorem e_tuple {elts : List PySem.Expr} {kk : Nat} {pos : Pos} {P : Value → Heap → Prop} (k : ET w G A f (spliced (backTo pos (starEach elts env))) b m fun vs b₁ => ET w G A f (newTuple vs) b₁ m P) :
    ET w G A f (eval (.Tuple elts kk pos) env) b m P := fun s Q E F c => Tuple_ (k s _ E F fun vs h₁ tk b₁ F₁ p => p _ _ E F₁ c)
theorem e_list {elts : List PySem.Expr} {pos : Pos} {P : Value → Heap → Prop} (k : ET w G A f (spliced (backTo pos (starEach elts env))) b m fun vs b₁ => ET w G A f (newList vs) b₁ m P) :
    ET w G A f (eval (.List elts pos) env) b m P := fun s Q E F c => List_ (k s _ E F fun vs h₁ tk b₁ F₁ p => p _ _ E F₁ c)
theorem t_expr {e : PySem.Expr} {pos : Pos} {P : Flow → Heap → Locs → Prop} (O : EnvOk env f ns) (k : ET w G A f (eval e env) b m fun v b₁ => (∀ a, v ≠ .ref a) ∧ P .next b₁ m)
    (hs : swapsWith e none pos.line env = pure false := by rfl) : TT w G A f (exec (.Expr e pos) env) b m P := by
  have hi : interactive env = false := by unfold interactive; rw [O.kind]; rfl
  rw [exec_Expr (hi := hi) (hs := hs)]
  refine TT.bind (TT.standAt (TT.bindE (ET.mono k fun v b₁ p => ?_)))
  rw [dropValue_plain p.1]
  exact TT.pure p.2

/-- while, by a measure -/
theorem t_while {test : PySem.Expr} {body : List Stmt} {pos : Pos} {P : Flow → Heap → Locs → Prop} (I : Nat → Heap → Locs → Prop)
    (turn : ∀ n b m, I n b m → ET w G A f (isTrue test env (eval test env)) b m fun c b₁ =>
      (c = true → TT w G A f (execs body env) b₁ m fun fl b₂ m₂ => match fl with
        | .next | .cont => ∃ k, k < n ∧ I k b₂ m₂
        | .brk => P .next b₂ m₂
        | .ret v => P (.ret v) b₂ m₂) ∧ (c = false → P .next b₁ m))
    (n : Nat) (h0 : I n b m) : TT w G A f (exec (.While test body [] pos) env) b m P := fun s Q E F kk => by
  refine wpAny_While (codeAny_whileLoop (fun n s' => ∃ h' tk b' m', s' = { s with heap := h', toks := tk } ∧ Fm G b' f h' m' ∧ I n b' m') ?_ n ⟨s.heap, s.toks, b, m, rfl, F, h0⟩)
  rintro n s' ⟨h', tk, b', m', rfl, F', hI⟩
  refine turn n b' m' hI _ _ _ F' fun c h₁ tk₁ b₁ F₁ p => ?_
  cases c with
  | false => exact wpAny_execs_nil (kk _ h₁ tk₁ b₁ m' F₁ (p.2 rfl))
  | true =>
    refine p.1 rfl _ _ _ F₁ fun fl h₂ tk₂ b₂ m₂ F₂ q => ?_
    cases fl with
    | next => obtain ⟨k, hk, hI'⟩ := q; exact ⟨k, hk, h₂, tk₂, b₂, m₂, rfl, F₂, hI'⟩
    | cont => obtain ⟨k, hk, hI'⟩ := q; exact ⟨k, hk, h₂, tk₂, b₂, m₂, rfl, F₂, hI'⟩
    | brk => exact kk _ h₂ tk₂ b₂ m₂ F₂ q
    | ret v => exact kk _ h₂ tk₂ b₂ m₂ F₂ q
/-- the turn's end, kept closed -/
theorem TT.hide {α : Type} {c : Sem α} {P : α → Heap → Locs → Prop} {J : α → Heap → Locs → Prop} (h : ∀ x b m, J x b m → P x b m) (k : ∀ Q : α → Heap → Locs → Prop, (∀ x b m, J x b m → Q x b m) → TT w G A f c b m Q) : TT w G A f c b m P := k P h
end
end Mine
end
section
open PySem PySem.W PyProof.Rows PySem.Calls PySem.Spec Builtin Builtin.ObjectAttr
set_option maxRecDepth 100000
set_option linter.unusedVariables false
namespace Mine

section
variable {w : World} {G b : Heap} {A : Around} {f : Fram} {m : Locs} {env : Env} {ns : List (Str × NameKind)} {K : Frag} {α : Type}

theorem evalArgs_E {M : Model} {E : Value → Shared → Prop} {s : Shared} {fv : Value} {l : List (Bool × Sem Value)} {Q : Args → Shared → Prop} (hp : l.any (·.1) = false)
    (h : wpAny M A (spliced l) (fun vs s₁ => Q ⟨vs, []⟩ s₁) E s) : wpAny M A (evalArgs fv true l []) Q E s := by
  have tail : ∀ vs s₁, Q ⟨vs, []⟩ s₁ → wpAny M A (holding (vs ++ (none : Option Value).toList) (do
      let kw := (([] : List (Option Str × Sem Value)).filterMap (·.1)).zip (← evalAll ([] : List (Sem Value)))
      return (⟨← pure vs, kw⟩ : Args))) Q E s₁ := fun vs s₁ q => wpAny_holding (wpAny_bind (wpAny_pure (wpAny_bind (wpAny_pure (wpAny_pure q)))))
  have key : ∀ l : List (Bool × Sem Value), l.any (·.1) = false → evalArgs fv true l [] = (spliced l >>= fun vs => holding (vs ++ (none : Option Value).toList) (do
      let kw := (([] : List (Option Str × Sem Value)).filterMap (·.1)).zip (← evalAll ([] : List (Sem Value)))
      return (⟨← pure vs, kw⟩ : Args))) := by
    intro l hp
    unfold evalArgs
    match l, hp with
    | [], _ => rfl
    | [(false, x)], _ => rfl
    | [(true, x)], hp => cases hp
    | (false, _) :: _ :: _, _ => rfl
    | (true, _) :: _ :: _, hp => cases hp
  rw [key l hp]
  exact wpAny_bind (wpAny_mono h (fun vs s₁ q => tail vs s₁ q) fun _ _ e => e)

/-- what the caller's machine says of the thing called -/
def Keeps3 (w : World) (G : Heap) (fv : Value) : Prop := ∀ h, Ext G h → ∃ k, (k = Keeper.frame ∨ k = Keeper.machine ∨ k = Keeper.boundFrame) ∧ Looks (model PG w) h (keeperOf fv) k
theorem keeps3_K (W : Wld K G) {fv : Value} (hk : keepIn K fv = true) : Keeps3 w G fv := fun h e => keeps_K hk h (W.X.keeps e)
theorem keeps3_builtin {id : String} : Keeps3 w G (.builtin id) := fun h e => ⟨_, .inr (.inl rfl), Looks.of_pure rfl⟩
theorem keeps3_type {id : String} : Keeps3 w G (.type id) := fun h e => ⟨_, .inr (.inl rfl), Looks.of_pure rfl⟩

theorem e_callWith {pos : Pos} {fv : Value} {first : List Value} {args : List PySem.Expr} {P : Value → Heap → Prop} (hk : Keeps3 w G fv)
    (k : ET w G A f (spliced (backTo pos (starEach args env))) b m fun vs b₁ => ET w G A f (call fv (first ++ vs)) b₁ m P)
    (hp : (backTo pos (starEach args env)).any (·.1) = false := by rfl) : ET w G A f (callWith pos fv first (backTo pos (starEach args env)) []) b m P := fun s Q E F kk =>
  callWith_of (P := fun h => Ext G h) (by rw [hp]; rfl) hk (evalArgs_E hp (k s _ E F fun vs h₁ tk b₁ F₁ p => ⟨F₁.gh, p _ Q E F₁ kk⟩))

/-- f(args) by a name or another expression -/
theorem e_call {fn : PySem.Expr} {args : List PySem.Expr} {pos : Pos} {P : Value → Heap → Prop}
    (k : ET w G A f (eval fn env) b m fun fv b₁ => ET w G A f (callWith pos fv [] (backTo pos (starEach args env)) []) b₁ m P)
    (he : eval (.Call fn args [] pos) env = (do callWith pos (← eval fn env) [] (backTo pos (starEach args env)) (backToKw pos (keywordEach [] env))) := by rfl) :
    ET w G A f (eval (.Call fn args [] pos) env) b m P := fun s Q E F kk => Call_ (k s _ E F fun fv h₁ tk b₁ F₁ p => p _ Q E F₁ kk) he

/-- o.name(args) -/
theorem e_meth {o : PySem.Expr} {name : Str} {apos pos : Pos} {args : List PySem.Expr} {pl : Sem Bool} {P : Value → Heap → Prop}
    (k : ET w G A f (eval o env) b m fun ov b₁ => ET w G A f (getMethod ov name pl) b₁ m fun fx b₂ => ET w G A f (callWith pos fx.1 fx.2 (backTo pos (starEach args env)) []) b₂ m P)
    (he : eval (.Call (.Attribute o name apos) args [] pos) env = (do
      let ov ← eval o env
      standAt apos.atName
      let (f, first) ← holding [ov] (getMethod ov name pl)
      callWith pos f first (backTo pos (starEach args env)) (backToKw pos (keywordEach [] env))) := by rfl) :
    ET w G A f (eval (.Call (.Attribute o name apos) args [] pos) env) b m P := fun s Q E F kk =>
  methodCall_KW (k s _ E F fun ov h₁ tk b₁ F₁ p => p _ _ E F₁ fun fx h₂ tk₂ b₂ F₂ p₂ => p₂ _ Q E F₂ kk) he

theorem e_attribute {o : PySem.Expr} {name : Str} {pos : Pos} {P : Value → Heap → Prop}
    (k : ET w G A f (eval o env) b m fun ov b₁ => ET w G A f (getAttr ov name true) b₁ m P)
    (hb : attributeBase o name env (eval o env) = eval o env := by rfl) : ET w G A f (eval (.Attribute o name pos) env) b m P := fun s Q E F kk => by
  rw [arm_eval_Attribute, hb]
  exact wpAny_bind (k s _ E F fun ov h₁ tk b₁ F₁ p => wpAny_bind (wpAny_standAt (wpAny_bind (wpAny_holding (p _ _ E F₁ fun r h₂ tk₂ b₂ F₂ p₂ => wpAny_bind (wpAny_letTemporaryGo (wpAny_pure (kk r h₂ tk₂ b₂ F₂ p₂))))))))
end

/-! instances -/
/-- x is an instance of C whose dict lies at dx and says l -/
def InstD (b : Heap) (x dx C : Addr) (l : List (Str × Value)) : Prop :=
  ∃ es n, b.get? x = some (instObj C dx) ∧ b.get? dx = some (dictOf es n) ∧ (es.length ≤ l.length ∧ es.any (·.refKey) = false) ∧ ∀ nm, getL nm es = some (l.lookup nm)
def Inst (b : Heap) (x C : Addr) (l : List (Str × Value)) : Prop := ∃ dx, InstD b x dx C l
theorem InstD.ext {b b₁ : Heap} {x dx C : Addr} {l : List (Str × Value)} (I : InstD b x dx C l) (e : Ext b b₁) : InstD b₁ x dx C l :=
  let ⟨es, n, h1, h2, h3⟩ := I; ⟨es, n, e _ _ h1, e _ _ h2, h3⟩
theorem Inst.ext {b b₁ : Heap} {x C : Addr} {l : List (Str × Value)} (I : Inst b x C l) (e : Ext b b₁) : Inst b₁ x C l := let ⟨dx, d⟩ := I; ⟨dx, d.ext e⟩
theorem InstD.at {b h : Heap} {x dx C : Addr} {l : List (Str × Value)} (I : InstD b x dx C l) (e : Ext b h) : ∃ es n, InstAt h x (instObj C dx) C (some (dictOf es n)) ∧ h.get? dx = some (dictOf es n) ∧ (es.length ≤ l.length ∧ es.any (·.refKey) = false) ∧ ∀ nm, getL nm es = some (l.lookup nm) :=
  let ⟨es, n, h1, h2, h3⟩ := I; ⟨es, n, ⟨e _ _ h1, rfl, rfl, e _ _ h2⟩, e _ _ h2, h3⟩

/-- a name that the class C of the text leaves to its instances -/
structure ClsFld (K : Frag) (C : Addr) (nm : Str) : Prop where
  get : plainGet K C nm = true
  has : hasDictIn K C = true
  no : findIn K (.ref C) nm = some none
  set : findIn K (.ref C) "__setattr__" = some (some (.builtin "object.__setattr__"))
  over : plainOver K C = true
structure ClsMeth (K : Frag) (C : Addr) (nm : Str) (g : Addr) : Prop where
  get : plainGet K C nm = true
  find : findIn K (.ref C) nm = some (some (.ref g))
  fn : isFn K (.ref g) = true
  keep : keepIn K (.ref g) = true

/-- a field read, a method called -/
inductive FldOk (K : Frag) (nm : Str) (P : Value → Heap → Prop) (ov : Value) (b₁ : Heap) : Prop
  | mk (x C : Addr) (l : List (Str × Value)) (u : Value) (h : ov = .ref x) (I : Inst b₁ x C l) (c : ClsFld K C nm) (hl : l.lookup nm = some u) (hv : handedIn u = true) (q : P u b₁)
inductive MthOk (w : World) (G : Heap) (K : Frag) (A : Around) (f : Fram) (env : Env) (m : Locs) (nm : Str) (pos : Pos) (args : List PySem.Expr) (P : Value → Heap → Prop) (ov : Value) (b₁ : Heap) : Prop
  | mk (x C : Addr) (l : List (Str × Value)) (g : Addr) (h : ov = .ref x) (I : Inst b₁ x C l) (c : ClsMeth K C nm g) (hl : l.lookup nm = none) (q : ET w G A f (spliced (backTo pos (starEach args env))) b₁ m fun vs b₂ => ET w G A f (call (.ref g) (.ref x :: vs)) b₂ m P)
section
variable {w : World} {G b : Heap} {A : Around} {f : Fram} {m : Locs} {env : Env} {ns : List (Str × NameKind)} {K : Frag} {α : Type} {x dx C : Addr} {l : List (Str × Value)} {nm : Str} {v : Value}

theorem c_getAttr (W : Wld K G) (I : Inst b x C l) (c : ClsFld K C nm) (hl : l.lookup nm = some v) (hv : handedIn v = true) {expr : Bool} {P : Value → Heap → Prop} (k : P v b) :
    CT w G A (getAttr (.ref x) nm expr) b P := CT.still fun s Q E e g q => by
  obtain ⟨dx, I⟩ := I
  obtain ⟨es, n, I', _, _, hg⟩ := I.at e
  exact get_value (W.X.keeps g) I' (plainGet_of c.get).1 (findObj_own c.has c.no rfl (by show getL nm es = _; rw [hg, hl])) hv (q _ _ k)
theorem c_getMethod (W : Wld K G) (I : Inst b x C l) {g : Addr} (c : ClsMeth K C nm g) (hl : l.lookup nm = none) {pl : Sem Bool} {P : Value × List Value → Heap → Prop} (k : P (.ref g, [.ref x]) b) :
    CT w G A (getMethod (.ref x) nm pl) b P := CT.still fun s Q E e gg q => by
  obtain ⟨dx, I⟩ := I
  obtain ⟨es, n, I', _, _, hg⟩ := I.at e
  exact method_fn (W.X.keeps gg) I' (plainGet_of c.get).1 (plainGet_of c.get).2 c.find (beq_iff_eq.mp c.fn) (by show (lookIn nm (dictOf es n)).map _ = _; rw [lookIn_dict, hg, hl]; rfl) (q _ _ k)

/-- self.name, self.name(args) -/
theorem e_field {o : PySem.Expr} {pos : Pos} {P : Value → Heap → Prop} (W : Wld K G)
    (k : ET w G A f (eval o env) b m (FldOk K nm P))
    (hb : attributeBase o nm env (eval o env) = eval o env := by rfl) : ET w G A f (eval (.Attribute o nm pos) env) b m P :=
  e_attribute (k.mono fun ov b₁ p => by
    obtain ⟨x, C, l, u, rfl, I, c, hl, hv, q⟩ := p
    exact c_getAttr W I c hl hv q f m) hb
theorem e_method {o : PySem.Expr} {apos pos : Pos} {args : List PySem.Expr} {pl : Sem Bool} {P : Value → Heap → Prop} (W : Wld K G)
    (k : ET w G A f (eval o env) b m (MthOk w G K A f env m nm pos args P))
    (he : eval (.Call (.Attribute o nm apos) args [] pos) env = (do
      let ov ← eval o env
      standAt apos.atName
      let (f, first) ← holding [ov] (getMethod ov nm pl)
      callWith pos f first (backTo pos (starEach args env)) (backToKw pos (keywordEach [] env))) := by rfl)
    (hp : (backTo pos (starEach args env)).any (·.1) = false := by rfl) : ET w G A f (eval (.Call (.Attribute o nm apos) args [] pos) env) b m P :=
  e_meth (k.mono fun ov b₁ p => by
    obtain ⟨x, C, l, g, rfl, I, c, hl, q⟩ := p
    exact c_getMethod W I c hl (e_callWith (keeps3_K W c.keep) q hp) f m) he

theorem getL_putL (hsh : Int) (tk : Tok) (es : List DictEntry) (nr : es.any (·.refKey) = false) (y : Str) (r : Option Value) (h : getL y es = some r) :
    getL y (putL nm hsh (.str nm tk) v es) = some (if y = nm then some v else r) ∧ (putL nm hsh (.str nm tk) v es).any (·.refKey) = false := by
  have fnd : ∀ (es : List DictEntry), ((putL nm hsh (.str nm tk) v es).find? (·.key.isStr y)).map (·.val) = if y = nm then some v else (es.find? (·.key.isStr y)).map (·.val) := by
    intro es
    induction es with
    | nil =>
      by_cases e : y = nm
      · subst e; simp [putL, Value.isStr]
      · have : (nm == y) = false := beq_eq_false_iff_ne.mpr (Ne.symm e)
        simp [putL, Value.isStr, e, this]
    | cons e es ih =>
      unfold putL
      by_cases q : e.key.isStr nm = true
      · rw [if_pos q]
        by_cases ey : y = nm
        · subst ey; simp [q]
        · have nq : e.key.isStr y = false := by
            cases hk : e.key <;> rw [hk] at q <;> simp_all [Value.isStr]
            exact Ne.symm ey
          simp [nq, ey]
      · rw [if_neg q]
        by_cases qy : e.key.isStr y = true
        · have ey : y ≠ nm := fun z => q (z ▸ qy)
          simp [qy, ey]
        · rw [Bool.not_eq_true] at qy
          simp only [List.find?_cons, qy]
          exact ih
  have ref : ∀ es : List DictEntry, es.any (·.refKey) = false → (putL nm hsh (.str nm tk) v es).any (·.refKey) = false := by
    intro es
    induction es with
    | nil => intro _; simp [putL, DictEntry.refKey]
    | cons e es ih =>
      intro q
      rw [List.any_cons, Bool.or_eq_false_iff] at q
      unfold putL
      split
      · rw [List.any_cons, Bool.or_eq_false_iff]; exact ⟨q.1, q.2⟩
      · rw [List.any_cons, Bool.or_eq_false_iff]; exact ⟨q.1, ih q.2⟩
  refine ⟨?_, ref es nr⟩
  have h' : r = (es.find? (·.key.isStr y)).map (·.val) := by
    unfold getL at h
    split at h
    · rename_i e he; rw [he]; exact (Option.some.inj h).symm
    · rename_i he
      rw [nr] at h
      rw [he]; exact (Option.some.inj h).symm
  have := fnd es
  rw [← h'] at this
  rw [← this]
  unfold getL
  split
  · rename_i e he; rw [he]; rfl
  · rename_i he
    rw [he, if_neg (by rw [ref es nr]; decide)]; rfl
theorem putL_length (hsh : Int) (key : Value) : ∀ es : List DictEntry, (putL nm hsh key v es).length ≤ es.length + 1
  | [] => Nat.le_refl _
  | e :: es => by
    unfold putL
    split
    · simp
    · simp only [List.length_cons]; have := putL_length hsh key es; omega

theorem c_setAttr (W : Wld K G) (I : InstD b x dx C l) (c : ClsFld K C nm) (hG : G.get? dx = none) (hxd : dx ≠ x) (hz : l.length ≤ 100) {P : Unit → Heap → Prop}
    (k : ∀ b₁, (∀ d o, d ≠ dx → b.get? d = some o → b₁.get? d = some o) → InstD b₁ x dx C ((nm, v) :: l) → P () b₁) :
    CT w G A (setAttr (.ref x) nm v) b P := by
  obtain ⟨es, n, hx, hdx, ⟨hlen, href⟩, hg⟩ := id I
  intro f m s Q E F kk
  have I' : InstAt s.heap x (instObj C dx) C (some (dictOf es n)) := ⟨F.at hx, rfl, rfl, F.at hdx⟩
  have X := W.X.keeps F.gh
  refine set_plain X I' c.set (osa_open (s := { s with toks := s.toks + 1 }) (r := none) X I' c.over (by unfold takerIn; rw [c.no]; rfl) fun bb => ?_)
  obtain ⟨cd, hc, hd'⟩ := any_some c.has
  refine wpAny_bind (wpAny_pure (wpAny_bind (wpAny_bind (wpAny_loadPart (F.at hx) (wpAny_bind (looks_clsIn X hc _ _ _ _ (fun _ _ e => e) ?_))))))
  rw [hd']
  refine wpAny_pure (a := some dx) (wpAny_bind (wpAny_pure (wpAny_bind ?_)))
  unfold nsSet
  refine wpAny_bind (wpAny_bind (wpAny_askSetting (wpAny_pure (wpAny_bind (wpAny_mkText (wpAny_bind (wpAny_loadPart (F.at hdx) ?_)))))))
  dsimp only
  have nr : (!es.toArray.any (·.key.isStr nm) && es.toArray.any (·.refKey)) = false := by
    rw [List.any_toArray, List.any_toArray, href, Bool.and_false]
  rw [aRefKeyMayBeTheName_at, nr]
  have hf : ∀ tk, (Obj.putName nm (PyData.keyHash w.params nm) (.str nm tk) v (dictOf es n)) = dictOf (putL nm (PyData.keyHash w.params nm) (.str nm tk) v es) (putN nm es n) := fun tk => putName_dict ..
  refine wpAny_updatePart (F.at hdx) ?_
  have up : ∀ tk, (s.heap.update dx (Obj.putName nm (PyData.keyHash w.params nm) (.str nm tk) v)).get? dx = some (dictOf (putL nm (PyData.keyHash w.params nm) (.str nm tk) v es) (putN nm es n)) := fun tk => by
    rw [← hf tk]; exact Heap.get?_update_self _ (F.at hdx) (by rw [hf tk]; rfl)
  refine wpAny_bind (wpAny_lookBehind (up _) (pastItsLine_dict (by rw [List.size_toArray, sizeLine_eq]; have := putL_length (v := v) (nm := nm) (PyData.keyHash w.params nm) (.str nm (s.toks + 1)) es; omega)) ?_)
  have q := F.rebase (S := fun d => d = dx) (h₁ := s.heap.update dx (Obj.putName nm (PyData.keyHash w.params nm) (.str nm (s.toks + 1)) v)) (fun d o nd y => (Heap.get?_update_ne _ _ _ _ nd).trans y) (fun _ h => h ▸ ⟨_, hdx⟩) (fun _ h => h ▸ hG)
  refine wpAny_pure (kk () _ _ _ q.1 (k _ (fun d o nd y => q.2 d o nd y) ⟨_, _, q.2 _ _ (Ne.symm hxd) hx, hideAll_get _ (up _) (F.not_fa hdx), ⟨?_, (getL_putL _ _ es href nm _ (hg nm)).2⟩, fun y => ?_⟩))
  · have := putL_length (v := v) (nm := nm) (PyData.keyHash w.params nm) (.str nm (s.toks + 1)) es
    simp only [List.length_cons]; omega
  · rw [(getL_putL _ _ es href y _ (hg y)).1, List.lookup_cons]
    by_cases e : y = nm
    · simp [e]
    · have : (y == nm) = false := beq_eq_false_iff_ne.mpr e
      simp [e, this]
end
end Mine
end
section
open PySem PySem.W PyProof.Rows PySem.Calls PySem.Spec Builtin Builtin.ObjectAttr
set_option maxRecDepth 100000
set_option linter.unusedVariables false
namespace Mine

/-- a code's run, whatever frame lies around -/
def DT (w : World) (G : Heap) (A : Around) (c : Code) (b : Heap) (P : Value → Heap → Prop) : Prop :=
  ∀ (f : Fram) (m : Locs) (s : Shared) (R : Result → Shared → Prop), Fm G b f s.heap m →
    (∀ v h₁ tk b₁, Fm G b₁ f h₁ m → P v b₁ → R (.ok (.ret v)) { s with heap := h₁, toks := tk }) → codeAny (model PG w) A c R s
theorem CT.of_DT {w : World} {G b : Heap} {A : Around} {fv : Value} {args : List Value} {P : Value → Heap → Prop} (x : DT w G A (.call fv ⟨args, []⟩) b P) : CT w G A (call fv args) b P :=
  fun f m s Q E F k => wpAny_call (x f m s _ F fun v h₁ tk b₁ F₁ p => k v h₁ tk b₁ F₁ p)
theorem DT.mono {w : World} {G b : Heap} {A : Around} {c : Code} {P P' : Value → Heap → Prop} (x : DT w G A c b P) (g : ∀ v b₁, P v b₁ → P' v b₁) : DT w G A c b P' :=
  fun f m s R F k => x f m s R F fun v h₁ tk b₁ F₁ p => k v h₁ tk b₁ F₁ (g _ _ p)

/-- the parameters' names are names of the block -/
def okB (names : List (Str × NameKind)) (nms : List Str) : Bool :=
  let cl := (cellsFrom 0 names []).map (·.1)
  decide cl.Nodup && nms.all fun x => (names.lookup x == some .local && !cl.contains x) || (names.lookup x == some .cell && cl.contains x)

theorem bindL_local {kindOf : Str → Option NameKind} {y : Str} (hy : kindOf y = some .local) : ∀ (binds : List (Str × Value)) (m : Locs), bindL kindOf binds m y = (binds.reverse.lookup y).or (m y)
  | [], m => rfl
  | (n, v) :: r, m => by
    rw [bindL, bindL_local hy r]
    rw [List.reverse_cons, List.lookup_append]
    by_cases e : y = n
    · subst e; simp [hy]
    · have : (y == n) = false := beq_eq_false_iff_ne.mpr e
      by_cases k : kindOf n = some .local <;> simp [k, e, List.lookup_cons, this]
theorem bindC_cell {kindOf : Str → Option NameKind} {y : Str} (hy : kindOf y ≠ some .local) : ∀ (binds : List (Str × Value)) (m : Locs), bindC kindOf binds m y = (binds.reverse.lookup y).or (m y)
  | [], m => rfl
  | (n, v) :: r, m => by
    rw [bindC, bindC_cell hy r]
    rw [List.reverse_cons, List.lookup_append]
    by_cases e : y = n
    · subst e; simp [hy]
    · have : (y == n) = false := beq_eq_false_iff_ne.mpr e
      by_cases k : kindOf n = some .local <;> simp [k, e, List.lookup_cons, this]
theorem bindL_other {kindOf : Str → Option NameKind} {y : Str} : ∀ (binds : List (Str × Value)) (m : Locs), y ∉ binds.map (·.1) → bindL kindOf binds m y = m y
  | [], m, _ => rfl
  | (n, v) :: r, m, h => by
    simp only [List.map_cons, List.mem_cons, not_or] at h
    rw [bindL, bindL_other r _ h.2]
    by_cases k : kindOf n = some .local <;> simp [k, h.1]
theorem lookup_none_of {α : Type} {y : Str} {binds : List (Str × α)} (h : y ∉ binds.map (·.1)) : binds.reverse.lookup y = none := by
  cases e : binds.reverse.lookup y with
  | none => rfl
  | some v => exact absurd (List.mem_map.mpr ⟨(y, v), List.mem_reverse.mp (mem_of_lookup e), rfl⟩) h
theorem lookup_some_of_key {y : Str} : ∀ {l : List (Str × Addr)}, y ∈ l.map (·.1) → (l.lookup y).isSome = true
  | (n, c) :: r, h => by
    rw [List.lookup_cons]
    cases e : y == n with
    | true => rfl
    | false =>
      simp only [List.map_cons, List.mem_cons] at h
      rcases h with h | h
      · rw [h] at e; simp at e
      · exact lookup_some_of_key h

/-- a call's frame -/
abbrev Fr (sc : Scope) (L : Addr) (hid : List (Addr × Obj)) : Fram := ⟨L, cellsFrom (L + 1) sc.names [], hid⟩
/-- what a def hands back -/
abbrev Back (Q : Value → Heap → Prop) (fl : Flow) (b : Heap) (_ : Locs) : Prop := match fl with
  | .ret v => Q v b
  | _ => Q .none b
section
variable {w : World} {G b : Heap} {A : Around} {K : Frag}

inductive FnEx (K : Frag) (g : Addr) (name qual : Str) (params : Arguments) (body : List Stmt) (scope : Scope) : Prop
  | mk (doc pm an cdv ct oc od osl) (h1 : K.lookup g = some ⟨oc, od, .func (fnOf name qual params body scope .none .none doc pm an cdv ct), osl⟩) (h2 : codeIn K cdv qual = true)
/-- the function that stands at g in the text -/
structure FnIn (K : Frag) (g : Addr) (name qual : Str) (params : Arguments) (body : List Stmt) (scope : Scope) : Prop where
  ex : FnEx K g name qual params body scope
  co : scope.isCoroutine = false
  gen : scope.isGenerator = false
  kind : scope.kind = .function

theorem call_def0 {g : Addr} {name qual : Str} {params : Arguments} {body : List Stmt} {scope : Scope} {args : List Value} {binds : List (Str × Value)} {P : Value → Heap → Prop} {n : Nat}
    (W : Wld K G) (FI : FnIn K g name qual params body scope) (hA : AOk (n + 1) A)
    (hb : ∀ doc pm an cdv ct, bindArgs (fnOf name qual params body scope .none .none doc pm an cdv ct) ⟨args, []⟩ = pure binds)
    (hok : okB scope.names (binds.map (·.1)) = true)
    (h : ∀ L hid env, EnvOk env ⟨L, cellsFrom (L + 1) scope.names [], hid⟩ scope.names → TT w G (A.deeper env) ⟨L, cellsFrom (L + 1) scope.names [], hid⟩ (execs body env) b (fun x => binds.reverse.lookup x)
      fun fl b₁ _ => P (match fl with | .ret v => v | _ => .none) b₁) :
    DT w G A (.call (.ref g) ⟨args, []⟩) b P := by
  intro f m s R F kk
  obtain ⟨⟨doc, pm, an, cdv, ct, oc, od, osl, ho, hcd⟩, hco, hgen, hkd⟩ := FI
  have hokD := hok
  simp only [okB, Bool.and_eq_true, decide_eq_true_eq] at hok
  obtain ⟨hnd, hall⟩ := hok
  have hcn : ∀ n, (cellsFrom n scope.names []).map (·.1) = (cellsFrom 0 scope.names []).map (·.1) := fun n => cellsFrom_names scope.names n 0 [] [] rfl
  have hkinds : ∀ n, ∀ x ∈ binds, (scope.names.lookup x.1 = some .local ∧ x.1 ∉ (cellsFrom n scope.names []).map (·.1)) ∨ (scope.names.lookup x.1 = some .cell ∧ x.1 ∈ (cellsFrom n scope.names []).map (·.1)) := by
    intro n x hx
    rw [hcn n]
    have := List.all_eq_true.mp hall x.1 (List.mem_map_of_mem hx)
    simpa using this
  refine codeAny_call_function hA.room (W.X.keeps F.gh _ _ ho) rfl hco hgen rfl (codeRec_of (W.X.keeps F.gh) hcd) ?_
  rw [hb]
  refine wpAny_pure (wpAny_newFunctionEnv_cells hkd (fun x hx => ?_) fun env he s' x => ?_)
  · rcases hkinds (s.heap.objs.size + 1) x hx with h | h
    · exact .inl h.1
    · exact .inr ⟨h.1, lookup_some_of_key h.2⟩
  subst he
  refine ⟨(W.nolimit.keeps F.gh).keeps x.toInCall.keep, codeAny_func ?_⟩
  obtain ⟨h₁, tk, rfl, hk₁⟩ := x.done
  generalize hcl : cellsFrom (s.heap.objs.size + 1) scope.names [] = cl at x
  have hcl' : cellsFrom (s.heap.objs.size + 1) scope.names [] = cl := hcl
  have fresh : ∀ c, s.heap.objs.size ≤ c → b.get? c = none := fun c hc => by
    cases e : b.get? c with
    | none => rfl
    | some o => exact absurd (Heap.lt_size (F.keep c o e)) (Nat.not_lt.mpr hc)
  have ndl : (cl.map (·.1)).Nodup := by rw [← hcl, hcn]; exact hnd
  let hs : List (Addr × Obj) := f.fa.filterMap fun c => (s.heap.get? c).map fun o => (c, o)
  have hsM : ∀ c ∈ f.fa, ∀ o, s.heap.get? c = some o → (c, o) ∈ hs := fun c hc o e => List.mem_filterMap.mpr ⟨c, hc, by rw [e]; rfl⟩
  have hsM' : ∀ p ∈ hs, p.1 ∈ f.fa ∧ s.heap.get? p.1 = some p.2 := fun p hp => by
    obtain ⟨c, hc, e⟩ := List.mem_filterMap.mp hp
    obtain ⟨o, eo, rfl⟩ := Option.map_eq_some_iff.mp e
    exact ⟨hc, eo⟩
  have kindOf : ∀ (env : Env), env.scope = scope → ∀ y, env.kindOf y = scope.names.lookup y := fun env e y => by unfold Env.kindOf; rw [e]
  have F' : Fm G b ⟨s.heap.objs.size, cl, hs⟩ h₁ (fun x => binds.reverse.lookup x) := by
    refine ⟨⟨_, x.toInCall.ns, fun y hy => ?_⟩, fun y c hy => ?_, fun y z c hy hz => name_of_addr x.apart (mem_of_lookup hy) (mem_of_lookup hz), fun y c hy => ⟨Nat.ne_of_gt (x.above y c hy), ?_⟩, fun p hp => hk₁ _ _ (hsM' p hp).2,
      fun p hp => ⟨Nat.ne_of_lt (Heap.lt_size (hsM' p hp).2), fun y c hy => Nat.ne_of_gt (Nat.lt_trans (Heap.lt_size (hsM' p hp).2) (x.above y c hy))⟩, fun c o e => hk₁ c o (F.keep c o e), fun c hc => ?_, F.base⟩
    · dsimp only at hy
      by_cases hm : y ∈ binds.map (·.1)
      · obtain ⟨p, hp, rfl⟩ := List.mem_map.mp hm
        rcases hkinds (s.heap.objs.size + 1) p hp with h | h
        · rw [bindL_local (by rw [kindOf _ rfl]; exact h.1)]; simp
        · rw [hcl'] at h
          have := lookup_some_of_key h.2
          rw [hy] at this; cases this
      · rw [bindL_other _ _ hm, lookup_none_of hm]
    · dsimp only at hy
      have hc := x.cell y c hy
      have nl : scope.names.lookup y ≠ some .local ∨ y ∉ binds.map (·.1) := by
        by_cases hm : y ∈ binds.map (·.1)
        · obtain ⟨p, hp, rfl⟩ := List.mem_map.mp hm
          rcases hkinds (s.heap.objs.size + 1) p hp with h | h
          · rw [hcl'] at h
            exact absurd (List.mem_map_of_mem (f := (·.1)) (mem_of_lookup hy)) h.2
          · left; rw [h.1]; decide
        · exact .inr hm
      by_cases hl : scope.names.lookup y = some .local
      · have hm := nl.resolve_left (fun q => q hl)
        have other : ∀ (binds : List (Str × Value)) (m : Locs) (kf : Str → Option NameKind), y ∉ binds.map (·.1) → bindC kf binds m y = m y := by
          intro binds
          induction binds with
          | nil => intros; rfl
          | cons p r ih =>
            obtain ⟨n, v⟩ := p
            intro m kf h
            simp only [List.map_cons, List.mem_cons, not_or] at h
            rw [bindC, ih _ _ h.2]
            by_cases k : kf n = some .local <;> simp [k, h.1]
        rw [other _ _ _ hm] at hc
        rw [lookup_none_of hm]; exact hc
      · rw [bindC_cell (by rw [kindOf _ rfl]; exact hl)] at hc
        simpa using hc
    · obtain ⟨o, ho, _⟩ := x.cell y c (lookup_of_mem_nodup ndl hy); exact ⟨o, ho⟩
    · simp only [Fram.fa, List.mem_cons, List.mem_append, List.mem_map] at hc
      rcases hc with rfl | ⟨p, hp, rfl⟩ | ⟨p, hp, rfl⟩
      · exact fresh _ (Nat.le_refl _)
      · exact fresh _ (Nat.le_of_lt (x.above p.1 p.2 hp))
      · exact F.out _ (hsM' p hp).1
  refine h s.heap.objs.size hs _ ?_ _ _ _ (by rw [hcl']; exact F') fun fl h₂ tk₂ b₂ m₂ F₂ p => ?_
  · exact ⟨hkd, rfl, rfl, rfl, rfl, hcl'.symm⟩
  · rw [hcl'] at F₂
    refine kk _ h₂ tk₂ b₂ (F.move (fun c hc o e => F₂.hid (c, o) (hsM c hc o e)) F₂.keep (fun c hc => ?_) F₂.base) p
    obtain ⟨o, e⟩ := F.live hc
    exact F₂.out c (Fram.fa_hid ⟨s.heap.objs.size, cl, hs⟩ (p := (c, o)) (hsM c hc o e))

theorem call_def {g : Addr} {name qual : Str} {params : Arguments} {body : List Stmt} {scope : Scope} {args : List Value} {binds : List (Str × Value)} {P : Value → Heap → Prop} {n : Nat}
    (W : Wld K G) (FI : FnIn K g name qual params body scope) (hA : AOk (n + 1) A)
    (hb : ∀ doc pm an cdv ct, bindArgs (fnOf name qual params body scope .none .none doc pm an cdv ct) ⟨args, []⟩ = pure binds)
    (hok : okB scope.names (binds.map (·.1)) = true)
    (h : ∀ L hid env, EnvOk env (Fr scope L hid) scope.names → TT w G (A.deeper env) (Fr scope L hid) (execs body env) b (fun x => binds.reverse.lookup x)
      fun fl b₁ _ => P (match fl with | .ret v => v | _ => .none) b₁) :
    DT w G A (.call (.ref g) ⟨args, []⟩) b P := call_def0 W FI hA hb hok h
/-- the same, what is asked behind it kept closed -/
theorem call_defQ {g : Addr} {name qual : Str} {params : Arguments} {body : List Stmt} {scope : Scope} {args : List Value} {binds : List (Str × Value)} {P : Value → Heap → Prop} {n : Nat}
    (W : Wld K G) (FI : FnIn K g name qual params body scope) (hA : AOk (n + 1) A)
    (hb : ∀ doc pm an cdv ct, bindArgs (fnOf name qual params body scope .none .none doc pm an cdv ct) ⟨args, []⟩ = pure binds)
    (hok : okB scope.names (binds.map (·.1)) = true)
    (h : ∀ Q : Value → Heap → Prop, (∀ v b₁, P v b₁ → Q v b₁) → ∀ L hid env, EnvOk env (Fr scope L hid) scope.names → TT w G (A.deeper env) (Fr scope L hid) (execs body env) b (fun x => binds.reverse.lookup x)
      (Back Q)) :
    DT w G A (.call (.ref g) ⟨args, []⟩) b P := call_def W FI hA hb hok fun L hid env O => (h P (fun _ _ x => x) L hid env O).mono fun fl b₁ m p => by cases fl <;> exact p
theorem AOk.under_make {n : Nat} (x : AOk (n + 1) A) (C : Addr) (vals : List Value) : AOk n (A.under (.builtin "type.__call__" ⟨.ref C :: vals, []⟩)) := by
  refine ⟨x.hd, ?_, ?_⟩
  · rw [depth_under_make]; exact lin (j := 1) x.depth (by decide)
  · exact lin (j := 1) x.units (by decide)

theorem call_class {C fI : Addr} {args : List Value} {P : Value → Heap → Prop} (W : Wld K G) (hm : makesIn K C = true) (hi : findIn K (.ref C) "__init__" = some (some (.ref fI))) (hf : isFn K (.ref fI) = true)
    (h : ∀ b₁ x dx, Ext b b₁ → b.get? x = none → b.get? dx = none → dx ≠ x → InstD b₁ x dx C [] →
      DT w G (A.under (.builtin "type.__call__" ⟨.ref C :: args, []⟩)) (.call (.ref fI) ⟨.ref x :: args, []⟩) b₁ fun v b₂ => v = .none ∧ P (.ref x) b₂) :
    CT w G A (call (.ref C) args) b P := by
  intro f m s Q E F kk
  obtain ⟨hh, g, d, t, os⟩ := s
  have X := W.X.keeps F.gh
  refine wpAny_call (make_core (makes_of X hm) (looks_findIn X hi) (fun self => bind_fn X self (beq_iff_eq.mp hf)) (.inl rfl) ?_)
  have e1 : Ext hh ((hh.push emptyDict).push (instObj C hh.objs.size)) := fun c o e => Heap.get?_push_of_some _ (Heap.get?_push_of_some _ e)
  have q := F.rebase (S := fun _ => False) (.ext e1) (fun _ h => h.elim) (fun _ h => h.elim)
  have hx : ((hh.push emptyDict).push (instObj C hh.objs.size)).get? (hh.objs.size + 1) = some (instObj C hh.objs.size) := by heap_get
  have hdx : ((hh.push emptyDict).push (instObj C hh.objs.size)).get? hh.objs.size = some (dictOf [] 0) := by
    show _ = some emptyDict
    exact Heap.get?_push_of_some _ (Heap.get?_push_size _ rfl)
  have fresh : ∀ c, hh.objs.size ≤ c → hh.get? c = none := fun c hc => by
    cases e : hh.get? c with
    | none => rfl
    | some o => exact absurd (Heap.lt_size e) (Nat.not_lt.mpr hc)
  have nfa : ∀ c, hh.objs.size ≤ c → c ∉ f.fa := fun c hc q => by
    obtain ⟨o, ho⟩ := F.live q; rw [fresh c hc] at ho; cases ho
  have nb : ∀ c, hh.objs.size ≤ c → b.get? c = none := fun c hc => by
    cases e : b.get? c with
    | none => rfl
    | some o => have := F.keep c o e; rw [fresh c hc] at this; cases this
  refine h _ (hh.objs.size + 1) hh.objs.size (fun c o e => q.2 c o id e) (nb _ (Nat.le_succ _)) (nb _ (Nat.le_refl _)) (Nat.ne_of_lt (Nat.lt_succ_self _))
    ⟨[], 0, hideAll_get _ hx (nfa _ (Nat.le_succ _)), hideAll_get _ hdx (nfa _ (Nat.le_refl _)), ⟨Nat.le_refl _, rfl⟩, fun _ => rfl⟩ f m _ _ q.1 fun v h₁ tk b₁ F₁ p => ?_
  obtain ⟨rfl, p⟩ := p
  exact ⟨rfl, kk _ h₁ tk b₁ F₁ p⟩
end
end Mine
end
section
open PySem PySem.W PyProof.Rows PySem.Calls PySem.Spec Builtin
set_option maxRecDepth 100000
set_option linter.unusedVariables false
namespace Mine

/-- a list of the call's own, a tuple of it -/
def Ls (b : Heap) (a : Addr) (vs : List Value) : Prop := ∃ n, IsL b a vs.toArray n
def Tp (b : Heap) (a : Addr) (vs : List Value) : Prop := ∃ n, IsT b a vs.toArray n
theorem Ls.ext {b b₁ : Heap} {a : Addr} {vs : List Value} (x : Ls b a vs) (e : Ext b b₁) : Ls b₁ a vs := let ⟨n, h⟩ := x; ⟨n, e _ _ h⟩
theorem Tp.ext {b b₁ : Heap} {a : Addr} {vs : List Value} (x : Tp b a vs) (e : Ext b b₁) : Tp b₁ a vs := let ⟨n, h⟩ := x; ⟨n, e _ _ h⟩
theorem Ls.at {b b₁ : Heap} {a : Addr} {vs : List Value} (x : Ls b a vs) (e : ∀ o, b.get? a = some o → b₁.get? a = some o) : Ls b₁ a vs := let ⟨n, h⟩ := x; ⟨n, e _ h⟩
theorem Tp.at {b b₁ : Heap} {a : Addr} {vs : List Value} (x : Tp b a vs) (e : ∀ o, b.get? a = some o → b₁.get? a = some o) : Tp b₁ a vs := let ⟨n, h⟩ := x; ⟨n, e _ h⟩
theorem Ls.is {b : Heap} {a : Addr} {vs : List Value} (x : Ls b a vs) : b.IsList a vs.toArray := let ⟨n, h⟩ := x; ⟨_, h, rfl, n, rfl⟩
theorem Tp.is {b : Heap} {a : Addr} {vs : List Value} (x : Tp b a vs) : b.IsTuple a vs.toArray := let ⟨n, h⟩ := x; ⟨_, h, rfl, n, rfl⟩
theorem Tp.tup {b : Heap} {a : Addr} {vs : List Value} (x : Tp b a vs) : IsTup b a vs.toArray := let ⟨n, h⟩ := x; ⟨_, h, rfl, n, rfl⟩
theorem Ls.live {b : Heap} {a : Addr} {vs : List Value} (x : Ls b a vs) : ∃ o, b.get? a = some o := let ⟨n, h⟩ := x; ⟨_, h⟩
theorem Tp.live {b : Heap} {a : Addr} {vs : List Value} (x : Tp b a vs) : ∃ o, b.get? a = some o := let ⟨n, h⟩ := x; ⟨_, h⟩

section
variable {w : World} {G b : Heap} {A : Around} {f : Fram} {m : Locs} {env : Env} {K : Frag} {α : Type} {n : Nat}

/-- a rule that makes one object, and no more -/
theorem CT.push {t : Sem Value} {P : Value → Heap → Prop} {ob : Nat → Obj} (ho : ∀ t, (ob t).isFreed = false)
    (r : ∀ (s : Shared) (Q : Value → Shared → Prop) (E : Value → Shared → Prop), Ext b s.heap → Ext G s.heap → (∀ k tk, Q (.ref s.heap.objs.size) { s with heap := s.heap.push (ob k), toks := tk }) → wpAny (model PG w) A t Q E s)
    (k : ∀ a b₁ t, Ext b b₁ → b.get? a = none → b₁.get? a = some (ob t) → P (.ref a) b₁) : CT w G A t b P :=
  CT.new fun s Q E e g q => r s Q E e g fun k' tk => q _ _ tk (fun c o x => Heap.get?_push_of_some _ x) fun b₁ e₁ hn => by
    have fresh : s.heap.get? s.heap.objs.size = none := Heap.get?_none_of_le (Nat.le_refl _)
    have := hn s.heap.objs.size (ob k') fresh (Heap.get?_push_size _ (ho _))
    exact k _ b₁ k' e₁ this.1 this.2

/-- a library rule that turns the object at c, to whatever -/
theorem CT.turn' {t : Sem α} {P : α → Heap → Prop} {c : Addr} {o : Obj} (e : b.get? c = some o) (g : G.get? c = none)
    (r : ∀ (s : Shared) (Q : α → Shared → Prop) (E : Value → Shared → Prop), Ext b s.heap → Ext G s.heap →
      (∀ a h₁ tk o₁, (∀ d x, d ≠ c → s.heap.get? d = some x → h₁.get? d = some x) → h₁.get? c = some o₁ → (∀ b₁, (∀ d x, d ≠ c → b.get? d = some x → b₁.get? d = some x) → b₁.get? c = some o₁ → P a b₁) → Q a { s with heap := h₁, toks := tk }) →
      wpAny (model PG w) A t Q E s) : CT w G A t b P :=
  fun f m s Q E F k => r s Q E F.keep F.gh fun a h₁ tk o₁ e₁ e₂ p => by
    have q := F.rebase (S := fun d => d = c) (fun d x n y => e₁ d x n y) (fun _ h => h ▸ ⟨_, e⟩) (fun _ h => h ▸ g)
    exact k a h₁ tk _ q.1 (p _ (fun d x n y => q.2 d x n y) (hideAll_get _ e₂ (F.not_fa e)))

theorem c_newList {vs : List Value} {P : Value → Heap → Prop} (hz : vs.length ≤ sizeLine) (k : ∀ a b₁, Ext b b₁ → b.get? a = none → Ls b₁ a vs → P (.ref a) b₁) : CT w G A (newList vs) b P :=
  CT.push (ob := fun _ => { cls := .type "list", data := .seq vs.toArray }) (fun _ => rfl) (fun s Q E _ _ q => wpAny_newList (q 0 s.toks) hz) fun a b₁ _ e n x => k a b₁ e n ⟨_, x⟩
theorem c_newTuple {vs : List Value} {P : Value → Heap → Prop} (hz : vs.length ≤ sizeLine) (k : ∀ a b₁, Ext b b₁ → b.get? a = none → Tp b₁ a vs → P (.ref a) b₁) : CT w G A (newTuple vs) b P :=
  CT.push (ob := fun _ => { cls := .type "tuple", data := .seq vs.toArray }) (fun _ => rfl) (fun s Q E _ _ q => wpAny_newTuple (q 0 s.toks) hz) fun a b₁ _ e n x => k a b₁ e n ⟨_, x⟩

/-! ints -/
theorem c_eq_int {a c : Int} {t u : Tok} {P : Value → Heap → Prop} (k : P (.bool (a == c)) b) : CT w G A (compareOp .Eq (.int a t) (.int c u)) b P := CT.still fun s Q E _ _ q => PyProof.Rows.eq_int (q _ s.toks k)
theorem c_ne_int {a c : Int} {t u : Tok} {P : Value → Heap → Prop} (k : P (.bool (a != c)) b) : CT w G A (compareOp .NotEq (.int a t) (.int c u)) b P := CT.still fun s Q E _ _ q => PyProof.Rows.ne_int (q _ s.toks k)
theorem c_lt_int {a c : Int} {t u : Tok} {P : Value → Heap → Prop} (k : P (.bool (decide (a < c))) b) : CT w G A (compareOp .Lt (.int a t) (.int c u)) b P := CT.still fun s Q E _ _ q => PyProof.Rows.lt_int (q _ s.toks k)
theorem c_le_int {a c : Int} {t u : Tok} {P : Value → Heap → Prop} (k : P (.bool (decide (a ≤ c))) b) : CT w G A (compareOp .LtE (.int a t) (.int c u)) b P := CT.still fun s Q E _ _ q => PyProof.Rows.le_int (q _ s.toks k)
theorem c_gt_int {a c : Int} {t u : Tok} {P : Value → Heap → Prop} (k : P (.bool (decide (c < a))) b) : CT w G A (compareOp .Gt (.int a t) (.int c u)) b P := CT.still fun s Q E _ _ q => PyProof.Rows.gt_int (q _ s.toks k)
theorem c_ge_int {a c : Int} {t u : Tok} {P : Value → Heap → Prop} (k : P (.bool (decide (c ≤ a))) b) : CT w G A (compareOp .GtE (.int a t) (.int c u)) b P := CT.still fun s Q E _ _ q => PyProof.Rows.ge_int (q _ s.toks k)
theorem c_add_int {a c : Int} {t u : Tok} {P : Value → Heap → Prop} (k : ∀ t, P (.int (a + c) t) b) : CT w G A (binaryOp .Add (.int a t) (.int c u)) b P := CT.still fun s Q E _ _ q => wpAny_add_int (q _ _ (k _))

/-! items -/
/-- a thing whose items are asked of the machine -/
def Sub (b : Heap) (o : Value) : Prop := ∃ T id, (∀ s : Shared, Ext b s.heap → s.TypeIs o T) ∧ typeLookup (.type T) "__getitem__" = pure (some (.builtin id))
theorem Ls.sub {a : Addr} {vs : List Value} (x : Ls b a vs) : Sub b (.ref a) := ⟨"list", _, fun s e => (x.ext e).is.typeIs, slot_list_getitem.lookup⟩
theorem Tp.sub {a : Addr} {vs : List Value} (x : Tp b a vs) : Sub b (.ref a) := ⟨"tuple", _, fun s e => (x.ext e).is.typeIs, slot_tuple_getitem.lookup⟩
theorem sub_str {x : Str} {t : Tok} : Sub b (.str x t) := ⟨"str", _, fun s e => rfl, PySem.F.slot_str_getitem.lookup⟩

theorem e_sub {value slice : PySem.Expr} {pos : Pos} {P : Value → Heap → Prop} {ops : Value → Value → List Value}
    (k : ET w G A f (eval value env) b m fun o b₁ => ET w G A f (eval slice env) b₁ m fun i b₂ => Sub b₂ o ∧ ET w G A f (getItem o i) b₂ m P)
    (hs : ∀ o i, subscripted slice false o i = operate (ops o i) (getItem o i) := by intro _ _; with_unfolding_all rfl) : ET w G A f (eval (.Subscript value slice pos) env) b m P :=
  fun s Q E F kk => Subscript_ (k s _ E F fun o h₁ tk b₁ F₁ p => p _ _ E F₁ fun i h₂ tk₂ b₂ F₂ p₂ => by
    obtain ⟨⟨T, id, hT, hl⟩, p₂⟩ := p₂
    exact tail_any (hT ⟨h₂, _, _, _, _⟩ F₂.keep) hl (p₂ _ _ E F₂ kk) (hs o i))

theorem c_getItem_list {a : Addr} {vs : List Value} {i : Int} {u : Tok} {v : Value} {P : Value → Heap → Prop} (x : Ls b a vs) (h0 : 0 ≤ i) (hz : vs.length ≤ sizeLine) (hv : vs[i.toNat]? = some v) (k : P v b) :
    CT w G A (getItem (.ref a) (.int i u)) b P := CT.still fun s Q E e _ q =>
  wpAny_getItem_list (x.ext e).is h0 (by have := (List.getElem?_eq_some_iff.mp hv).1; rw [sizeLine_eq] at hz; omega) (by simpa using hv) (q _ s.toks k)
theorem c_getItem_tuple {a : Addr} {vs : List Value} {i : Nat} {u : Tok} {v : Value} {P : Value → Heap → Prop} (x : Tp b a vs) (hz : vs.length ≤ sizeLine) (hv : vs[i]? = some v) (k : P v b) :
    CT w G A (getItem (.ref a) (.int i u)) b P := CT.still fun s Q E e _ q => by
  have hi := (List.getElem?_eq_some_iff.mp hv).1
  rw [sizeLine_eq] at hz
  exact PyProof.Rows.getItem_tuple (x.ext e).tup (by omega) (by omega) (j := i) (by simp [seqIndex?]; omega) (by simpa using hv) (q _ s.toks k)

/-! len -/
theorem c_len_list {a : Addr} {vs : List Value} {P : Value → Heap → Prop} (x : Ls b a vs) (hz : vs.length ≤ sizeLine) (k : ∀ t, P (.int vs.length t) b) : CT w G A (call (.builtin "len") [.ref a]) b P :=
  CT.still fun s Q E e _ q => call_len_list (x.ext e).is (by simp; rw [sizeLine_eq] at hz; omega) (by simpa using q _ _ (k _))
theorem c_len_tuple {a : Addr} {vs : List Value} {P : Value → Heap → Prop} (x : Tp b a vs) (hz : vs.length ≤ sizeLine) (k : ∀ t, P (.int vs.length t) b) : CT w G A (call (.builtin "len") [.ref a]) b P :=
  CT.still fun s Q E e _ q => PyProof.Rows.len_tuple (x.ext e).tup (by simp; rw [sizeLine_eq] at hz; omega) (by simpa using q _ _ (k _))

/-! a list's own methods -/
theorem c_getMethod_list {a : Addr} {vs : List Value} {nm : Str} {id : String} {pl : Sem Bool} {P : Value × List Value → Heap → Prop} (x : Ls b a vs) (slot : Slot "list" nm id) (hty : typeOf (.builtin id) = pure (.type "method_descriptor"))
    (k : P (.builtin id, [.ref a]) b) : CT w G A (getMethod (.ref a) nm pl) b P := CT.still fun s Q E e _ q =>
  getMethod_builtin (x.ext e).is.typeIs PySem.F.plainAttrs_list slot hty (fun c hc => by cases hc; obtain ⟨n, h⟩ := x.ext e; exact ⟨_, h, rfl⟩) (q _ s.toks k)

theorem c_append {a : Addr} {vs : List Value} {v : Value} {P : Value → Heap → Prop} (x : Ls b a vs) (g : G.get? a = none) (hz : vs.length ≤ sizeLine)
    (k : ∀ b₁, (∀ d o, d ≠ a → b.get? d = some o → b₁.get? d = some o) → Ls b₁ a (vs ++ [v]) → P .none b₁) : CT w G A (call (.builtin "list.append") [.ref a, v]) b P := by
  obtain ⟨n, h⟩ := x
  refine CT.turn' h g fun s Q E e _ q => ?_
  have hs := e _ _ h
  have up := IsL.update hs (fun xs => xs.push v)
  refine call_meets PySem.F.slot_list_append ⟨_, hs, rfl⟩ PySem.F.entry_list_append (PySem.F.args_list_append_2 _ _) (list_append a vs.toArray n v (by simpa using hz)) ⟨hs, ?_⟩
  refine q _ _ s.toks _ (fun d o nd y => (Heap.get?_update_ne _ _ _ _ nd).trans y) up fun b₁ hb hx => k b₁ hb ?_
  have e2 : (vs.toArray.push v) = (vs ++ [v]).toArray := by simp
  simp only [e2] at hx
  exact ⟨_, hx⟩
theorem c_pop {a : Addr} {vs : List Value} {v : Value} {P : Value → Heap → Prop} (x : Ls b a (vs ++ [v])) (g : G.get? a = none) (hz : vs.length + 1 ≤ sizeLine)
    (k : ∀ b₁, (∀ d o, d ≠ a → b.get? d = some o → b₁.get? d = some o) → Ls b₁ a vs → P v b₁) : CT w G A (call (.builtin "list.pop") [.ref a]) b P := by
  obtain ⟨n, h⟩ := x
  refine CT.turn' h g fun s Q E e _ q => ?_
  have hs := e _ _ h
  have up := IsL.update hs (fun xs => xs.eraseIdxIfInBounds ((vs ++ [v]).toArray.size - 1))
  have e2 : ((vs ++ [v]).toArray.eraseIdxIfInBounds ((vs ++ [v]).toArray.size - 1)) = vs.toArray := by
    apply Array.ext'
    simp only [Array.eraseIdxIfInBounds, List.size_toArray, List.length_append, List.length_singleton]
    simp [List.eraseIdx_append_of_length_le]
  refine call_meets PySem.F.slot_list_pop ⟨_, hs, rfl⟩ PySem.F.entry_list_pop (PySem.F.args_list_pop_1 _) (MeetsSeq.list_pop_last a (vs ++ [v]).toArray n v (by simp) (by simpa using hz)) ⟨hs, ?_⟩
  refine q _ _ s.toks _ (fun d o nd y => (Heap.get?_update_ne _ _ _ _ nd).trans y) up fun b₁ hb hx => k b₁ hb ?_
  simp only [e2] at hx
  exact ⟨_, hx⟩
theorem c_extend {a c : Addr} {vs us : List Value} {P : Value → Heap → Prop} (x : Ls b a vs) (y : Ls b c us) (g : G.get? a = none) (hz : vs.length + us.length ≤ sizeLine)
    (k : ∀ b₁, (∀ d o, d ≠ a → b.get? d = some o → b₁.get? d = some o) → Ls b₁ a (vs ++ us) → P .none b₁) : CT w G A (call (.builtin "list.extend") [.ref a, .ref c]) b P := by
  obtain ⟨n, h⟩ := x
  obtain ⟨n2, h2⟩ := y
  refine CT.turn' h g fun s Q E e _ q => ?_
  have hs := e _ _ h
  have hs2 := e _ _ h2
  have up := IsL.update hs (fun xs => xs ++ us.toArray)
  refine call_meets PySem.F.slot_list_extend ⟨_, hs, rfl⟩ PySem.F.entry_list_extend (PySem.F.args_list_extend_2 _ _) (AutoSeq1.list_extend_list_list_0 a vs.toArray n c us.toArray n2 ?_ (by simp; omega) (by simp; omega)) ⟨hs, hs2, ?_⟩
  · intro q
    simp [Builtin.List.listTooLong] at q
    omega
  · refine q _ _ s.toks _ (fun d o nd y => (Heap.get?_update_ne _ _ _ _ nd).trans y) up fun b₁ hb hx => k b₁ hb ?_
    have e2 : vs.toArray ++ us.toArray = (vs ++ us).toArray := by simp
    simp only [e2] at hx
    exact ⟨_, hx⟩
end
end Mine
end
section
open PySem PySem.W PyProof.Rows PySem.Calls PySem.Spec Builtin
set_option maxRecDepth 100000
set_option linter.unusedVariables false
namespace Mine

theorem EnvOk.more {env : Env} {f : Fram} {ns : List (Str × NameKind)} (O : EnvOk env f ns) (l : List (Addr × Obj)) : EnvOk env (f.more l) ns := ⟨O.kind, O.names, O.locals, O.globals, O.builtins, O.cells⟩

section
variable {w : World} {G b : Heap} {A : Around} {f : Fram} {m : Locs} {env : Env} {K : Frag} {α : Type} {n : Nat} {h h₁ : Heap}

theorem Fm.less {l : List (Addr × Obj)} (F : Fm G b (f.more l) h m) : Fm G b f h m where
  ns := F.ns
  cells := F.cells
  one := F.one
  apart := F.apart
  hid := fun p hp => F.hid p (List.mem_append_right _ hp)
  hidL := fun p hp => F.hidL p (List.mem_append_right _ hp)
  keep := F.keep
  out := fun c hc => F.out c (f.fa_more' hc)
  base := F.base
/-- new things behind the frame -/
theorem Fm.hide {l : List (Addr × Obj)} (F : Fm G b f h m) (hl : ∀ p ∈ l, h.get? p.1 = some p.2) (hn : ∀ p ∈ l, b.get? p.1 = none ∧ p.1 ∉ f.fa) : Fm G b (f.more l) h m where
  ns := F.ns
  cells := F.cells
  one := F.one
  apart := F.apart
  hid := fun p hp => (List.mem_append.mp hp).elim (hl p) (F.hid p)
  hidL := fun p hp => (List.mem_append.mp hp).elim (fun q => ⟨fun e => (hn p q).2 (e ▸ f.fa_L), fun x c hx e => (hn p q).2 (e ▸ f.fa_cl hx)⟩) (F.hidL p)
  keep := F.keep
  out := fun c hc => (f.fa_more hc).elim (fun q => by obtain ⟨p, hp, rfl⟩ := List.mem_map.mp q; exact (hn p hp).1) (F.out c)
  base := F.base
theorem Fm.fresh (F : Fm G b f h m) {c : Addr} (e : h.get? c = none) : b.get? c = none ∧ c ∉ f.fa := by
  refine ⟨?_, fun q => ?_⟩
  · cases hb : b.get? c with
    | none => rfl
    | some o => rw [F.keep c o hb] at e; cases e
  · obtain ⟨o, ho⟩ := F.live q; rw [ho] at e; cases e
/-- a hidden thing turned -/
theorem Fm.turn {I : Addr} (F : Fm G b f h m) (hI : b.get? I = none) (hf : I ∉ f.fa) (k : ∀ c o, c ≠ I → h.get? c = some o → h₁.get? c = some o) : Fm G b f h₁ m :=
  F.move (fun c hc o e => k c o (fun q => hf (q ▸ hc)) e) (fun c o e => k c o (fun q => by rw [q, hI] at e; cases e) (F.keep c o e)) F.out F.base
end

/-! what can be gone through -/
structure It (w : World) (A : Around) (I : Addr) (fp : List Addr) (n : Nat) (Pv : Nat → Value → Prop) (St : Nat → Heap → Prop) : Prop where
  walk : Walks PG w A I fp [I] n Pv St
  live : ∀ i h, St i h → ∃ o, h.get? I = some o
  own : ∀ (target : PySem.Expr) i v (s : Shared) (Q : Unit → Shared → Prop) (E : Value → Shared → Prop), St i s.heap → Q () s → wpAny (model PG w) A (letOwnedTupleGo target (.ref I) v) Q E s
def ItV (w : World) (G : Heap) (A : Around) (b : Heap) (v : Value) (n : Nat) (Pv : Nat → Value → Prop) (dep : List Addr) : Prop := (∀ c ∈ dep, ∃ o, b.get? c = some o) ∧
  ∀ (s : Shared) (Q : Value → Shared → Prop) (E : Value → Shared → Prop), Ext b s.heap →
    (∀ I fp St h₁ tk, Ext s.heap h₁ → s.heap.get? I = none → It w A I fp n Pv St → St 0 h₁ → (∀ c ∈ fp, c = I ∨ c ∈ dep) → Q (.ref I) { s with heap := h₁, toks := tk }) → wpAny (model PG w) A (pyIter v) Q E s

/-- what stands behind a turn -/
abbrev Turn (J : Nat → Heap → Locs → Prop) (P : Flow → Heap → Locs → Prop) (i : Nat) (fl : Flow) (b : Heap) (m : Locs) : Prop := match fl with
  | .next | .cont => J (i + 1) b m
  | .brk => P .next b m
  | .ret v => P (.ret v) b m
/-- a for by what its turns keep -/
inductive ForOk (w : World) (G : Heap) (A : Around) (f : Fram) (env : Env) (target : PySem.Expr) (body : List Stmt) (P : Flow → Heap → Locs → Prop) (m : Locs) (xv : Value) (b₁ : Heap) : Prop
  | mk (n : Nat) (Pv : Nat → Value → Prop) (dep : List Addr) (it : ItV w G A b₁ xv n Pv dep) (J : Nat → Heap → Locs → Prop) (j0 : J 0 b₁ m) (jd : ∀ i b' m', J i b' m' → ∀ c ∈ dep, ∀ o, b₁.get? c = some o → b'.get? c = some o)
      (turn : ∀ i b' m' v l, i < n → J i b' m' → Pv i v → TT w G A (f.more l) (assign target env v) b' m' fun _ b₂ m₂ => TT w G A (f.more l) (execs body env) b₂ m₂ (Turn J P i)) (fin : ∀ b' m', J n b' m' → P .next b' m')

section
variable {w : World} {G b : Heap} {A : Around} {f : Fram} {m : Locs} {env : Env} {K : Frag} {α : Type} {n : Nat}

theorem own_go {I : Addr} {o : Obj} {c : String} {s : Shared} {Q : Unit → Shared → Prop} {E : Value → Shared → Prop} {v : Value} (target : PySem.Expr) (ho : s.heap.get? I = some o) (hc : o.cls = .type c)
    (hn : (["enumerate", "zip", "dict_itemiterator", "dict_reverseitemiterator", "odict_iterator", "itertools.zip_longest", "itertools.pairwise"] : List String).contains c = false) (h : Q () s) :
    wpAny (model PG w) A (letOwnedTupleGo target (.ref I) v) Q E s := by
  unfold letOwnedTupleGo
  have key : wpAny (model PG w) A (do
      let (.ref r, .ref a) := (Value.ref I, v) | return
      let o ← load r
      match o.cls, o.data with
      | .type n, .fields vs =>
        if ["enumerate", "zip", "dict_itemiterator", "dict_reverseitemiterator", "odict_iterator", "itertools.zip_longest", "itertools.pairwise"].contains n && vs[0]? == some (rawInt a) then
          rule "for.unpacks-the-owned-tuple"
          updateField r 0 .none
      | _, _ => pure ()) Q E s := by
    cases v with
    | ref a =>
      refine wpAny_bind (wpAny_load ho ?_)
      rw [hc]
      cases o.data with
      | fields vs =>
        dsimp only
        rw [hn]
        exact wpAny_pure h
      | _ => exact wpAny_pure h
    | _ => exact wpAny_pure h
  cases target <;> first | exact key | exact wpAny_pure h

theorem itv_list {a : Addr} {vs : List Value} (hh : A.handled = none) (x : Ls b a vs) : ItV w G A b (.ref a) vs.length (fun i v => vs[i]? = some v) [a] := by
  refine ⟨fun c hc => by rw [List.mem_singleton.mp hc]; exact x.live, fun s Q E e q => ?_⟩
  have xs := x.ext e
  have hlt : a ≠ s.heap.objs.size := by obtain ⟨o, ho⟩ := xs.live; exact Nat.ne_of_lt (Heap.lt_size ho)
  refine wpAny_pyIter_list xs.is (q s.heap.objs.size [s.heap.objs.size, a] (fun i h => h.IsListIter s.heap.objs.size a i ∧ h.IsList a vs.toArray) _ s.toks (fun c o y => Heap.get?_push_of_some _ y) (Heap.get?_none_of_le (Nat.le_refl _)) ?_ ?_ ?_)
  · have W := Walks.list (prog := PG) (w := w) hh s.heap.objs.size a hlt vs.toArray
    simp only [List.size_toArray, List.getElem?_toArray] at W
    exact ⟨W, fun i h st => let ⟨o, ho, _⟩ := st.1; ⟨o, ho⟩, fun t i v s' Q' E' st q' => let ⟨o, ho, hc, _⟩ := st.1; own_go t ho hc (by decide +kernel) q'⟩
  · exact ⟨⟨_, Heap.get?_push_size _ rfl, rfl, rfl⟩, (xs.ext fun c o y => Heap.get?_push_of_some _ y).is⟩
  · intro c hc; simpa using hc
theorem itv_tuple {a : Addr} {vs : List Value} (hh : A.handled = none) (x : Tp b a vs) : ItV w G A b (.ref a) vs.length (fun i v => vs[i]? = some v) [a] := by
  refine ⟨fun c hc => by rw [List.mem_singleton.mp hc]; exact x.live, fun s Q E e q => ?_⟩
  have xs := x.ext e
  have hlt : a ≠ s.heap.objs.size := by obtain ⟨o, ho⟩ := xs.live; exact Nat.ne_of_lt (Heap.lt_size ho)
  refine wpAny_pyIter_tuple xs.is (q s.heap.objs.size [s.heap.objs.size, a] (fun i h => h.IsTupleIter s.heap.objs.size a i ∧ h.IsTuple a vs.toArray) _ s.toks (fun c o y => Heap.get?_push_of_some _ y) (Heap.get?_none_of_le (Nat.le_refl _)) ?_ ?_ ?_)
  · have W := Walks.tuple (prog := PG) (w := w) hh s.heap.objs.size a hlt vs.toArray
    simp only [List.size_toArray, List.getElem?_toArray] at W
    exact ⟨W, fun i h st => let ⟨o, ho, _⟩ := st.1; ⟨o, ho⟩, fun t i v s' Q' E' st q' => let ⟨o, ho, hc, _⟩ := st.1; own_go t ho hc (by decide +kernel) q'⟩
  · exact ⟨⟨_, Heap.get?_push_size _ rfl, rfl, rfl⟩, (xs.ext fun c o y => Heap.get?_push_of_some _ y).is⟩
  · intro c hc; simpa using hc
/-- range(n) -/
def Rg (b : Heap) (a : Addr) (n : Nat) : Prop := ∃ t u v, IsRange b a 0 n 1 t u v
theorem Rg.ext {b b₁ : Heap} {a : Addr} {n : Nat} (x : Rg b a n) (e : Ext b b₁) : Rg b₁ a n := let ⟨t, u, v, h⟩ := x; ⟨t, u, v, e _ _ h⟩
theorem c_range {i : Int} {t : Tok} {P : Value → Heap → Prop} (hi : i = (n : Int)) (k : ∀ a b₁, Ext b b₁ → b.get? a = none → Rg b₁ a n → P (.ref a) b₁) : CT w G A (call (.type "range") [.int i t]) b P := by
  subst hi
  exact CT.push (ob := fun k => { cls := .type "range", data := .fields #[.int 0 k, .int n t, .int 1 (k + 1)] }) (fun _ => rfl) (fun s Q E _ _ q => call_range_1 (q s.toks _)) fun a b₁ k' e nn x => k a b₁ e nn ⟨_, _, _, x⟩
theorem itv_range {a : Addr} (hh : A.handled = none) (x : Rg b a n) (hn : n < 2 ^ 60) : ItV w G A b (.ref a) n (fun i v => ∃ t, v = .int i t) [a] := by
  obtain ⟨t, u, v, x⟩ := x
  refine ⟨fun c hc => by rw [List.mem_singleton.mp hc]; exact ⟨_, x⟩, fun s Q E e q => ?_⟩
  have hsz : Builtin.Range.rangeSize 0 n 1 = n := by rw [rangeSize_one]; split <;> omega
  refine wpAny_pyIter_range (e _ _ x) (small_one (by omega) (by omega) (by omega) (by omega)) (q s.heap.objs.size [s.heap.objs.size] (fun i h => IsRangeIter h s.heap.objs.size (0 + (i : Nat) * 1) ((n : Int) - (i : Nat)) 1) _ s.toks (fun c o y => Heap.get?_push_of_some _ y) (Heap.get?_none_of_le (Nat.le_refl _)) ?_ ?_ ?_)
  · have W := Walks.range (prog := PG) (w := w) hh s.heap.objs.size 0 1 n
    refine ⟨⟨W.sub, W.frame, fun i s' Q' E' hi st q' => W.item i s' Q' E' hi st fun v h' tk pv => ?_, W.done, W.self⟩, fun i h st => ⟨_, st⟩, fun t i v s' Q' E' st q' => own_go t st rfl (by decide +kernel) q'⟩
    obtain ⟨t, rfl⟩ := pv
    exact q' _ h' tk ⟨t, by simp⟩
  · rw [hsz]
    simpa using Heap.get?_push_size s.heap (o := { cls := .type "range_iterator", data := .fields #[rawInt 0, rawInt n, rawInt 1] }) rfl
  · intro c hc; simp at hc; simp [hc]

inductive ForJ (s : Shared) (G : Heap) (f : Fram) (n : Nat) (I : Addr) (St : Nat → Heap → Prop) (J : Nat → Heap → Locs → Prop) (k' : Nat) (s' : Shared) : Prop
  | mk (i : Nat) (h' : Heap) (tk : Nat) (b' : Heap) (m' : Locs) (o : Obj) (h1 : s' = { s with heap := h', toks := tk }) (h2 : k' = n - i) (h3 : i ≤ n) (h4 : Fm G b' (f.more [(I, o)]) h' m') (h5 : St i h') (h6 : J i b' m')
theorem t_for {target iter : PySem.Expr} {body : List Stmt} {pos : Pos} {P : Flow → Heap → Locs → Prop}
    (k : ET w G A f (eval iter env) b m fun xv b₁ => ForOk w G A f env target body P m xv b₁)
    (hs : ∀ x, foldedSetIterable iter env x = pure x := by intro _; rfl) : TT w G A f (exec (.For target iter body [] pos) env) b m P := by
  intro s Q E F kk
  refine wpAny_For (k s _ E F fun xv h₁ tk b₁ F₁ p => ?_) hs
  obtain ⟨n, Pv, dep, ⟨hd, itv⟩, J, j0, jd, turn, fin⟩ := p
  refine itv ⟨h₁, _, _, _, _⟩ _ E F₁.keep fun I fp St h₂ tk₂ e₂ nI W st0 hfp => ?_
  have fr := F₁.fresh nI
  have F₂ := F₁.ext e₂
  refine codeAny_forLoop_any (ForJ s G f n I St J) ?_ n ?_
  · rintro k' s' ⟨i, h', tk', b', m', o, rfl, rfl, hi, F', st, j⟩
    have nb : b'.get? I = none := F'.out I (f.fa_more_l (by simp))
    have nf : I ∉ f.fa := fun q => by
      simp only [Fram.fa, List.mem_cons, List.mem_append, List.mem_map] at q
      rcases q with q | ⟨p, hp, q⟩ | ⟨p, hp, q⟩
      · exact fr.2 (q ▸ f.fa_L)
      · exact fr.2 (q ▸ f.fa_cl hp)
      · exact fr.2 (q ▸ f.fa_hid hp)
    by_cases hlt : i < n
    · refine W.walk.item i _ _ _ hlt st fun v h₃ tk₃ pv st₃ k₃ => ?_
      obtain ⟨o₃, ho₃⟩ := W.live _ _ st₃
      have F₃ : Fm G b' (f.more [(I, o₃)]) h₃ m' := (F'.less.turn nb nf fun c o hc e => k₃ c o (by simpa using hc) e).hide (by simpa using ho₃) (by simpa using ⟨nb, nf⟩)
      refine W.own target _ v _ _ _ st₃ ?_
      refine turn i b' m' v _ hlt j pv _ _ _ F₃ fun _ h₄ tk₄ b₄ m₄ F₄ p₄ => ?_
      refine p₄ _ _ _ F₄ fun fl h₅ tk₅ b₅ m₅ F₅ p₅ => ?_
      have cont : J (i + 1) b₅ m₅ → ∃ m, m < n - i ∧ ForJ s G f n I St J m { s with heap := h₅, toks := tk₅ } := fun j₅ => by
        refine ⟨n - (i + 1), Nat.sub_lt_sub_left hlt (Nat.lt_succ_self i), i + 1, h₅, tk₅, b₅, m₅, o₃, rfl, rfl, hlt, F₅, W.walk.frame _ _ _ st₃ fun c hc o e => ?_, j₅⟩
        rcases hfp c hc with hcI | hc
        · subst c
          have := F₃.hid (I, o₃) (by simp [Fram.more])
          rw [this] at e; cases e
          exact F₅.hid (I, o₃) (by simp [Fram.more])
        · obtain ⟨oc, hoc⟩ := hd c hc
          have e1 := F₃.keep c oc (jd i b' m' j c hc oc hoc)
          rw [e1] at e; cases e
          exact F₅.keep c _ (jd _ _ _ j₅ c hc _ hoc)
      cases fl with
      | next => exact cont p₅
      | cont => exact cont p₅
      | brk => exact kk _ h₅ tk₅ b₅ m₅ F₅.less p₅
      | ret v => exact kk _ h₅ tk₅ b₅ m₅ F₅.less p₅
    · have hin : i = n := Nat.le_antisymm hi (Nat.ge_of_not_lt hlt)
      subst i
      refine W.walk.done _ _ _ st fun h₃ tk₃ k₃ => ?_
      exact wpAny_execs_nil (kk _ h₃ tk₃ b' m' (F'.less.turn nb nf fun c o hc e => k₃ c o (by simpa using hc) e) (fin b' m' j))
  · obtain ⟨o, ho⟩ := W.live _ _ st0
    exact ⟨0, h₂, tk₂, b₁, m, o, rfl, by simp, Nat.zero_le _, F₂.hide (by simpa using ho) (by simpa using fr), st0, j0⟩
end
end Mine
end
section
open PySem PySem.W PyProof.Rows PySem.Calls PySem.Spec Builtin
set_option maxRecDepth 100000
set_option linter.unusedVariables false
namespace Mine

/-- what a comprehension takes along of the block around -/
def closOf (cells : List (Str × Addr)) : List (Str × NameKind) → List (Str × Addr) → Option (List (Str × Addr))
  | [], acc => some acc
  | (n, k) :: r, acc => if k == .free then (match cells.lookup n with | some c => closOf cells r ((n, c) :: acc) | none => none) else closOf cells r acc
/-- the names of its block -/
def compNs (ns : List (Str × NameKind)) (names : List (Str × NameKind)) : List (Str × NameKind) := names.map fun (n, k) => if (k == .free && ns.lookup n == some .cell) then (n, .cell) else (n, k)

theorem closureFor_of {scope : Scope} {env : Env} {cl : List (Str × Addr)} (h : closOf env.cells scope.names [] = some cl) : closureFor scope env = pure cl := by
  simp only [closureFor]
  have key : ∀ (names : List (Str × NameKind)) (acc : List (Str × Addr)), closOf env.cells names acc = some cl →
      forIn names acc (fun x (r : List (Str × Addr)) => (
            if (x.2 == NameKind.free) = true then do
              let __do_lift ← cellOf env x.1
              pure (ForInStep.yield ((x.1, __do_lift) :: r))
            else pure (ForInStep.yield r) : Sem (ForInStep (List (Str × Addr))))) = pure cl := by
    intro names
    induction names with
    | nil => intro acc h; cases h; rfl
    | cons x r ih =>
      obtain ⟨n, k⟩ := x
      intro acc h
      rw [List.forIn_cons]
      unfold closOf at h
      by_cases q : (k == NameKind.free) = true
      · rw [if_pos q] at h
        simp only [q, if_true]
        split at h
        · rename_i c hc
          unfold cellOf
          rw [hc]
          exact ih _ h
        · cases h
      · rw [if_neg q] at h
        simp only [q]
        exact ih _ h
  rw [key _ _ h]; rfl

section
variable {w : World} {G b : Heap} {A : Around} {f : Fram} {m : Locs} {env : Env} {K : Frag} {α : Type} {n : Nat} {ns : List (Str × NameKind)}

/-- one turn's end, and all of it -/
inductive CompOk (w : World) (G : Heap) (A : Around) (f : Fram) (ns : List (Str × NameKind)) (m : Locs) (x : Str) (elt : PySem.Expr) (scope : Scope) (cl : List (Str × Addr)) (b₁ : Heap) (xv : Value) (P : Value → Heap → Prop) : Prop
  | mk (n : Nat) (Pv : Nat → Value → Prop) (dep : List Addr) (it : ItV w G A b₁ xv n Pv dep) (hz : n ≤ sizeLine) (J : Nat → List Value → Heap → Prop) (j0 : J 0 [] b₁) (jd : ∀ i ys b', J i ys b' → ∀ c ∈ dep, ∀ o, b₁.get? c = some o → b'.get? c = some o)
      (turn : ∀ i ys b' v C hid env', i < n → J i ys b' → Pv i v → EnvOk env' ⟨C, cl, hid⟩ (compNs ns scope.names) →
        ET w G A ⟨C, cl, hid⟩ (eval elt env') b' (fun y => if y = x then some v else if (cl.lookup y).isSome then m y else none) fun r b₂ => J (i + 1) (ys ++ [r]) b₂)
      (fin : ∀ D ys b' b₂, J n ys b' → Ext b' b₂ → b'.get? D = none → Ls b₂ D ys → P (.ref D) b₂)

theorem relabel_names {scope : Scope} (O : EnvOk env f ns) : (relabel scope env).names = compNs ns scope.names := by
  unfold relabel compNs
  apply List.map_congr_left
  rintro ⟨y, k⟩ _
  have : env.kindOf y = ns.lookup y := O.kindOf y
  simp only [O.kind, this, beq_self_eq_true, Bool.and_true]
theorem compNs_local {x : Str} : ∀ {names : List (Str × NameKind)}, names.lookup x = some .local → (compNs ns names).lookup x = some .local
  | [], h => by cases h
  | (y, k) :: r, h => by
    have ih := @compNs_local x r
    unfold compNs at ih ⊢
    rw [List.map_cons]
    by_cases hy : x = y
    · subst hy
      simp only [List.lookup_cons, beq_self_eq_true, Option.some.injEq] at h
      subst h
      simp
    · have hb : (x == y) = false := beq_eq_false_iff_ne.mpr hy
      rw [List.lookup_cons, hb] at h
      dsimp only
      split <;> (rw [List.lookup_cons, hb]; exact ih h)

def CompM (m : Locs) (x : Str) (cl : List (Str × Addr)) (vx : Option Value) : Locs := fun y => if y = x then vx else if (cl.lookup y).isSome then m y else none
theorem compM_cl {x : Str} {cl : List (Str × Addr)} (hxc : cl.lookup x = none) (vx : Option Value) (y : Str) (hy : (cl.lookup y).isSome = true) : CompM m x cl vx y = m y := by
  have ne : y ≠ x := fun q => by rw [q, hxc] at hy; cases hy
  simp [CompM, ne, hy]
theorem compM_put {x : Str} {cl : List (Str × Addr)} {vx : Option Value} {v : Value} : (fun y => if y = x then some v else CompM m x cl vx y) = CompM m x cl (some v) := by
  funext y
  by_cases hy : y = x <;> simp [CompM, hy]
/-- the comprehension's own frame, from the one around and back -/
inductive CompF (G : Heap) (b₁ : Heap) (f : Fram) (m : Locs) (x : Str) (cl : List (Str × Addr)) (CC : Addr) (h₂ : Heap) (hs : List (Addr × Obj)) : Prop
  | mk (clean : ∀ c, c ∉ f.fa → c ≠ CC → c ∉ (⟨CC, cl, hs⟩ : Fram).fa) (start : Fm G b₁ ⟨CC, cl, hs⟩ h₂ (CompM m x cl none))
      (back : ∀ (b' h' : Heap) (mm : Locs), Fm G b' ⟨CC, cl, hs⟩ h' mm → (∀ y, (cl.lookup y).isSome = true → mm y = m y) → Fm G b' f h' m)
theorem comp_frame {x : Str} {cl : List (Str × Addr)} {b₁ h₂ : Heap} {CC : Addr} {ml : Locs} (hxc : cl.lookup x = none) (hin : ∀ y c, (y, c) ∈ cl → f.cl.lookup y = some c) (F₂ : Fm G b₁ f h₂ m) (hns₂ : h₂.Ns CC ml) (hml : ∀ y, ml y = none)
    (frC : b₁.get? CC = none ∧ CC ∉ f.fa) : ∃ hs, CompF G b₁ f m x cl CC h₂ hs := by
  -- the frame's own things, as the comprehension hides them
  let ca : List Addr := cl.map (·.2)
  let hs : List (Addr × Obj) := (f.fa.filter fun c => !ca.contains c).filterMap fun c => (h₂.get? c).map fun o => (c, o)
  have hsM : ∀ c ∈ f.fa, c ∉ ca → ∀ o, h₂.get? c = some o → (c, o) ∈ hs := fun c hc hn o e => List.mem_filterMap.mpr ⟨c, List.mem_filter.mpr ⟨hc, by simpa using hn⟩, by rw [e]; rfl⟩
  have hsM' : ∀ p ∈ hs, p.1 ∈ f.fa ∧ p.1 ∉ ca ∧ h₂.get? p.1 = some p.2 := fun p hp => by
    obtain ⟨c, hc, e⟩ := List.mem_filterMap.mp hp
    obtain ⟨o, eo, rfl⟩ := Option.map_eq_some_iff.mp e
    have := List.mem_filter.mp hc
    exact ⟨this.1, by simpa using this.2, eo⟩
  let fi : Fram := ⟨CC, cl, hs⟩
  have caf : ∀ c ∈ ca, c ∈ f.fa := fun c hc => by obtain ⟨p, hp, rfl⟩ := List.mem_map.mp hc; exact f.fa_cl (mem_of_lookup (hin p.1 p.2 hp))
  have ficlean : ∀ c, c ∉ f.fa → c ≠ CC → c ∉ fi.fa := fun c hc hn q => by
    simp only [fi, Fram.fa, List.mem_cons, List.mem_append, List.mem_map] at q
    rcases q with q | ⟨p, hp, q⟩ | ⟨p, hp, q⟩
    · exact hn q
    · exact hc (q ▸ caf _ (List.mem_map_of_mem (f := (·.2)) hp))
    · exact hc (q ▸ (hsM' p hp).1)
  -- the comprehension's own frame
  have start : Fm G b₁ fi h₂ (CompM m x cl none) := by
    refine ⟨⟨_, hns₂, fun y hy => ?_⟩, fun y c hy => ?_, fun y z c hy hz => F₂.one y z c (hin y c (mem_of_lookup hy)) (hin z c (mem_of_lookup hz)), fun y c hy => ?_, fun p hp => (hsM' p hp).2.2, fun p hp => ?_, F₂.keep, fun c hc => ?_, F₂.base⟩
    · have hy' : cl.lookup y = none := hy
      by_cases e : y = x <;> simp [CompM, e, hml, hy', hxc]
    · have hy' : cl.lookup y = some c := hy
      have := F₂.cells y c (hin y c (mem_of_lookup hy'))
      have ne : y ≠ x := fun q => by rw [q, hxc] at hy'; cases hy'
      simpa [CompM, ne, hy'] using this
    · have hf := hin y c hy
      exact ⟨fun (q : c = CC) => frC.2 (q ▸ f.fa_cl (mem_of_lookup hf)), (F₂.apart y c (mem_of_lookup hf)).2⟩
    · exact ⟨fun (q : p.1 = CC) => frC.2 (q ▸ (hsM' p hp).1), fun y c hy q => (hsM' p hp).2.1 (q ▸ List.mem_map_of_mem (f := (·.2)) hy)⟩
    · simp only [fi, Fram.fa, List.mem_cons, List.mem_append, List.mem_map] at hc
      rcases hc with hcc | ⟨p, hp, rfl⟩ | ⟨p, hp, rfl⟩
      · subst c; exact frC.1
      · exact F₂.out _ (caf _ (List.mem_map_of_mem (f := (·.2)) hp))
      · exact F₂.out _ (hsM' p hp).1
  -- back to the frame around
  have back : ∀ (b' h' : Heap) (mm : Locs), Fm G b' fi h' mm → (∀ y, (cl.lookup y).isSome = true → mm y = m y) → Fm G b' f h' m := by
    intro b' h' mm F' hmm
    have here : ∀ c ∈ f.fa, c ∉ ca → ∀ o, h₂.get? c = some o → h'.get? c = some o := fun c hc hn o e => F'.hid (c, o) (hsM c hc hn o e)
    have cellC : ∀ y c, f.cl.lookup y = some c → c ∈ ca → cl.lookup y = some c := by
      intro y c hy hc
      obtain ⟨p, hp, rfl⟩ := List.mem_map.mp hc
      obtain rfl : y = p.1 := F₂.one y p.1 p.2 hy (hin p.1 p.2 hp)
      obtain ⟨c', hc'⟩ := Option.isSome_iff_exists.mp (lookup_some_of_key (List.mem_map_of_mem (f := (·.1)) hp))
      have := hin p.1 c' (mem_of_lookup hc')
      rw [hy] at this; cases this
      exact hc'
    have hLca : f.L ∉ ca := fun q => by
      obtain ⟨p, hp, e⟩ := List.mem_map.mp q
      exact (F₂.apart p.1 p.2 (mem_of_lookup (hin p.1 p.2 hp))).1 e
    refine ⟨?_, fun y c hy => ?_, F₂.one, fun y c hy => ⟨(F₂.apart y c hy).1, ?_⟩, fun p hp => ?_, F₂.hidL, F'.keep, fun c hc => ?_, F'.base⟩
    · obtain ⟨ml, ⟨oL, es, ep, h1, h2, h3, h4⟩, hm⟩ := F₂.ns
      exact ⟨ml, ⟨oL, es, ep, here _ f.fa_L hLca _ h1, h2, h3, h4⟩, hm⟩
    · by_cases q : c ∈ ca
      · have hc := cellC y c hy q
        have := F'.cells y c hc
        rwa [hmm y (by rw [hc]; rfl)] at this
      · obtain ⟨o, ho, hdt⟩ := F₂.cells y c hy
        exact ⟨o, here c (f.fa_cl (mem_of_lookup hy)) q o ho, hdt⟩
    · by_cases q : c ∈ ca
      · obtain ⟨p, hp, rfl⟩ := List.mem_map.mp q
        exact (F'.apart p.1 p.2 hp).2
      · obtain ⟨o, ho⟩ := (F₂.apart y c hy).2
        exact ⟨o, here c (f.fa_cl hy) q o ho⟩
    · refine here p.1 (f.fa_hid hp) (fun q => ?_) p.2 (F₂.hid p hp)
      obtain ⟨p', hp', e⟩ := List.mem_map.mp q
      exact (F₂.hidL p hp).2 p'.1 p'.2 (mem_of_lookup (hin p'.1 p'.2 hp')) e
    · by_cases q : c ∈ ca
      · exact F'.out c (by simp only [fi, Fram.fa, List.mem_cons, List.mem_append]; exact .inr (.inl q))
      · obtain ⟨o, ho⟩ := F₂.live hc
        exact F'.out c (Fram.fa_hid fi (p := (c, o)) (hsM c hc q o ho))
  exact ⟨hs, ficlean, start, back⟩
theorem hide_frame {b' h₃ : Heap} {CC : Addr} (Ff : Fm G b' f h₃ m) (bC : b'.get? CC = none) : Fm G (hideAll h₃ (CC :: f.fa)) f h₃ m ∧ Ext b' (hideAll h₃ (CC :: f.fa)) :=
  ⟨Ff.move (fun _ _ _ e => e) (fun c o e => of_hideAll _ e) (fun c hc => hideAll_none _ (List.mem_cons_of_mem _ hc)) (fun c o e => hideAll_get _ (Ff.gh c o e) fun hc => by
          have eb := Ff.base c o e
          rcases List.mem_cons.mp hc with hcc | hc
          · subst c; rw [bC] at eb; cases eb
          · rw [Ff.out c hc] at eb; cases eb),
   fun c o e => hideAll_get _ (Ff.keep c o e) fun hc => by
          rcases List.mem_cons.mp hc with hcc | hc
          · subst c; rw [bC] at e; cases e
          · rw [Ff.out c hc] at e; cases e⟩
abbrev lstO (ys : List Value) (nn : Nat) : Obj := { cls := .type "list", dict := none, data := .seq ys.toArray nn, slots := #[] }
inductive CompJ (s : Shared) (G : Heap) (fi : Fram) (n : Nat) (I D : Addr) (mi : Option Value → Locs) (St : Nat → Heap → Prop) (J : Nat → List Value → Heap → Prop) (k' : Nat) (s' : Shared) : Prop
  | mk (i : Nat) (h' : Heap) (tk' : Nat) (b' : Heap) (ys : List Value) (o : Obj) (nn : Nat) (vx : Option Value) (h1 : s' = { s with heap := h', toks := tk' }) (h2 : k' = n + 1 - i) (h3 : i ≤ n) (h4 : ys.length = i) (h5 : Fm G b' (fi.more [(D, lstO ys nn), (I, o)]) h' (mi vx)) (h6 : St i h') (h7 : J i ys b')
theorem comp_core {elt iter : PySem.Expr} {x : Str} {px : Pos} {scope : Scope} {pos : Pos} {cl : List (Str × Addr)} {b₁ : Heap} {xv : Value} {P : Value → Heap → Prop} {s : Shared} {E : Value → Shared → Prop} {RR : Value → Addr → Result → Shared → Prop}
    (O : EnvOk env f ns) (hcell : (scope.names.all fun x => x.2 != .cell) = true) (hkind : scope.kind = .function) (hx : scope.names.lookup x = some .local) (hxc : cl.lookup x = none)
    (hin : ∀ y c, (y, c) ∈ cl → f.cl.lookup y = some c)
    (C : CompOk w G A f ns m x elt scope cl b₁ xv P) (F : Fm G b₁ f s.heap m)
    (hRR : ∀ D C h' tk b₂ m', Fm G b₂ f h' m → b₂.get? C = none → C ∉ f.fa → h'.Ns C m' → P (.ref D) b₂ → RR (.ref D) C (.ok .next) { s with heap := h', toks := tk }) :
    wpAny (model PG w) A (pyIter xv) (fun it s₂ => wpAny (model PG w) A (newList []) (fun acc s₃ => wpAny (model PG w) A (newFunctionEnv scope env.globals cl [] env.qual none .none (some env)) (fun cenv s₄ =>
      codeAny (model PG w) A (.compStart (.ListComp elt [⟨.Name x px, iter, [], 0⟩] scope pos) 0 it acc { cenv with scope := relabel scope env }) (RR acc cenv.locals) s₄) E s₃) E s₂) E s := by
  obtain ⟨n, Pv, dep, ⟨hd, itv⟩, hz, J, j0, jd, turn, fin⟩ := C
  refine itv s _ E F.keep fun I fp St h₁ tk e₁ nI W st0 hfp => ?_
  have F₁ := F.ext e₁
  obtain ⟨oI, hoI⟩ := W.live _ _ st0
  have frI := F.fresh nI
  refine wpAny_newObj_type (wpAny_newFunctionEnv (fun y hy => by simpa using List.all_eq_true.mp hcell y hy) (by intro y hy; simp at hy) (fun h₂ hns₂ hsb₂ => ?_) hkind)
  dsimp only at hns₂ hsb₂ ⊢
  generalize hH2 : h₁.push { cls := .type "list", dict := none, data := .seq ([] : List Value).toArray } = H2 at hns₂ hsb₂ ⊢
  have hCs : H2.objs.size = h₁.objs.size + 1 := by rw [← hH2, Heap.size_push]
  have nD : h₁.get? h₁.objs.size = none := Heap.get?_none_of_le (Nat.le_refl _)
  have nC : h₁.get? H2.objs.size = none := Heap.get?_none_of_le (by rw [hCs]; exact Nat.le_succ _)
  have hDC : h₁.objs.size ≠ H2.objs.size := by rw [hCs]; exact Nat.ne_of_lt (Nat.lt_succ_self _)
  have old : Ext h₁ h₂ := fun c o e => hsb₂.extBut c o (fun q => by rw [q, nC] at e; cases e) (Heap.get?_push_of_some _ (hH2 ▸ Heap.get?_push_of_some _ e))
  have hD : h₂.get? h₁.objs.size = some { cls := .type "list", dict := none, data := .seq ([] : List Value).toArray } := hsb₂.extBut _ _ hDC (Heap.get?_push_of_some _ (hH2 ▸ Heap.get?_push_size _ rfl))
  generalize hDg : h₁.objs.size = D at nD hDC hD ⊢
  generalize hCg : H2.objs.size = CC at nC hDC hns₂ ⊢
  have frD := F₁.fresh nD
  have frC := F₁.fresh nC
  have F₂ := F₁.ext old
  have hID : I ≠ D := fun q => by rw [q, nD] at hoI; cases hoI
  have hIC : I ≠ CC := fun q => by rw [q, nC] at hoI; cases hoI
  have st2 : St 0 h₂ := W.walk.frame _ _ _ st0 fun c _ o e => old c o e
  have hI2 := old _ _ hoI
  obtain ⟨hs, ficlean, start, back⟩ := comp_frame (x := x) hxc hin F₂ hns₂ (fun _ => rfl) frC
  let fi : Fram := ⟨CC, cl, hs⟩
  have hlr := relabel_names (scope := scope) O
  have envok : ∀ l, EnvOk { newEnv scope CC env.globals cl env.qual none .none (some env) 0 with scope := relabel scope env } (fi.more l) (compNs ns scope.names) := fun l => ⟨hkind, hlr, rfl, O.globals, O.builtins, rfl⟩
  have loop : ∀ s₃ : Shared, s₃ = { s with heap := h₂, toks := tk + ([] : List (Str × Value)).length } →
      codeAny (model PG w) A (.compLoop (.ListComp elt [⟨.Name x px, iter, [], 0⟩] scope pos) 0 (.ref I) (.ref D) { newEnv scope CC env.globals cl env.qual none .none (some env) 0 with scope := relabel scope env })
        (RR (.ref D) CC) s₃ := by
    rintro s₃ rfl
    refine codeAny_compLoop_list (CompJ s G fi n I D (CompM m x cl) St J) ?_ (n + 1) ?_
    · rintro k' s' ⟨i, h', tk', b', ys, o, nn, vx, rfl, rfl, hi, hys, F', st, j⟩
      have bD : b'.get? D = none := F'.out D (fi.fa_more_l (by simp))
      have bI : b'.get? I = none := F'.out I (fi.fa_more_l (by simp))
      have bC : b'.get? CC = none := F'.out CC (fi.fa_more' fi.fa_L)
      have fD : D ∉ fi.fa := ficlean D frD.2 hDC
      have fI : I ∉ fi.fa := ficlean I frI.2 hIC
      have hDh := F'.hid (D, lstO ys nn) (by simp [Fram.more])
      by_cases hlt : i < n
      · refine W.walk.item i _ _ _ hlt st fun v h₃ tk₃ pv st₃ k₃ => ?_
        have k₃' : ∀ c o, c ≠ I → h'.get? c = some o → h₃.get? c = some o := fun c o hc e => k₃ c o (by simpa using hc) e
        obtain ⟨o₃, ho₃⟩ := W.live _ _ st₃
        have F₃ : Fm G b' (fi.more [(D, lstO ys nn), (I, o₃)]) h₃ (CompM m x cl vx) :=
          (F'.less.turn bI fI k₃').hide (by simpa using ⟨k₃' _ _ (Ne.symm hID) hDh, ho₃⟩) (by simpa using ⟨⟨bD, fD⟩, bI, fI⟩)
        refine s_name (s_local (P := fun _ b₂ m₂ => b₂ = b' ∧ m₂ = fun y => if y = x then some v else CompM m x cl vx y) (envok _) (compNs_local hx) hxc ⟨rfl, rfl⟩) _ _ _ F₃ fun _ h₄ tk₄ b₄ m₄ F₄ p₄ => ?_
        rw [p₄.1, p₄.2] at F₄
        rw [compM_put] at F₄
        refine turn i ys b' v CC _ _ hlt j pv (envok _) _ _ _ F₄ fun r h₅ tk₅ b₅ F₅ j₅ => ?_
        have bD₅ : b₅.get? D = none := F₅.out D (fi.fa_more_l (by simp))
        have bI₅ : b₅.get? I = none := F₅.out I (fi.fa_more_l (by simp))
        have hD₅ : IsL h₅ D ys.toArray nn := F₅.hid (D, lstO ys nn) (by simp [Fram.more])
        have hI₅ : h₅.get? I = some o₃ := F₅.hid (I, o₃) (by simp [Fram.more])
        have up := IsL.update hD₅ (fun xs => xs.push r)
        refine call_meets PySem.F.slot_list_append ⟨_, hD₅, rfl⟩ PySem.F.entry_list_append (PySem.F.args_list_append_2 _ _) (list_append D ys.toArray nn r (by simp; omega)) ⟨hD₅, ?_⟩
        have e2 : (ys.toArray.push r) = (ys ++ [r]).toArray := by simp
        simp only [e2] at up
        have kk : ∀ c o, c ≠ D → h₅.get? c = some o → (h₅.update D (Obj.mapSeq fun xs => xs.push r)).get? c = some o := fun c o hc e => (Heap.get?_update_ne _ _ _ _ hc).trans e
        refine ⟨n + 1 - (i + 1), Nat.sub_lt_sub_left (Nat.lt_succ_of_lt hlt) (Nat.lt_succ_self i), i + 1, _, _, b₅, ys ++ [r], o₃, _, some v, rfl, rfl, hlt, by simp [hys],
          (F₅.less.turn bD₅ fD kk).hide (by simpa using ⟨up, kk _ _ hID hI₅⟩) (by simpa using ⟨⟨bD₅, fD⟩, bI₅, fI⟩), ?_, j₅⟩
        refine W.walk.frame _ _ _ st₃ fun c hc o e => ?_
        rcases hfp c hc with hcI | hc
        · subst c; rw [ho₃] at e; cases e
          exact kk _ _ hID hI₅
        · obtain ⟨oc, hoc⟩ := hd c hc
          have e1 := F₃.keep c oc (jd i ys b' j c hc oc hoc)
          rw [e1] at e; cases e
          have e3 := jd _ _ _ j₅ c hc _ hoc
          exact kk c _ (fun q => by rw [q, bD₅] at e3; cases e3) (F₅.keep c _ e3)
      · have hin' : i = n := Nat.le_antisymm hi (Nat.ge_of_not_lt hlt)
        obtain rfl := hin'.symm
        refine W.walk.done _ _ _ st fun h₃ tk₃ k₃ => ?_
        have k₃' : ∀ c o, c ≠ I → h'.get? c = some o → h₃.get? c = some o := fun c o hc e => k₃ c o (by simpa using hc) e
        have F₃ : Fm G b' fi h₃ (CompM m x cl vx) := F'.less.turn bI fI k₃'
        have Ff := back b' h₃ _ F₃ (compM_cl hxc vx)
        obtain ⟨q, ebb⟩ := hide_frame Ff bC
        obtain ⟨ml, hns, _⟩ := F₃.ns
        have hDC' : D ∉ CC :: f.fa := fun hc => by
          rcases List.mem_cons.mp hc with q | q
          · exact hDC q
          · exact frD.2 q
        refine hRR D CC h₃ tk₃ _ ml q (hideAll_none _ List.mem_cons_self) frC.2 hns (fin D ys b' _ j ebb bD ⟨nn, hideAll_get _ (k₃' _ _ (Ne.symm hID) hDh) hDC'⟩)
    · refine ⟨0, h₂, _, b₁, [], oI, 0, none, rfl, rfl, Nat.zero_le _, rfl, start.hide ?_ ?_, st2, j0⟩
      · simpa using ⟨hD, hI2⟩
      · simpa using ⟨⟨frD.1, ficlean D frD.2 hDC⟩, frI.1, ficlean I frI.2 hIC⟩
  exact codeAny_compStart_list (loop _ rfl) (W.walk.self 0 _ _ _ st2 (loop _ rfl))

theorem e_comp {elt iter : PySem.Expr} {x : Str} {px : Pos} {scope : Scope} {pos : Pos} {cl : List (Str × Addr)} {P : Value → Heap → Prop} (O : EnvOk env f ns) (hcl : closOf f.cl scope.names [] = some cl)
    (hcell : (scope.names.all fun x => x.2 != .cell) = true) (hkind : scope.kind = .function) (hx : scope.names.lookup x = some .local) (hxc : cl.lookup x = none)
    (hnames : (scope.names.all fun x => x.2 != .local || scope.names.lookup x.1 == some .local) = true) (hin : ∀ p ∈ cl, f.cl.lookup p.1 = some p.2)
    (k : ET w G A f (eval iter env) b m fun xv b₁ => CompOk w G A f ns m x elt scope cl b₁ xv P)
    (hs : ∀ x, foldedSetIterable iter env x = pure x := by intro _; rfl) : ET w G A f (eval (.ListComp elt [⟨.Name x px, iter, [], 0⟩] scope pos) env) b m P := by
  intro s Q E F kk
  rw [eval_ListComp]
  refine wpAny_comprehension_free (use := none) rfl hs (closureFor_of (by rw [O.cells]; exact hcl)) hkind (fun y hy hl => by have := List.all_eq_true.mp hnames y hy; simpa [hl] using this) ?_
  refine k s _ E F fun xv h₁ tk b₁ F₁ C => ?_
  refine comp_core (RR := fun acc C => compPost (model PG w) A E none Q acc C) O hcell hkind hx hxc (fun y c h => hin (y, c) h) C F₁ fun D CC h' tk' b₂ m' F₂ nC nf hn p => ?_
  refine ⟨m', hn, fun h'' hs' => kk (.ref D) h'' tk' b₂ (F₂.turn nC nf fun c o hc e => (hs'.2 c hc).trans e) p⟩

theorem swaps_comp {elt : PySem.Expr} {gens : List Comprehension} {scope : Scope} {pos py : Pos} {y : Str} {ln : Nat} (O : EnvOk env f ns) :
    swapsWith (.ListComp elt gens scope pos) (some (.Name y py)) ln env = pure (ns.lookup y == some .local && py.line == pos.line && !(scope.names.any fun (n, k) => n == y && (k == .local || k == .cell))) := by
  have hb : env.blockKind = .function := by unfold Env.blockKind; rw [O.kind]; rfl
  show pure (env.blockKind == .function && env.kindOf y == some .local && py.line == pos.line && !(scope.names.any fun (n, k) => n == y && (k == .local || k == .cell))) = _
  rw [hb, O.kindOf y]; rfl

theorem t_assign_comp {elt iter : PySem.Expr} {x y : Str} {px py : Pos} {scope : Scope} {pos spos : Pos} {cl : List (Str × Addr)} {P : Flow → Heap → Locs → Prop} (O : EnvOk env f ns) (hcl : closOf f.cl scope.names [] = some cl)
    (hcell : (scope.names.all fun x => x.2 != .cell) = true) (hkind : scope.kind = .function) (hx : scope.names.lookup x = some .local) (hxc : cl.lookup x = none)
    (hnames : (scope.names.all fun x => x.2 != .local || scope.names.lookup x.1 == some .local) = true) (hin : ∀ p ∈ cl, f.cl.lookup p.1 = some p.2)
    (hy : ns.lookup y = some .local) (hyc : f.cl.lookup y = none) (hsw : (ns.lookup y == some .local && py.line == pos.line && !(scope.names.any fun (n, k) => n == y && (k == .local || k == .cell))) = true)
    (k : ET w G A f (eval iter env) b m fun xv b₁ => CompOk w G A f ns m x elt scope cl b₁ xv fun v b₂ => P .next b₂ fun z => if z = y then some v else m z)
    (hs : ∀ x, foldedSetIterable iter env x = pure x := by intro _; rfl) : TT w G A f (exec (.Assign [.Name y py] (.ListComp elt [⟨.Name x px, iter, [], 0⟩] scope pos) spos) env) b m P := by
  intro s Q E F kk
  rw [exec_Assign_Name_used _ _ _ _ (by rw [swaps_comp O, hsw])]
  refine wpAny_bind (wpAny_standAt (wpAny_bind ?_))
  show wpAny _ A (do let _ ← comprehension (.ListComp elt [⟨.Name x px, iter, [], 0⟩] scope pos) scope env _ (newList []) false (eval iter env) (some (assign (.Name y py) env))) _ _ s
  refine wpAny_bind (wpAny_mono (wpAny_comprehension_free (use := some (assign (.Name y py) env)) (Q := fun _ s' => Q .next s') rfl hs (closureFor_of (by rw [O.cells]; exact hcl)) hkind (fun y hy hl => by have := List.all_eq_true.mp hnames y hy; simpa [hl] using this) ?_) (fun _ s' hq => wpAny_pure (wpAny_pure hq)) fun _ _ e => e)
  refine k s _ E F fun xv h₁ tk b₁ F₁ C => ?_
  refine comp_core (RR := fun acc C => compPost (model PG w) A E (some (assign (.Name y py) env)) (fun _ s' => Q .next s') acc C) O hcell hkind hx hxc (fun y c h => hin (y, c) h) C F₁ fun D CC h' tk' b₂ m' F₂ nC nf hn p => ?_
  show wpAny _ A (assign (.Name y py) env (.ref D)) _ _ _
  obtain ⟨ml, hml, hq⟩ := F₂.ns
  have hLC : f.L ≠ CC := fun q => nf (q ▸ f.fa_L)
  refine wpAny_assign_Name (wpAny_storeName_local ((O.kindOf y).trans hy) (O.locals.symm ▸ hml) (fun h₃ hn₃ hs₃ => ?_) (by rw [O.kind]; rfl))
  rw [O.locals] at hn₃ hs₃
  have F₃ := F₂.store hyc hq hn₃ hs₃
  refine ⟨m', hn.sameBut hs₃ (Ne.symm hLC), fun h₄ hs₄ => ?_⟩
  exact kk .next h₄ _ b₂ _ (F₃.turn nC nf fun c o hc e => (hs₄.2 c hc).trans e) p
end
end Mine
end
section
open PySem PySem.W PyProof.Rows PySem.Calls PySem.Spec Builtin
set_option maxRecDepth 100000
set_option linter.unusedVariables false
namespace Mine
section
variable {prog : Program} {w : World} {A : Around} {E : Value → Shared → Prop} {s : Shared}
set_option maxRecDepth 512 in
theorem setItem_exact {l : Addr} {items : Array Value} {n j : Nat} {t : Tok} {v : Value} {Q : Unit → Shared → Prop} (hs : IsL s.heap l items n) (hfit : j < sizeLine) (hj : j < items.size)
    {k : Int} (hk : k = Int.ofNat j) (hQ : Q () { s with heap := s.heap.update l (Obj.mapSeq (·.setIfInBounds j v)) }) : wpAny (model prog w) A (setItem (.ref l) (.int k t) v) Q E s := by
  have hl : s.heap.IsList l items := Ls.is (b := s.heap) (a := l) (vs := items.toList) ⟨n, hs⟩
  unfold setItem
  with_reducible refine wpAny_holding ?_
  refine wpAny_bind (wpAny_sequenceKey hl.typeIs (by decide) ?_)
  refine wpAny_bind (wpAny_callSpecial?_slot (name := Str.ofString "__setitem__") hl.typeIs slot_list_setitem
    (wpAny_call_entry slot_list_setitem hl.typeIs entry_list_setitem ?_ (args_list_setitem _ _ _)))
  show wpAny _ _ (Builtin.List.listSubscript? (.int k t) >>= _) _ _ s
  refine wpAny_bind (wpAny_listSubscript_int (fitsIndex_of (by subst hk; simp) (by subst hk; unfold sizeLine at hfit; simp; omega)) ?_)
  clear hfit
  subst hk
  show wpAny _ _ ((seqItemAt l j >>= fun r => pure (r.map (j, ·))) >>= _) _ _ s
  refine wpAny_bind (wpAny_bind (wpAny_seqItemAt hs rfl (wpAny_pure ?_)))
  rw [Array.getElem?_eq_getElem hj]
  show wpAny _ _ (setSeqItemAt l j v >>= _) _ _ s
  refine wpAny_bind (wpAny_setSeqItemAt hs rfl ?_)
  exact wpAny_pure ⟨.none, rfl, wpAny_pure hQ⟩
end

section
variable {w : World} {G b : Heap} {A : Around} {f : Fram} {m : Locs} {env : Env} {K : Frag} {α : Type} {n : Nat} {ns : List (Str × NameKind)}

/-! None -/
theorem c_is_none {v : Value} {P : Value → Heap → Prop} (k : P (.bool (v == .none)) b) : CT w G A (compareOp .Is v .none) b P := CT.still fun s Q E _ _ q => is_none_gen (q _ s.toks k)
theorem c_isnot_none {v : Value} {P : Value → Heap → Prop} (k : P (.bool (!(v == .none))) b) : CT w G A (compareOp .IsNot v .none) b P := CT.still fun s Q E _ _ q => isnot_none_gen (q _ s.toks k)

/-! tuples and lists put together -/
theorem c_tuple_list {a : Addr} {vs : List Value} {P : Value → Heap → Prop} (x : Ls b a vs) (hz : vs.length ≤ sizeLine) (k : ∀ c b₁, Ext b b₁ → b.get? c = none → Tp b₁ c vs → P (.ref c) b₁) : CT w G A (call (.type "tuple") [.ref a]) b P :=
  CT.new fun s Q E e _ q => call_tuple_list (x.ext e).is (fun h' hk => q _ _ s.toks (fun c o y => Heap.get?_push_of_some _ (hk c o y)) fun b₁ e₁ hn => by
    have fresh : s.heap.get? h'.objs.size = none := by
      cases q : s.heap.get? h'.objs.size with
      | none => rfl
      | some o => exact absurd (Heap.lt_size (hk _ _ q)) (Nat.lt_irrefl _)
    have := hn h'.objs.size _ fresh (Heap.get?_push_size _ rfl)
    exact k _ b₁ e₁ this.1 ⟨_, this.2⟩) (by simpa using hz)
theorem c_tuple_same {a : Addr} {vs : List Value} {P : Value → Heap → Prop} (x : Tp b a vs) (k : P (.ref a) b) : CT w G A (call (.type "tuple") [.ref a]) b P :=
  CT.still fun s Q E e _ q => call_tuple_same (x.ext e).is (q _ s.toks k)
theorem c_add_list {a c : Addr} {vs us : List Value} {P : Value → Heap → Prop} (x : Ls b a vs) (y : Ls b c us) (hz : vs.length + us.length ≤ sizeLine) (k : ∀ d b₁, Ext b b₁ → b.get? d = none → Ls b₁ d (vs ++ us) → P (.ref d) b₁) :
    CT w G A (binaryOp .Add (.ref a) (.ref c)) b P := by
  obtain ⟨n1, x⟩ := x
  obtain ⟨n2, y⟩ := y
  refine CT.push (ob := fun _ => { cls := .type "list", data := .seq (vs.toArray ++ us.toArray) }) (fun _ => rfl) (fun s Q E e _ q => PySem.P.add_list (e _ _ x) (e _ _ y) (q 0 s.toks) (by simpa using hz)) fun d b₁ _ e nn z => k d b₁ e nn ⟨0, ?_⟩
  have e2 : vs.toArray ++ us.toArray = (vs ++ us).toArray := by simp
  rw [e2] at z; exact z
/-- (x,) + t -/
theorem c_add_tuple {a c : Addr} {vs us : List Value} {P : Value → Heap → Prop} (x : Tp b a vs) (y : Tp b c us) (hv : vs ≠ []) (hz : vs.length + us.length ≤ sizeLine) (k : ∀ d b₁, Ext b b₁ → Tp b₁ d (vs ++ us) → (b.get? d = none ∨ d = a) → P (.ref d) b₁) :
    CT w G A (binaryOp .Add (.ref a) (.ref c)) b P := by
  by_cases hu : us = []
  · subst hu
    obtain ⟨n1, x⟩ := x
    obtain ⟨n2, y⟩ := y
    refine CT.still fun s Q E e _ q => ?_
    refine concat_meets ⟨_, e _ _ x, rfl⟩ ⟨_, e _ _ y, rfl⟩ noFill_tuple_add seq_tuple_add PySem.F.slot_tuple_add PySem.F.entry_tuple_add (PySem.F.args_tuple_add_2 _ _) (AutoSeq1.tuple___add___tuple_tuple_1 a vs.toArray n1 c #[] n2 ?_ ?_) ⟨e _ _ x, e _ _ y, ?_⟩
    · simpa using hv
    · simp
    · exact q _ s.toks (k a b .refl ⟨n1, by simpa using x⟩ (.inr rfl))
  · obtain ⟨n1, x⟩ := x
    obtain ⟨n2, y⟩ := y
    refine CT.push (ob := fun _ => { cls := .type "tuple", data := .seq (vs.toArray ++ us.toArray) }) (fun _ => rfl) (fun s Q E e _ q => PySem.P.add_tuple (e _ _ x) (e _ _ y) (by simpa using hv) (by simpa using hu) (q 0 s.toks) (by simpa using hz)) fun d b₁ _ e nn z => k d b₁ e ⟨0, ?_⟩ (.inl nn)
    have e2 : vs.toArray ++ us.toArray = (vs ++ us).toArray := by simp
    rw [e2] at z; exact z
theorem c_list_list {a : Addr} {vs : List Value} {P : Value → Heap → Prop} (x : Ls b a vs) (hz : vs.length ≤ sizeLine) (k : ∀ c b₁, Ext b b₁ → b.get? c = none → Ls b₁ c vs → P (.ref c) b₁) : CT w G A (call (.type "list") [.ref a]) b P := by
  obtain ⟨n, h⟩ := x
  refine CT.new fun s Q E e _ q => call_list_seq a (.inl rfl) (e _ _ h) rfl rfl (fun h' c' k1 k2 => q _ _ s.toks k1 fun b₁ e₁ hn => ?_) (by simpa using hz)
  have := hn s.heap.objs.size _ (Heap.get?_none_of_le (Nat.le_refl _)) k2
  exact k _ b₁ e₁ this.1 ⟨_, this.2⟩

/-! slices -/
theorem e_slice {lower upper : Option PySem.Expr} {p : Pos} {P : Value → Heap → Prop}
    (k : ET w G A f (evalPart lower env) b m fun l b₁ => ET w G A f (evalPart upper env) b₁ m fun u b₂ => ∀ a b₃, Ext b₂ b₃ → b₃.IsSliceOf a l u .none → P (.ref a) b₃) : ET w G A f (eval (.Slice lower upper none p) env) b m P := by
  intro s Q E F kk
  refine wpAny_Slice (k s _ E F fun l h₁ tk b₁ F₁ p₁ => p₁ _ _ E F₁ fun u h₂ tk₂ b₂ F₂ p₂ => ?_)
  rw [evalPart_none]
  refine wpAny_pure ?_
  dsimp only
  have e1 : Ext h₂ (h₂.push { cls := .type "slice", data := .fields #[l, u, .none] }) := fun c o e => Heap.get?_push_of_some _ e
  have q := F₂.rebase (S := fun _ => False) (.ext e1) (fun _ h => h.elim) (fun _ h => h.elim)
  have nf : h₂.objs.size ∉ f.fa := (F₂.fresh (Heap.get?_none_of_le (Nat.le_refl _))).2
  exact kk _ _ tk₂ _ q.1 (p₂ h₂.objs.size _ (fun c o e => q.2 c o id e) ⟨_, hideAll_get _ (Heap.get?_push_size _ rfl) nf, rfl, rfl⟩)
theorem e_slice_from {e : PySem.Expr} {p : Pos} {P : Value → Heap → Prop} (k : ET w G A f (eval e env) b m fun l b₁ => ∀ a b₃, Ext b₁ b₃ → b₃.IsSliceOf a l .none .none → P (.ref a) b₃) :
    ET w G A f (eval (.Slice (some e) none none p) env) b m P := e_slice (k.mono fun l b₁ q => ET.pure q)
theorem e_slice_to {e : PySem.Expr} {p : Pos} {P : Value → Heap → Prop} (k : ET w G A f (eval e env) b m fun l b₁ => ∀ a b₃, Ext b₁ b₃ → b₃.IsSliceOf a .none l .none → P (.ref a) b₃) :
    ET w G A f (eval (.Slice none (some e) none p) env) b m P := e_slice (ET.pure k)
theorem isSliceOf_ext {b b₁ : Heap} {a : Addr} {l u st : Value} (x : b.IsSliceOf a l u st) (e : Ext b b₁) : b₁.IsSliceOf a l u st := let ⟨o, h, r⟩ := x; ⟨o, e _ _ h, r⟩
/-- xs[:n] -/
theorem slicePick_take (vs : List Value) (n : Nat) : slicePick vs.toArray none (some (n : Int)) none = (vs.take n).toArray := by
  rw [kms_pick_eq]
  have : ¬ ((n : Int) < 0) := by omega
  simp only [kms_pick, kms_lo, kms_hi, this, if_false, Int.toNat_natCast, List.drop_zero, Nat.sub_zero]
  congr 1
  rcases Nat.le_total n vs.length with h | h
  · rw [Nat.min_eq_left (by simpa using h)]
  · rw [Nat.min_eq_right (by simpa using h), List.take_of_length_le (by simp), List.take_of_length_le h]
theorem c_slice_list {a sl : Addr} {vs : List Value} {n : Nat} {t : Tok} {P : Value → Heap → Prop} (x : Ls b a vs) (y : b.IsSliceOf sl .none (.int n t) .none) (hz : vs.length ≤ sizeLine)
    (k : ∀ c b₁, Ext b b₁ → b.get? c = none → Ls b₁ c (vs.take n) → P (.ref c) b₁) : CT w G A (getItem (.ref a) (.ref sl)) b P :=
  CT.push (ob := fun _ => { cls := .type "list", data := .seq (slicePick vs.toArray none (some (n : Int)) none) }) (fun _ => rfl)
    (fun s Q E e _ q => wpAny_getItem_list_slice (x.ext e).is (isSliceOf_ext y e) .none (.int _ _) .none (fun h => nomatch h) (q 0 s.toks) (by simpa using hz)) fun c b₁ _ e nn z => k c b₁ e nn ⟨0, by rw [slicePick_take] at z; exact z⟩
/-- t[1:] -/
theorem c_slice_tuple {a sl : Addr} {v : Value} {vs : List Value} {t : Tok} {P : Value → Heap → Prop} (x : Tp b a (v :: vs)) (y : b.IsSliceOf sl (.int 1 t) .none .none) (hz : vs.length + 1 ≤ sizeLine)
    (k : ∀ c b₁, Ext b b₁ → b.get? c = none → Tp b₁ c vs → P (.ref c) b₁) : CT w G A (getItem (.ref a) (.ref sl)) b P :=
  CT.push (ob := fun _ => { cls := .type "tuple", data := .seq ((v :: vs).toArray.toList.drop 1).toArray }) (fun _ => rfl)
    (fun s Q E e _ q => getItem_tuple_from (a := 1) (x.ext e).tup (isSliceOf_ext y e) (Nat.le_refl _) (by simp) (q 0 s.toks) (by simpa using hz)) fun c b₁ _ e nn z => k c b₁ e nn ⟨0, by simpa using z⟩

/-! stores -/
theorem t_setitem {o i value : PySem.Expr} {pos' pos : Pos} {P : Flow → Heap → Locs → Prop}
    (k : ET w G A f (eval value env) b m fun v b₁ => ET w G A f (eval o env) b₁ m fun ov b₂ => ET w G A f (eval i env) b₂ m fun iv b₃ => ET w G A f (setItem ov iv v) b₃ m fun _ b₄ => P .next b₄ m)
    (hs : swapsWith value (some (.Subscript o i pos')) pos.line env = pure false := by rfl) : TT w G A f (exec (.Assign [.Subscript o i pos'] value pos) env) b m P := fun s Q E F kk =>
  wpAny_Assign_Subscript (k s _ E F fun v h₁ tk b₁ F₁ p => p _ _ E F₁ fun ov h₂ tk₂ b₂ F₂ p₂ => p₂ _ _ E F₂ fun iv h₃ tk₃ b₃ F₃ p₃ => p₃ _ _ E F₃ fun _ h₄ tk₄ b₄ F₄ p₄ => kk _ h₄ tk₄ b₄ m F₄ p₄) hs
theorem t_setattr {o value : PySem.Expr} {attr : Str} {pos' pos : Pos} {P : Flow → Heap → Locs → Prop}
    (k : ET w G A f (eval value env) b m fun v b₁ => ET w G A f (eval o env) b₁ m fun ov b₂ => ET w G A f (setAttr ov attr v) b₂ m fun _ b₃ => P .next b₃ m)
    (hs : swapsWith value (some (.Attribute o attr pos')) pos.line env = pure false := by rfl) : TT w G A f (exec (.Assign [.Attribute o attr pos'] value pos) env) b m P := fun s Q E F kk =>
  plainObj_wpAny_Assign_Attribute (k s _ E F fun v h₁ tk b₁ F₁ p => p _ _ E F₁ fun ov h₂ tk₂ b₂ F₂ p₂ => p₂ _ _ E F₂ fun _ h₃ tk₃ b₃ F₃ p₃ => kk _ h₃ tk₃ b₃ m F₃ p₃) hs
theorem c_setItem_list {a : Addr} {vs : List Value} {i : Nat} {u : Tok} {v : Value} {P : Unit → Heap → Prop} (x : Ls b a vs) (g : G.get? a = none) (hi : i < vs.length) (hz : vs.length ≤ sizeLine)
    (k : ∀ b₁, (∀ d o, d ≠ a → b.get? d = some o → b₁.get? d = some o) → Ls b₁ a (vs.set i v) → P () b₁) : CT w G A (setItem (.ref a) (.int i u) v) b P := by
  obtain ⟨n, h⟩ := x
  refine CT.turn' h g fun s Q E e _ q => ?_
  have hs := e _ _ h
  have up := IsL.update hs (fun xs => xs.setIfInBounds i v)
  exact setItem_exact hs (Nat.lt_of_lt_of_le hi hz) (by simpa using hi) rfl (q () _ s.toks _ (fun d o nd y => (Heap.get?_update_ne _ _ _ _ nd).trans y) up fun b₁ hb hx => k b₁ hb (by
      have e2 : vs.toArray.setIfInBounds i v = (vs.set i v).toArray := by simp
      rw [e2] at hx; exact ⟨_, hx⟩))

/-! taking apart -/
theorem c_unpack_tuple {a : Addr} {vs : List Value} {P : List Value → Heap → Prop} (hh : A.handled = none) (x : Tp b a vs) (hn : n = vs.length) (k : P vs b) : CT w G A (unpackItems (.ref a) n none) b P := by
  subst hn
  refine CT.grow fun s Q E e _ q => ?_
  have := wpAny_unpackItems_tuple (Q := Q) (E := E) (w := w) (prog := PG) hh (x.ext e).is fun h' hs => by
    simpa using q vs h' s.toks (fun c o y => hs c o (Nat.ne_of_lt (Heap.lt_size y)) y) k
  simpa using this
theorem c_unpack_list {a : Addr} {vs : List Value} {P : List Value → Heap → Prop} (hh : A.handled = none) (x : Ls b a vs) (hn : n = vs.length) (k : P vs b) : CT w G A (unpackItems (.ref a) n none) b P := by
  subst hn
  refine CT.grow fun s Q E e _ q => ?_
  have := kun_itemsOf (Q := Q) (E := E) (w := w) (prog := PG) hh (x.ext e).is fun h' hs => by
    simpa using q vs h' s.toks (fun c o y => hs c o (Nat.ne_of_lt (Heap.lt_size y)) y) k
  simpa using this
theorem t_assign_tuple {elts : List PySem.Expr} {kk : Nat} {tpos pos : Pos} {value : PySem.Expr} {P : Flow → Heap → Locs → Prop} {l : List (Value → Sem Unit)}
    (k : ET w G A f (eval value env) b m fun v b₁ => ET w G A f (unpackItems v l.length none) b₁ m fun vs b₂ => TT w G A f (assignInOrder l vs) b₂ m fun _ => P .next)
    (hl : assignEach elts env = l.map fun t => (false, t) := by rfl)
    (hs : swapsWithSole [.Tuple elts kk tpos] value pos.line env = pure false := by rfl)
    (hw : swappedStores [.Tuple elts kk tpos] value env = pure none := by rfl) : TT w G A f (exec (.Assign [.Tuple elts kk tpos] value pos) env) b m P := by
  intro s Q E F c
  refine Assign_Tuple (k s _ E F fun v h₁ tk b₁ F₁ p => ?_) hs hw
  rw [arm_assign_Tuple]
  refine wpAny_bind (wpAny_standAt ?_)
  unfold unpack
  have h1 : (assignEach elts env).length = l.length := by rw [hl]; simp
  have h2 : (assignEach elts env).map (·.2) = l := by rw [hl]; simp [Function.comp_def]
  have h3 : (assignEach elts env).findIdx? (·.1) = none := by rw [hl, List.findIdx?_eq_none_iff]; intro x hx; obtain ⟨t, _, rfl⟩ := List.mem_map.mp hx; rfl
  rw [h1, h2, h3]
  exact wpAny_bind (wpAny_holding (p _ _ E F₁ fun vs h₂ tk₂ b₂ F₂ p₂ => p₂ _ _ E F₂ fun _ h₃ tk₃ b₃ m₃ F₃ p₃ => c _ h₃ tk₃ b₃ m₃ F₃ p₃))
theorem t_assign_swapped {elts : List PySem.Expr} {kk : Nat} {tpos pos : Pos} {value : PySem.Expr} {P : Flow → Heap → Locs → Prop} {names : List Str}
    (k : ET w G A f (eval value env) b m fun v b₁ => ET w G A f (unpackItems v names.length none) b₁ m fun vs b₂ => TT w G A f (assignInOrder (names.reverse.map fun n => bindName env n) vs.reverse) b₂ m fun _ => P .next)
    (hw : swappedStores [.Tuple elts kk tpos] value env = pure (some names))
    (hs : swapsWithSole [.Tuple elts kk tpos] value pos.line env = pure false := by rfl) : TT w G A f (exec (.Assign [.Tuple elts kk tpos] value pos) env) b m P := fun s Q E F c =>
  Assign_Tuple_swapped (k s _ E F fun v h₁ tk b₁ F₁ p => p _ _ E F₁ fun vs h₂ tk₂ b₂ F₂ p₂ => p₂ _ _ E F₂ fun _ h₃ tk₃ b₃ m₃ F₃ p₃ => c _ h₃ tk₃ b₃ m₃ F₃ p₃) hs hw
theorem a_nil {vs : List Value} {P : Unit → Heap → Locs → Prop} (k : P () b m) : TT w G A f (assignInOrder [] vs) b m P := fun s Q E F c => wpAny_pure (c () s.heap s.toks b m F k)
theorem a_cons {t : Value → Sem Unit} {ts : List (Value → Sem Unit)} {v : Value} {vs : List Value} {P : Unit → Heap → Locs → Prop} (k : TT w G A f (t v) b m fun _ b₁ m₁ => TT w G A f (assignInOrder ts vs) b₁ m₁ P) :
    TT w G A f (assignInOrder (t :: ts) (v :: vs)) b m P := by
  rw [assignInOrder]
  exact TT.bind (TT.holding k)
end
end Mine
end
section
open PySem PySem.W PyProof.Rows PySem.Calls PySem.Spec Builtin
set_option maxRecDepth 100000
set_option linter.unusedVariables false
namespace Mine

/-! tables -/
section
variable {K : Type} [DecidableEq K]
theorem va_stored (kvs : List (K × Value)) (k : K) (v : Value) (x : K) : valueAt (stored kvs k v) x = if x = k then some v else valueAt kvs x := by
  unfold stored
  by_cases h : kvs.any (fun kv => kv.1 = k) = true
  · rw [if_pos h]
    induction kvs with
    | nil => simp at h
    | cons p r ih =>
      simp only [List.map_cons, valueAt, List.find?_cons]
      by_cases hp : p.1 = k
      · simp only [if_pos hp]
        by_cases hx : x = k
        · subst hx; simp [hp]
        · rw [if_neg hx]
          have : ¬ p.1 = x := fun e => hx (e ▸ hp)
          simp only [this, decide_false]
          by_cases hr : r.any (fun kv => kv.1 = k) = true
          · have := ih hr; simp only [if_neg hx, valueAt] at this; exact this
          · congr 2
            refine List.map_congr_left (fun q hq => ?_) |>.trans (List.map_id _)
            have : ¬ q.1 = k := fun e => hr (List.any_eq_true.mpr ⟨q, hq, by simp [e]⟩)
            simp [this]
      · simp only [if_neg hp]
        have hr : r.any (fun kv => kv.1 = k) = true := by simpa [hp] using h
        have := ih hr
        by_cases hx : x = k
        · subst hx; simp only [hp, decide_false]; simpa [valueAt] using this
        · by_cases hpx : p.1 = x
          · simp [hpx, hx]
          · simp only [hpx, decide_false]; simpa [valueAt] using this
  · rw [if_neg h]
    have hn : ∀ q ∈ kvs, ¬ q.1 = k := fun q hq e => h (List.any_eq_true.mpr ⟨q, hq, by simp [e]⟩)
    simp only [valueAt, List.find?_append]
    by_cases hx : x = k
    · subst hx
      have : kvs.find? (fun kv => decide (kv.1 = x)) = none := List.find?_eq_none.mpr fun q hq => by simpa using hn q hq
      simp [this]
    · rw [if_neg hx]
      have : ¬ k = x := fun e => hx e.symm
      simp [this]
theorem va_without (kvs : List (K × Value)) (k x : K) : valueAt (without kvs k) x = if x = k then none else valueAt kvs x := by
  unfold without valueAt
  rw [List.find?_filter]
  by_cases hx : x = k
  · subst hx
    rw [if_pos rfl]
    have : kvs.find? (fun a => decide (decide (a.1 ≠ x) = true ∧ decide (a.1 = x) = true)) = none := List.find?_eq_none.mpr fun q hq => by simp
    simp [this]
  · rw [if_neg hx]
    congr 2
    funext q
    by_cases hq : q.1 = x
    · simp [hq, hx]
    · simp [hq]
theorem atKey_stored (xs : List (K × Addr × Value)) (k : K) (a : Addr) (v : Value) (x : K) (h : (atKey xs k) = none) : atKey (storedH xs k a v) x = if x = k then some (a, v) else atKey xs x := by
  rw [storedH_new h]
  unfold atKey at h ⊢
  rw [List.find?_append]
  have hn : xs.find? (fun y => decide (y.1 = k)) = none := by simpa using h
  by_cases hx : x = k
  · subst hx; simp [hn]
  · have : ¬ k = x := fun e => hx e.symm
    simp [hx, this]
end

/-! keys of two kinds -/
section
variable {prog : Program} {w : World} {A : Around} {E : Value → Shared → Prop} {s : Shared}
def isMix : Str ⊕ Int → Value → Bool
  | .inl x, v => Value.isStrOf x v
  | .inr i, v => Value.isInt i v
theorem isMix_shape {k : Str ⊕ Int} {v : Value} (h : isMix k v = true) : (∃ x t, k = .inl x ∧ v = .str x t) ∨ ∃ i t, k = .inr i ∧ v = .int i t := by
  cases k with
  | inl x => obtain ⟨t, rfl⟩ := Value.isStrOf_shape h; exact .inl ⟨x, t, rfl, rfl⟩
  | inr i => obtain ⟨t, rfl⟩ := Value.isInt_shape h; exact .inr ⟨i, t, rfl, rfl⟩
theorem eqBool_str_int {a : Str} {t : Tok} {b : Int} {u : Tok} {Q : Bool → Shared → Prop} (h : Q false s) : wpAny (model prog w) A (eqBool (.str a t) (.int b u)) Q E s := by
  unfold eqBool
  with_reducible refine wpAny_holding ?_
  rw [if_neg (by simp)]
  exact wpAny_bind (EqMixed.eq_str_int (wpAny_truthy_bool h))
theorem eqBool_int_str {a : Str} {t : Tok} {b : Int} {u : Tok} {Q : Bool → Shared → Prop} (h : Q false s) : wpAny (model prog w) A (eqBool (.int b u) (.str a t)) Q E s := by
  unfold eqBool
  with_reducible refine wpAny_holding ?_
  rw [if_neg (by simp)]
  exact wpAny_bind (EqMixed.eq_int_str (wpAny_truthy_bool h))
def mixKind (prog : Program) (w : World) : KeyKind prog w (Str ⊕ Int) where
  is := isMix
  hash := fun k => match k with | .inl x => hashStr w x | .inr i => hashInt i
  inj := fun v a b ha hb => by
    rcases isMix_shape ha with ⟨x, t, rfl, rfl⟩ | ⟨i, t, rfl, rfl⟩
    · rcases isMix_shape hb with ⟨x, t, rfl, e⟩ | ⟨i, t, rfl, e⟩
      · injection e with e1; rw [e1]
      · cases e
    · rcases isMix_shape hb with ⟨x, t, rfl, e⟩ | ⟨i, t, rfl, e⟩
      · cases e
      · injection e with e1; rw [e1]
  byValue := fun k v h => by rcases isMix_shape h with ⟨x, t, rfl, rfl⟩ | ⟨i, t, rfl, rfl⟩ <;> rfl
  pyHash := fun hv h => by
    rcases isMix_shape hv with ⟨x, t, rfl, rfl⟩ | ⟨i, t, rfl, rfl⟩
    · exact wpAny_pyHash_str h
    · exact wpAny_pyHash_int h
  «strs» := fun k x t v h => by
    rcases isMix_shape h with ⟨y, u, rfl, e⟩ | ⟨j, u, rfl, e⟩
    · injection e with e1; subst e1; cases v <;> rfl
    · cases e
  eqBool := fun hu hv h => by
    rcases isMix_shape hu with ⟨x, t, rfl, rfl⟩ | ⟨i, t, rfl, rfl⟩
    · rcases isMix_shape hv with ⟨y, t, rfl, rfl⟩ | ⟨i, t, rfl, rfl⟩
      · exact wpAny_eqBool_str (by simpa using h)
      · exact eqBool_str_int (by simpa using h)
    · rcases isMix_shape hv with ⟨y, t, rfl, rfl⟩ | ⟨j, t, rfl, rfl⟩
      · exact eqBool_int_str (by simpa using h)
      · refine wpAny_eqBool_int ?_
        have e : (i == j) = decide ((Sum.inr i : Str ⊕ Int) = .inr j) := by
          by_cases hij : i = j
          · subst hij; simp
          · simp [hij]
        rw [e]; exact h
end

abbrev TK (w : World) := tupleKind (mixKind PG w)

/-- a key of the heap's tables: the op, and numbers -/
def kk (q : Str × List Nat) : List (Str ⊕ Int) := .inl q.1 :: q.2.map fun n => .inr (Int.ofNat n)
theorem kk_inj {p q : Str × List Nat} (h : kk p = kk q) : p = q := by
  obtain ⟨a, l⟩ := p
  obtain ⟨c, r⟩ := q
  simp only [kk, List.cons.injEq, Sum.inl.injEq] at h
  obtain ⟨rfl, h⟩ := h
  have : l = r := by
    induction l generalizing r with
    | nil => cases r with | nil => rfl | cons _ _ => cases h
    | cons x l ih => cases r with
      | nil => cases h
      | cons y r => simp only [List.map_cons, List.cons.injEq, Sum.inr.injEq] at h; rw [Int.ofNat.inj h.1, ih _ h.2]
  rw [this]
abbrev Nums (vs : List Value) (ns : List Nat) : Prop := IntsAre vs (ns.map Int.ofNat)
theorem Nums.get {vs : List Value} {ns : List Nat} (h : Nums vs ns) {i n : Nat} (e : ns[i]? = some n) : ∃ t, vs[i]? = some (.int n t) := IntsAre.get h i n (by simp [e])
theorem Nums.length {vs : List Value} {ns : List Nat} (h : Nums vs ns) : vs.length = ns.length := by simpa using IntsAre.length h
/-- a tuple (op, number, ..) -/
def Row (b : Heap) (a : Addr) (q : Str × List Nat) : Prop := ∃ t vs, Tp b a (.str q.1 t :: vs) ∧ Nums vs q.2
theorem Row.at {b b₁ : Heap} {a : Addr} {q : Str × List Nat} (x : Row b a q) (e : ∀ o, b.get? a = some o → b₁.get? a = some o) : Row b₁ a q := let ⟨t, vs, h, r⟩ := x; ⟨t, vs, h.at e, r⟩
theorem Row.ext {b b₁ : Heap} {a : Addr} {q : Str × List Nat} (x : Row b a q) (e : Ext b b₁) : Row b₁ a q := x.at (e _)
theorem items_nums {w : World} {vs : List Value} {ns : List Nat} (h : Nums vs ns) : ItemsAre (mixKind PG w) (ns.map fun n => .inr (Int.ofNat n)) vs := by
  induction ns generalizing vs with
  | nil => cases h; exact .nil
  | cons n ns ih =>
    cases h with
    | cons h1 => exact .cons (by simp [mixKind, isMix, Value.isInt]) (ih (by assumption))
theorem Row.key {w : World} {b : Heap} {a : Addr} {q : Str × List Nat} (x : Row b a q) : (TK w).is b (kk q) a := by
  obtain ⟨t, vs, ⟨n, h⟩, r⟩ := x
  exact ⟨_, _, n, h, rfl, rfl, .cons (by simp [mixKind, isMix, Value.isStrOf]) (items_nums r)⟩

/-! the tables, hidden their entries' own objects -/
structure KD {w : World} {K : Type} [DecidableEq K] (knd : KeyKind PG w K) (b : Heap) (d : Addr) (f : K → Option Value) (n : Nat) : Prop where
  ex : ∃ kvs, b.DictOf knd d kvs ∧ kvs.length ≤ n ∧ ∀ k, valueAt kvs k = f k
  nm : (d == sysModules) = false
structure TD (w : World) (b : Heap) (d : Addr) (f : Str × List Nat → Option Nat) (n : Nat) (p : Addr → Prop) : Prop where
  ex : ∃ xs, b.DictOfH (TK w) d xs ∧ xs.length ≤ n ∧ (∀ q, match f q with | none => atKey xs (kk q) = none | some i => ∃ a t, atKey xs (kk q) = some (a, .int (Int.ofNat i) t)) ∧ ∀ y ∈ xs, p y.2.1
  nm : (d == sysModules) = false
section
variable {w : World} {K : Type} [DecidableEq K] {knd : KeyKind PG w K}
theorem dictOf_at {b b₁ : Heap} {d : Addr} {kvs : List (K × Value)} (x : b.DictOf knd d kvs) (e : ∀ o, b.get? d = some o → b₁.get? d = some o) : b₁.DictOf knd d kvs := let ⟨o, es, ep, h, r⟩ := x; ⟨o, es, ep, e _ h, r⟩
theorem dictOf_live {b : Heap} {d : Addr} {kvs : List (K × Value)} (x : b.DictOf knd d kvs) : ∃ o, b.get? d = some o := let ⟨o, es, ep, h, r⟩ := x; ⟨o, h⟩
theorem KD.at {b b₁ : Heap} {d : Addr} {f : K → Option Value} {n : Nat} (x : KD knd b d f n) (e : ∀ o, b.get? d = some o → b₁.get? d = some o) : KD knd b₁ d f n :=
  ⟨let ⟨kvs, h, r⟩ := x.ex; ⟨kvs, dictOf_at h e, r⟩, x.nm⟩
theorem KD.ext {b b₁ : Heap} {d : Addr} {f : K → Option Value} {n : Nat} (x : KD knd b d f n) (e : Ext b b₁) : KD knd b₁ d f n := x.at (e _)
theorem KD.live {b : Heap} {d : Addr} {f : K → Option Value} {n : Nat} (x : KD knd b d f n) : ∃ o, b.get? d = some o := let ⟨_, h, _⟩ := x.ex; dictOf_live h
theorem dictOfH_at {b b₁ : Heap} {d : Addr} {xs : List (List (Str ⊕ Int) × Addr × Value)} (x : b.DictOfH (TK w) d xs) (e : ∀ o, b.get? d = some o → b₁.get? d = some o)
    (ek : ∀ y ∈ xs, ∀ o, b.get? y.2.1 = some o → b₁.get? y.2.1 = some o) : b₁.DictOfH (TK w) d xs := by
  obtain ⟨o, es, ep, h, h1, h2, h3, h4, h5⟩ := x
  refine ⟨o, es, ep, e _ h, h1, h2, h3, fun y hy => ?_, h5⟩
  obtain ⟨o', its, n, g1, g2, g3, g4⟩ := h4 y hy
  exact ⟨o', its, n, ek y hy _ g1, g2, g3, g4⟩
theorem TD.at {b b₁ : Heap} {d : Addr} {f : Str × List Nat → Option Nat} {n : Nat} {p p' : Addr → Prop} (x : TD w b d f n p) (e : ∀ o, b.get? d = some o → b₁.get? d = some o)
    (ek : ∀ a, p a → ∀ o, b.get? a = some o → p' a ∧ b₁.get? a = some o) : TD w b₁ d f n p' := ⟨let ⟨xs, h, r, q, k⟩ := x.ex; ⟨xs, dictOfH_at h e fun y hy o ho => (ek _ (k y hy) o ho).2, r, q, fun y hy => by
      obtain ⟨_, _, _, _, _, _, _, h4, _⟩ := h
      obtain ⟨o', _, _, g1, _⟩ := h4 y hy
      exact (ek _ (k y hy) o' g1).1⟩, x.nm⟩
theorem TD.ext {b b₁ : Heap} {d : Addr} {f : Str × List Nat → Option Nat} {n : Nat} {p : Addr → Prop} (x : TD w b d f n p) (e : Ext b b₁) : TD w b₁ d f n p := x.at (e _) fun a h o ho => ⟨h, e a o ho⟩
theorem TD.live {b : Heap} {d : Addr} {f : Str × List Nat → Option Nat} {n : Nat} {p : Addr → Prop} (x : TD w b d f n p) : ∃ o, b.get? d = some o := let ⟨_, ⟨o, _, _, h, _⟩, _⟩ := x.ex; ⟨o, h⟩
end

section
variable {w : World} {G b : Heap} {A : Around} {f : Fram} {m : Locs} {env : Env} {α : Type} {n : Nat} {K : Type} [DecidableEq K] {knd : KeyKind PG w K} {F : K → Option Value} {T : Str × List Nat → Option Nat} {d : Addr}

theorem modules_of (W : Ext G b) (hn : G.NoLimit) (hd : b.get? d = none) : (d == sysModules) = false ∨ d < b.objs.size := by
  have := modules_low (hn.keeps W)
  by_cases h : d = sysModules
  · subst h; exact .inr this
  · exact .inl (by simpa using h)

/-- {} -/
theorem e_dict0 {pos : Pos} {P : Value → Heap → Prop} (hn : G.NoLimit) (k : ∀ d b₁, Ext b b₁ → b.get? d = none → (d == sysModules) = false → b₁.get? d = some { cls := .type "dict", data := .dict #[] } → P (.ref d) b₁) :
    ET w G A f (eval (.Dict [] [] pos) env) b m P := by
  intro s Q E F kk
  refine wpAny_Dict_empty ?_
  have e1 : Ext s.heap (s.heap.push { cls := .type "dict", data := .dict #[] }) := fun c o e => Heap.get?_push_of_some _ e
  have q := F.rebase (S := fun _ => False) (.ext e1) (fun _ h => h.elim) (fun _ h => h.elim)
  have fr := F.fresh (Heap.get?_none_of_le (Nat.le_refl s.heap.objs.size))
  have hm : (s.heap.objs.size == sysModules) = false := by
    have := modules_low (hn.keeps F.gh)
    exact beq_eq_false_iff_ne.mpr fun e => by rw [← e] at this; exact Nat.lt_irrefl _ this
  exact kk _ _ s.toks _ q.1 (k _ _ (fun c o e => q.2 c o id e) fr.1 hm (hideAll_get _ (Heap.get?_push_size _ rfl) fr.2))
theorem KD.new (knd : KeyKind PG w K) {b : Heap} (h : b.get? d = some { cls := .type "dict", data := .dict #[] }) (nm : (d == sysModules) = false) : KD knd b d (fun _ => none) 0 :=
  ⟨⟨[], ⟨_, _, _, h, ⟨rfl, rfl, rfl⟩, rfl, fun _ he => by simp at he, .nil, List.nodup_nil⟩, Nat.le_refl _, fun _ => rfl⟩, nm⟩
theorem TD.new {p : Addr → Prop} {b : Heap} (h : b.get? d = some { cls := .type "dict", data := .dict #[] }) (nm : (d == sysModules) = false) : TD w b d (fun _ => none) 0 p :=
  ⟨⟨[], ⟨_, _, _, h, ⟨rfl, rfl, rfl⟩, rfl, rfl, fun _ he => by simp at he, List.nodup_nil⟩, Nat.le_refl _, fun _ => rfl, fun _ h => nomatch h⟩, nm⟩

theorem KD.map {b : Heap} (x : KD knd b d F n) : b.MapOf knd d F := by
  obtain ⟨kvs, ⟨o, es, ep, h1, h2, h3, h4, h5, h6⟩, _, hf⟩ := x.ex
  exact ⟨o, es, ep, h1, h2, h3, h4, fun k => by rw [← hf k, ← h5.find k]; unfold findBy; rw [← Array.find?_toList]⟩
/-- k in d -/
theorem c_kd_in {k : K} {key : Value} {P : Value → Heap → Prop} (x : KD knd b d F n) (hk : knd.is k key = true) (p : P (.bool (F k).isSome) b) : CT w G A (compareOp .In key (.ref d)) b P :=
  CT.still fun s Q E e _ q => wpAny_in_of hk x.nm (x.ext e).map (q _ _ p)
/-- d[k] -/
theorem c_kd_get {k : K} {key v : Value} {P : Value → Heap → Prop} (x : KD knd b d F n) (hk : knd.is k key = true) (hv : F k = some v) (p : P v b) : CT w G A (getItem (.ref d) key) b P :=
  CT.still fun s Q E e _ q => wpAny_getItem_of hk (x.ext e).map hv (q _ _ p)
/-- d[k] = v -/
theorem c_kd_set {k : K} {key v : Value} {P : Unit → Heap → Prop} (x : KD knd b d F n) (g : G.get? d = none) (hk : knd.is k key = true) (hz : n ≤ sizeLine)
    (p : ∀ b₁, (∀ c o, c ≠ d → b.get? c = some o → b₁.get? c = some o) → KD knd b₁ d (fun y => if y = k then some v else F y) (if (F k).isSome then n else n + 1) → P () b₁) : CT w G A (setItem (.ref d) key v) b P := by
  obtain ⟨kvs, h, hl, hf⟩ := x.ex
  obtain ⟨o, ho⟩ := dictOf_live h
  refine CT.turn' ho g fun s Q E e _ q => wpAny_setItem_pairs hk (dictOf_at h (e _)) (fun h' hd hs => ?_) (Nat.le_trans hl hz)
  obtain ⟨o₁, es, ep, h1, r⟩ := hd
  refine q () h' _ o₁ (fun c y nc hc => (hs.2 c nc).trans hc) h1 fun b₁ hb hx => p b₁ hb ⟨⟨stored kvs k v, ⟨o₁, es, ep, hx, r⟩, ?_, fun y => by rw [va_stored, hf]⟩, x.nm⟩
  by_cases hs : (F k).isSome = true
  · rw [if_pos hs]
    have : kvs.any (fun kv => kv.1 = k) = true := by
      rw [← hf k] at hs
      by_cases ha : kvs.any (fun kv => kv.1 = k) = true
      · exact ha
      · have : kvs.find? (fun kv => decide (kv.1 = k)) = none := List.find?_eq_none.mpr fun q hq => by
          intro hh; exact ha (List.any_eq_true.mpr ⟨q, hq, hh⟩)
        simp [valueAt, this] at hs
    unfold stored; rw [if_pos this]; simpa using hl
  · rw [if_neg hs]
    exact Nat.le_trans (stored_length_le ..) (Nat.succ_le_succ hl)
/-- d.pop(k) -/
theorem c_kd_pop {k : K} {key v : Value} {P : Value → Heap → Prop} (x : KD knd b d F n) (g : G.get? d = none) (hk : knd.is k key = true) (hp : (keyPart key).isSome = true) (hv : F k = some v) (hz : n ≤ sizeLine)
    (p : ∀ b₁, (∀ c o, c ≠ d → b.get? c = some o → b₁.get? c = some o) → KD knd b₁ d (fun y => if y = k then none else F y) n → P v b₁) : CT w G A (call (.builtin "dict.pop") [.ref d, key]) b P := by
  obtain ⟨kvs, h, hl, hf⟩ := x.ex
  obtain ⟨o, ho⟩ := dictOf_live h
  refine CT.turn' ho g fun s Q E e _ q => ?_
  have hd := dictOf_at h (e _)
  refine call_meetsIn PySem.F.slot_dict_pop (Heap.DictOf.typeIs hd) PySem.F.entry_dict_pop (PySem.F.args_dict_pop_2 _ _) (meets_dict_pop_there knd d hk [] (.inl rfl) hp) ⟨kvs, v, hd, Nat.le_trans hl hz, (hf k).trans hv, fun h' hd' hs => ?_⟩
  obtain ⟨o₁, es, ep, h1, r⟩ := hd'
  refine q _ h' _ o₁ (fun c y nc hc => (hs.2 c nc).trans hc) h1 fun b₁ hb hx => p b₁ hb ⟨⟨without kvs k, ⟨o₁, es, ep, hx, r⟩, ?_, fun y => by rw [va_without, hf]⟩, x.nm⟩
  exact Nat.le_trans (List.length_filter_le ..) hl

/-! by a row -/
theorem c_td_in {a : Addr} {r : Str × List Nat} {P : Value → Heap → Prop} (hA : AOk (n + 1) A) {n' : Nat} {p : Addr → Prop} (x : TD w b d T n' p) (hk : Row b a r) (k : P (.bool (T r).isSome) b) : CT w G A (compareOp .In (.ref a) (.ref d)) b P := by
  obtain ⟨xs, h, hl, hf, hp⟩ := x.ex
  refine CT.still fun s Q E e _ q => wpAny_in_heap (k := kk r) hA.u1 (hk.ext e).key x.nm (dictOfH_at h (e _) fun y _ o => e y.2.1 o) (q _ _ ?_)
  have := hf r
  cases hT : T r with
  | none => rw [hT] at this k; rw [this]; exact k
  | some i => rw [hT] at this k; obtain ⟨a', t, this⟩ := this; rw [this]; exact k
theorem c_td_get {a : Addr} {r : Str × List Nat} {i : Nat} {P : Value → Heap → Prop} (hA : AOk (n + 1) A) {n' : Nat} {p : Addr → Prop} (x : TD w b d T n' p) (hk : Row b a r) (hi : T r = some i) (k : ∀ t, P (.int (Int.ofNat i) t) b) :
    CT w G A (getItem (.ref d) (.ref a)) b P := by
  obtain ⟨xs, h, hl, hf, hpp⟩ := x.ex
  have := hf r
  rw [hi] at this
  obtain ⟨a', t, this⟩ := this
  exact CT.still fun s Q E e _ q => wpAny_getItem_heap (k := kk r) hA.u1 (hk.ext e).key (dictOfH_at h (e _) fun y _ o => e y.2.1 o) this (q _ _ (k t))
theorem c_td_getd {a : Addr} {r : Str × List Nat} {v : Value} {P : Value → Heap → Prop} (hA : AOk (n + 1) A) {n' : Nat} {p : Addr → Prop} (x : TD w b d T n' p) (hk : Row b a r)
    (k : match T r with | none => P v b | some i => ∀ t, P (.int (Int.ofNat i) t) b) : CT w G A (call (.builtin "dict.get") [.ref d, .ref a, v]) b P := by
  obtain ⟨xs, h, hl, hf, hpp⟩ := x.ex
  have ht := hf r
  refine CT.still fun s Q E e _ q => ?_
  have hd := dictOfH_at h (e _) fun y _ o => e y.2.1 o
  refine call_meetsIn PySem.F.slot_dict_get hd.typeIs PySem.F.entry_dict_get (PySem.F.args_dict_get_3 _ _ _) (meetsH_dict_get_default (TK w) d a x.nm v) ⟨hA.u1, kk r, xs, (hk.ext e).key, hd, q _ _ ?_⟩
  cases hT : T r with
  | none => rw [hT] at ht k; rw [ht]; exact k
  | some i => rw [hT] at ht k; obtain ⟨a', t, ht⟩ := ht; rw [ht]; exact k t
theorem TD.stored {b b₁ : Heap} {xs : List (List (Str ⊕ Int) × Addr × Value)} {a : Addr} {r : Str × List Nat} {i : Nat} {t : Tok} (hf : ∀ q, match T q with | none => atKey xs (kk q) = none | some i => ∃ a t, atKey xs (kk q) = some (a, .int (Int.ofNat i) t)) (hT : T r = none) :
    ∀ q, match (if q = r then some i else T q) with | none => atKey (storedH xs (kk r) a (.int (Int.ofNat i) t)) (kk q) = none | some j => ∃ a' t', atKey (storedH xs (kk r) a (.int (Int.ofNat i) t)) (kk q) = some (a', .int (Int.ofNat j) t') := by
  have h0 := hf r
  rw [hT] at h0
  intro q
  rw [atKey_stored _ _ _ _ _ h0]
  by_cases hq : q = r
  · subst hq; simp only [if_pos]; exact ⟨_, _, rfl⟩
  · have hk : ¬ kk q = kk r := fun e => hq (kk_inj e)
    simp only [if_neg hq, if_neg hk]
    exact hf q
theorem dictOfH_moved {h h' : Heap} {b₁ : Heap} {xs xs' : List (List (Str ⊕ Int) × Addr × Value)} {o₁ : Obj} (hd : h'.DictOfH (TK w) d xs') (e1 : h'.get? d = some o₁) (e2 : b₁.get? d = some o₁)
    (hk : ∀ y ∈ xs', (TK w).is b₁ y.1 y.2.1) : b₁.DictOfH (TK w) d xs' := by
  obtain ⟨o, es, ep, h1, h2, h3, h4, h5, h6⟩ := hd
  rw [e1] at h1; cases h1
  exact ⟨_, es, ep, e2, h2, h3, h4, hk, h6⟩
theorem is_keeps {b b₁ : Heap} {o : Obj} {es ep} {k : List (Str ⊕ Int)} {a : Addr} (x : (TK w).is b k a) (ho : b.get? d = some o) (hd : o.data = .dict es ep) (hb : ∀ c y, c ≠ d → b.get? c = some y → b₁.get? c = some y) : (TK w).is b₁ k a := by
  obtain ⟨o', its, n, h1, h2, h3, h4⟩ := x
  exact ⟨o', its, n, hb _ _ (fun e => by subst e; rw [ho] at h1; cases h1; rw [hd] at h3; cases h3) h1, h2, h3, h4⟩
theorem c_td_set {a : Addr} {r : Str × List Nat} {i : Nat} {t : Tok} {P : Unit → Heap → Prop} (hA : AOk (n + 1) A) {n' : Nat} {p : Addr → Prop} (x : TD w b d T n' p) (g : G.get? d = none) (hk : Row b a r) (hT : T r = none) (hz : n' ≤ sizeLine) (hpa : p a)
    (k : ∀ b₁, (∀ c o, c ≠ d → b.get? c = some o → b₁.get? c = some o) → TD w b₁ d (fun q => if q = r then some i else T q) (n' + 1) p → P () b₁) : CT w G A (setItem (.ref d) (.ref a) (.int (Int.ofNat i) t)) b P := by
  obtain ⟨xs, h, hl, hf, hpp⟩ := x.ex
  obtain ⟨o, es0, ep0, ho, _, hdat, _, his, _⟩ := id h
  refine CT.turn' ho g fun s Q E e _ q => wpAny_setItem_heap (k := kk r) hA.u1 (hk.ext e).key (dictOfH_at h (e _) fun y _ o => e y.2.1 o) (fun h' hd hs => ?_) (Nat.le_trans hl hz)
  obtain ⟨o₁, es, ep, h1, _⟩ := id hd
  refine q () h' _ o₁ (fun c y nc hc => (hs.2 c nc).trans hc) h1 fun b₁ hb hx => k b₁ hb ⟨⟨_, dictOfH_moved (h := b) (xs := xs) hd h1 hx ?_, ?_, TD.stored (b := b) (b₁ := b₁) hf hT, ?_⟩, x.nm⟩
  · have h0 := hf r
    rw [hT] at h0
    rw [storedH_new h0]
    intro y hy
    rcases List.mem_append.mp hy with hy | hy
    · exact is_keeps (his y hy) ho hdat hb
    · cases List.mem_singleton.mp hy
      exact is_keeps hk.key ho hdat hb
  · have h0 := hf r
    rw [hT] at h0
    rw [storedH_new h0]; simpa using hl
  · have h0 := hf r
    rw [hT] at h0
    rw [storedH_new h0]
    intro y hy
    rcases List.mem_append.mp hy with hy | hy
    · exact hpp y hy
    · cases List.mem_singleton.mp hy; exact hpa
end
end Mine
end
section
open PySem PySem.W PyProof.Rows PySem.Calls PySem.Spec Builtin
set_option maxRecDepth 100000
set_option linter.unusedVariables false
namespace Mine

section
variable {prog : Program} {w : World} {K : Type} [DecidableEq K] {knd : HeapKind prog w K} {A : Around} {E : Value → Shared → Prop} {s : Shared}
theorem setDefault_heap {d a : Addr} {xs : List (K × Addr × Value)} {k : K} {v : Value} {Q : Value → Shared → Prop} (hu : knd.room A) (hkey : knd.is s.heap k a) (hm : s.heap.DictOfH knd d xs)
    (h1 : ∀ p, atKey xs k = some p → Q p.2 { s with toks := s.toks + knd.draws k })
    (h2 : atKey xs k = none → ∀ h', h'.DictOfH knd d (xs ++ [(k, a, v)]) → Heap.SameBut d s.heap h' → Q v { s with heap := h', toks := s.toks + knd.draws k })
    (hsz : xs.length ≤ sizeLine) : wpAny (model prog w) A (dictSetDefault d (.ref a) v) Q E s := by
  obtain ⟨o, es, ep, ho, hc, hd, he, his, hn⟩ := hm
  unfold dictSetDefault
  with_reducible refine wpAny_holding ?_
  refine wpAny_bind (knd.pyHash hu hkey ?_)
  refine wpAny_bind (wpAny_dictFind_heap (s := { s with toks := s.toks + knd.draws k }) hu hkey ho hd he his hn ?_ ?_)
  · intro hno
    have hnot : k ∉ xs.map (·.1) := not_mem_keys_of_get hno
    refine wpAny_bind (wpAny_rule (wpAny_bind (wpAny_updateDictKeys (hz := by have e := size_of_entries he; omega) (s := { s with toks := s.toks + knd.draws k }) ho hd (wpAny_pure (h2 (atKey_none_of_get hno) _
      ⟨_, _, ep + 1, Heap.get?_update_self _ ho (Obj.isFreed_of_dict (Obj.data_mapDictKeys hd _)), hc.mapDictKeys _, Obj.data_mapDictKeys hd _, ?_, ?_, ?_⟩ (Heap.SameBut.update ..))))))
    · simp [he, entryOfKey]
    · intro x hx
      rcases List.mem_append.mp hx with hx | hx
      · exact knd.keeps (his x hx) ho hd (Heap.SameBut.update ..)
      · cases List.mem_singleton.mp hx
        exact knd.keeps hkey ho hd (Heap.SameBut.update ..)
    · rw [List.map_append, List.nodup_append]
      refine ⟨hn, by simp, ?_⟩
      intro x hx y hy
      simp only [List.map_cons, List.map_nil, List.mem_singleton] at hy
      subst hy
      exact fun e => hnot (e ▸ hx)
  · intro j p hj
    refine wpAny_bind (wpAny_dictEntries (s := { s with toks := s.toks + knd.draws k }) ho hd ?_)
    rw [entry_at he j, hj]
    exact wpAny_bind (wpAny_rule (wpAny_pure (h1 p (atKey_of_get hn hj))))
theorem meetsH_setdefault (d a : Addr) (hd : (d == sysModules) = false) (v : Value) :
    MeetsIn prog w (Builtin.«dict.setdefault» ⟨[.ref d, .ref a, v], []⟩) (fun A R s => knd.room A.in1 ∧ ∃ k xs, knd.is s.heap k a ∧ s.heap.DictOfH knd d xs ∧ xs.length ≤ sizeLine ∧
      (∀ p, atKey xs k = some p → R (.ok (.ret p.2)) { s with toks := s.toks + knd.draws k }) ∧
      (atKey xs k = none → ∀ h', h'.DictOfH knd d (xs ++ [(k, a, v)]) → Heap.SameBut d s.heap h' → R (.ok (.ret v)) { s with heap := h', toks := s.toks + knd.draws k })) :=
  .of_wp fun A R s H => by
    obtain ⟨hu, k, xs, hkey, hm, hz, h1, h2⟩ := H
    unfold Builtin.«dict.setdefault»
    refine wpAny_bind ?_
    unfold Builtin.Dict.keyAndDefault
    refine wpAny_bind (wpAny_notOrdered_dict hm.typeIs ?_)
    show wpAny _ _ (pure (d, Value.ref a, some v)) _ _ s
    refine wpAny_pure ?_
    show wpAny _ _ (if (d == sysModules) = true then _ else (dictSetDefault d (.ref a) v >>= _)) _ _ s
    rw [if_neg (by rw [hd]; exact Bool.false_ne_true)]
    exact wpAny_bind (setDefault_heap hu hkey hm (fun p hv => wpAny_pure ⟨p.2, rfl, h1 p hv⟩) (fun hn h' hm' hs' => wpAny_pure ⟨v, rfl, h2 hn h' hm' hs'⟩) hz)
end

section
variable {w : World} {G b : Heap} {A : Around} {f : Fram} {m : Locs} {env : Env} {α : Type} {n : Nat} {K : Type} [DecidableEq K] {knd : KeyKind PG w K} {F : K → Option Value} {T : Str × List Nat → Option Nat} {d : Addr}
/-- d.setdefault(row, i) -/
theorem c_td_setdefault {a : Addr} {r : Str × List Nat} {i : Nat} {t : Tok} {P : Value → Heap → Prop} (hA : AOk (n + 1) A) {n' : Nat} {p : Addr → Prop} (x : TD w b d T n' p) (g : G.get? d = none) (hk : Row b a r) (hz : n' ≤ sizeLine) (hpa : p a)
    (p1 : ∀ j t, T r = some j → P (.int (Int.ofNat j) t) b)
    (p2 : T r = none → ∀ b₁, (∀ c o, c ≠ d → b.get? c = some o → b₁.get? c = some o) → TD w b₁ d (fun q => if q = r then some i else T q) (n' + 1) p → P (.int (Int.ofNat i) t) b₁) :
    CT w G A (call (.builtin "dict.setdefault") [.ref d, .ref a, .int (Int.ofNat i) t]) b P := by
  obtain ⟨xs, h, hl, hf, hpp⟩ := x.ex
  obtain ⟨o, es0, ep0, ho, _, hdat, _, his, _⟩ := id h
  have ht := hf r
  cases hT : T r with
  | some j =>
    rw [hT] at ht
    obtain ⟨a', t', ht⟩ := ht
    refine CT.still fun s Q E e _ q => ?_
    have hd := dictOfH_at h (e _) fun y _ o => e y.2.1 o
    refine call_meetsIn PySem.F.slot_dict_setdefault hd.typeIs PySem.F.entry_dict_setdefault (PySem.F.args_dict_setdefault_3 _ _ _) (meetsH_setdefault (knd := TK w) d a x.nm _) ⟨hA.u1, kk r, xs, (hk.ext e).key, hd, Nat.le_trans hl hz, fun p hp => ?_, fun hn => ?_⟩
    · rw [ht] at hp; cases hp; exact q _ _ (p1 j t' hT)
    · rw [ht] at hn; cases hn
  | none =>
    rw [hT] at ht
    refine CT.turn' ho g fun s Q E e _ q => ?_
    have hd := dictOfH_at h (e _) fun y _ o => e y.2.1 o
    refine call_meetsIn PySem.F.slot_dict_setdefault hd.typeIs PySem.F.entry_dict_setdefault (PySem.F.args_dict_setdefault_3 _ _ _) (meetsH_setdefault (knd := TK w) d a x.nm _) ⟨hA.u1, kk r, xs, (hk.ext e).key, hd, Nat.le_trans hl hz, fun p hp => ?_, fun _ h' hd' hs => ?_⟩
    · rw [ht] at hp; cases hp
    · obtain ⟨o₁, es, ep, h1, _⟩ := id hd'
      refine q _ h' _ o₁ (fun c y nc hc => (hs.2 c nc).trans hc) h1 fun b₁ hb hx => p2 hT b₁ hb ⟨⟨_, dictOfH_moved (h := b) (xs := xs) hd' h1 hx ?_, by simpa using hl, ?_, ?_⟩, x.nm⟩
      · intro y hy
        rcases List.mem_append.mp hy with hy | hy
        · exact is_keeps (his y hy) ho hdat hb
        · cases List.mem_singleton.mp hy
          exact is_keeps hk.key ho hdat hb
      · have := TD.stored (b := b) (b₁ := b₁) (a := a) (i := i) (t := t) hf hT
        rw [storedH_new ht] at this
        exact this
      · intro y hy
        rcases List.mem_append.mp hy with hy | hy
        · exact hpp y hy
        · cases List.mem_singleton.mp hy; exact hpa

/-- {k: v, ..} -/
theorem e_dict {keys : List (Option PySem.Expr)} {values : List PySem.Expr} {pos : Pos} {P : Value → Heap → Prop} (hn : G.NoLimit)
    (k : ∀ d b₁, Ext b b₁ → b.get? d = none → (d == sysModules) = false → KD knd b₁ d (fun _ => none) 0 → ET w G A f (evalPairs (pairTrees keys values env pos)) b₁ m fun vs b₂ =>
      ∃ kvs, Carries knd vs kvs ∧ KD knd b₂ d (fun _ => none) 0 ∧ G.get? d = none ∧ ∀ b₃, (∀ c o, c ≠ d → b₂.get? c = some o → b₃.get? c = some o) → b₃.DictOf knd d (merged [] kvs) → P (.ref d) b₃)
    (hall : keys.all (·.isSome) = true := by rfl) (hl : keys.length = values.length := by rfl) (h0 : keys ≠ [] := by exact List.cons_ne_nil _ _) (hlen : keys.length ≤ 15 := by decide) :
    ET w G A f (eval (.Dict keys values pos) env) b m P := by
  intro s Q E F kk
  have e1 : Ext s.heap (s.heap.push { cls := .type "dict", data := .dict #[] }) := fun c o e => Heap.get?_push_of_some _ e
  have q := F.rebase (S := fun _ => False) (.ext e1) (fun _ h => h.elim) (fun _ h => h.elim)
  have fr := F.fresh (Heap.get?_none_of_le (Nat.le_refl s.heap.objs.size))
  have hm : (s.heap.objs.size == sysModules) = false := by
    have := modules_low (hn.keeps F.gh)
    exact beq_eq_false_iff_ne.mpr fun e => by rw [← e] at this; exact Nat.lt_irrefl _ this
  refine wpAny_Dict_walk (knd := knd) hall hl h0 hlen ?_
  refine k s.heap.objs.size _ (fun c o e => q.2 c o id e) fr.1 hm (KD.new knd (hideAll_get _ (Heap.get?_push_size _ rfl) fr.2) hm) _ _ E q.1 fun vs h₁ tk b₂ F₂ p => ?_
  obtain ⟨kvs, hc, hd, hg, p⟩ := p
  obtain ⟨kvs', hd, hl0, _⟩ := hd.ex
  have : kvs' = [] := List.length_eq_zero_iff.mp (Nat.le_zero.mp hl0)
  subst this
  refine ⟨kvs, hc, dictOf_at hd (F₂.keep _), fun h' hd' hs => ?_⟩
  obtain ⟨o, ho⟩ := dictOf_live hd
  have q2 := F₂.rebase (h₁ := h') (S := fun d => d = s.heap.objs.size) (fun d x n y => (hs.2 d n).trans y) (fun _ h => h ▸ ⟨_, ho⟩) (fun _ h => h ▸ hg)
  refine kk _ _ _ _ q2.1 (p _ (fun d x n y => q2.2 d x n y) (dictOf_at hd' fun o' e' => hideAll_get _ e' (F₂.not_fa ho)))
theorem e_pairs_nil {P : List (Value × Value) → Heap → Prop} (k : P [] b) : ET w G A f (evalPairs []) b m P := fun s _ _ F c => wpAny_pure (c _ s.heap s.toks b F k)
theorem e_pairs_cons {ke v : Sem Value} {rest : List (Sem Value × Sem Value)} {P : List (Value × Value) → Heap → Prop}
    (k : ET w G A f ke b m fun kv b₁ => ET w G A f v b₁ m fun vv b₂ => ET w G A f (evalPairs rest) b₂ m fun vs => P ((kv, vv) :: vs)) : ET w G A f (evalPairs ((ke, v) :: rest)) b m P :=
  fun s Q E F c => evalPairs_cons (k s _ E F fun kv h₁ tk b₁ F₁ p => p _ _ E F₁ fun vv h₂ tk₂ b₂ F₂ p₂ => p₂ _ _ E F₂ fun vs h₃ tk₃ b₃ F₃ p₃ => c _ h₃ tk₃ b₃ F₃ p₃)
end
end Mine
end
section
open PySem PySem.W PyProof.Rows PySem.Calls PySem.Spec Builtin
set_option maxRecDepth 100000
set_option linter.unusedVariables false
namespace Mine

section
variable {w : World} {G b : Heap} {A : Around} {f : Fram} {m : Locs} {env : Env} {α : Type} {n : Nat}

/-! ints -/
theorem c_mod_int {x y : Int} {t u : Tok} {P : Value → Heap → Prop} (hy : y ≠ 0) (k : ∀ t, P (.int (x.fmod y) t) b) : CT w G A (binaryOp .Mod (.int x t) (.int y u)) b P := CT.still fun s Q E _ _ q => PyProof.Rows.mod_int hy (q _ _ (k _))
theorem c_sub_int {x y : Int} {t u : Tok} {P : Value → Heap → Prop} (k : ∀ t, P (.int (x - y) t) b) : CT w G A (binaryOp .Sub (.int x t) (.int y u)) b P := CT.still fun s Q E _ _ q => PyProof.Rows.sub_int (q _ _ (k _))
theorem c_max2 {x y : Int} {t u : Tok} {P : Value → Heap → Prop} (hh : A.handled = none) (k : ∀ t, P (.int (max x y) t) b) : CT w G A (call (.builtin "max") [.int x t, .int y u]) b P :=
  CT.grow fun s Q E _ _ q => max_two_ints hh fun h' tk e => q _ _ tk e (by
    by_cases h : y > x
    · rw [if_pos h]; have := k u; rwa [Int.max_eq_right (Int.le_of_lt h)] at this
    · rw [if_neg h]; have := k t; rwa [Int.max_eq_left (by omega)] at this)
theorem c_min2 {x y : Int} {t u : Tok} {P : Value → Heap → Prop} (hh : A.handled = none) (k : ∀ t, P (.int (min x y) t) b) : CT w G A (call (.builtin "min") [.int x t, .int y u]) b P :=
  CT.grow fun s Q E _ _ q => min_two_ints hh fun h' tk e => q _ _ tk e (by
    by_cases h : y < x
    · rw [if_pos h]; have := k u; rwa [Int.min_eq_right (Int.le_of_lt h)] at this
    · rw [if_neg h]; have := k t; rwa [Int.min_eq_left (by omega)] at this)
/-- some ints -/
def Ints (vs : List Value) : Prop := ∀ v ∈ vs, ∃ i t, v = .int i t
theorem Ints.items {vs : List Value} (h : Ints vs) : ∃ xs, vs.toArray = intItems xs := AllInts.items fun v hv => h v (by simpa using hv)
theorem c_sum {a : Addr} {vs : List Value} {P : Value → Heap → Prop} (hh : A.handled = none) (x : Ls b a vs) (hi : Ints vs) (k : ∀ i t, P (.int i t) b) : CT w G A (call (.builtin "sum") [.ref a]) b P := by
  obtain ⟨xs, hx⟩ := hi.items
  exact CT.grow fun s Q E e _ q => sum_intListG (xs := xs) hh (hx ▸ (x.ext e).is) fun h' tk t' e' => q _ h' tk e' (k _ _)
theorem c_max {a : Addr} {vs : List Value} {P : Value → Heap → Prop} (hh : A.handled = none) (x : Ls b a vs) (hi : Ints vs) (hn : vs ≠ []) (k : ∀ i t, P (.int i t) b) : CT w G A (call (.builtin "max") [.ref a]) b P := by
  obtain ⟨xs, hx⟩ := hi.items
  refine CT.grow fun s Q E e _ q => max_intList (xs := xs) hh (hx ▸ (x.ext e).is) ?_ fun v h' tk hv e' => ?_
  · have : (intItems xs).size = vs.length := by rw [← hx]; simp
    simp only [intItems, Array.size_map] at this
    have : 0 < vs.length := List.length_pos_iff.mpr hn
    omega
  · obtain ⟨t, rfl⟩ := intItems_at hv
    exact q _ h' tk e' (k _ _)
/-- list(range(n)) -/
theorem c_list_range {a : Addr} {P : Value → Heap → Prop} (hh : A.handled = none) (x : Rg b a n) (hn : n ≤ sizeLine) (k : ∀ c b₁ vs, Ext b b₁ → b.get? c = none → Ls b₁ c vs → Nums vs (List.range n) → P (.ref c) b₁) :
    CT w G A (call (.type "list") [.ref a]) b P := by
  obtain ⟨t, u, v, x⟩ := x
  have hs : n ≤ 2 ^ 24 := hn
  have hsz : Builtin.Range.rangeSize 0 n 1 = n := by rw [rangeSize_one]; split <;> omega
  refine CT.new fun s Q E e _ q => call_list_range hh (e _ _ x) (small_one (by omega) (by omega) (by omega) (by omega)) hsz hs fun h' tk acc c' k1 k2 hi => q _ h' tk k1 fun b₁ e₁ hnw => ?_
  have := hnw s.heap.objs.size _ (Heap.get?_none_of_le (Nat.le_refl _)) k2
  refine k _ b₁ acc.toList e₁ this.1 ⟨c', this.2⟩ ?_
  obtain ⟨h1, h2⟩ := hi
  clear this k2
  have : ∀ j : Nat, j ≤ n → Nums (acc.toList.take j) (List.range j) := by
    intro j
    induction j with
    | zero => intro _; exact .nil
    | succ j ih =>
      intro hj
      have hlt : j < acc.size := by omega
      obtain ⟨t, ht⟩ := h2 j acc[j] (by simp [hlt])
      have e1 : acc.toList.take (j + 1) = acc.toList.take j ++ [.int (Int.ofNat j) t] := by
        rw [List.take_add_one]
        congr 1
        simp only [Array.getElem?_toList, hlt, Array.getElem?_eq_getElem, Option.toList_some, List.cons.injEq, and_true]
        rw [ht]; simp
      rw [e1, List.range_succ]
      have e2 := ih (by omega)
      show IntsAre _ ((List.range j ++ [j]).map Int.ofNat)
      rw [List.map_append]
      exact IntsAre.append e2 (.cons _ _ .nil)
  have e3 : acc.toList = acc.toList.take n := by rw [List.take_of_length_le]; simp [h1]
  rw [e3]; exact this n (Nat.le_refl _)
/-- sorted([x, y]) -/
theorem c_sorted2 {a : Addr} {x y : Int} {t u : Tok} {P : Value → Heap → Prop} (xl : Ls b a [.int x t, .int y u]) (k : ∀ c b₁ t' u', Ext b b₁ → b.get? c = none → Ls b₁ c [.int (min x y) t', .int (max x y) u'] → P (.ref c) b₁) :
    CT w G A (call (.builtin "sorted") [.ref a]) b P := by
  refine CT.new fun s Q E e _ q => sorted_ints (ns := [x, y]) (xl.ext e).is (.cons _ _ (.cons _ _ .nil)) (by simp) fun out ns' hi hp ho => ?_
  obtain ⟨e1, h1⟩ := sortedAll_at s.heap [.int x t, .int y u] out
  refine q _ _ s.toks (fun c o => sortedAll_old) fun b₁ e₁ hnw => ?_
  have := hnw _ _ (Heap.get?_none_of_le (Nat.le_succ _)) h1
  have hl : ns'.length = 2 := by simpa using hp.length_eq
  match ns', hl, hi, hp, ho with
  | [p, r], _, hi, hp, ho =>
    have hpr : p ≤ r := by simpa using ho
    have hset : (p = x ∧ r = y) ∨ (p = y ∧ r = x) := by
      have h1 : p = x ∨ p = y := by simpa using hp.subset (List.mem_cons_self ..)
      have h2 : r = x ∨ r = y := by simpa using hp.subset (List.mem_cons_of_mem _ (List.mem_cons_self ..))
      have h3 : x = p ∨ x = r := by simpa using hp.symm.subset (List.mem_cons_self ..)
      have h4 : y = p ∨ y = r := by simpa using hp.symm.subset (List.mem_cons_of_mem _ (List.mem_cons_self ..))
      exact h1.elim (fun e1 => h2.elim (fun e2 => .inl ⟨e1, h4.elim (fun e => e2.trans (e1.symm.trans e.symm)) (fun e => e.symm)⟩) (fun e2 => .inl ⟨e1, e2⟩)) (fun e1 => h2.elim (fun e2 => .inr ⟨e1, e2⟩) (fun e2 => .inr ⟨e1, h3.elim (fun e => e2.trans (e1.symm.trans e.symm)) (fun e => e.symm)⟩))
    have hmm : min x y = p ∧ max x y = r := hset.elim (fun h => have hxy : x ≤ y := h.1 ▸ h.2 ▸ hpr; ⟨(Int.min_eq_left hxy).trans h.1.symm, (Int.max_eq_right hxy).trans h.2.symm⟩) (fun h => have hyx : y ≤ x := h.1 ▸ h.2 ▸ hpr; ⟨(Int.min_eq_right hyx).trans h.1.symm, (Int.max_eq_left hyx).trans h.2.symm⟩)
    have hout : ∃ t' u', out.toList = [.int p t', .int r u'] := by
      generalize out.toList = l at hi
      cases hi with
      | cons _ t1 h =>
        cases h with
        | cons _ t2 h => cases h; exact ⟨t1, t2, rfl⟩
    obtain ⟨t', u', hout⟩ := hout
    refine k _ b₁ t' u' e₁ this.1 ⟨e1, ?_⟩
    rw [hmm.1, hmm.2, ← hout]
    exact this.2
end

/-! data -/
mutual
def plainD : PyData → Bool
  | .none | .int _ | .str _ => true
  | .list xs | .tuple xs => plainAll xs
  | .bool _ | .dict _ => false
def plainAll : List PyData → Bool
  | [] => true
  | x :: xs => plainD x && plainAll xs
end
mutual
theorem eqv_iff : ∀ (d d' : PyData), plainD d = true → plainD d' = true → (PyData.eqv d d' = true ↔ d = d')
  | .none, d', _, h => by cases d' <;> simp_all [PyData.eqv, plainD]
  | .int i, d', _, h => by cases d' <;> simp_all [PyData.eqv, plainD]
  | .str i, d', _, h => by cases d' <;> simp_all [PyData.eqv, plainD]
  | .list xs, .list ys, h, h' => by
    have := eqvAll_iff xs ys (by simpa [plainD] using h) (by simpa [plainD] using h')
    simp only [PyData.eqv, this, PyData.list.injEq]
  | .tuple xs, .tuple ys, h, h' => by
    have := eqvAll_iff xs ys (by simpa [plainD] using h) (by simpa [plainD] using h')
    simp only [PyData.eqv, this, PyData.tuple.injEq]
  | .list xs, .none, _, _ | .list xs, .int _, _, _ | .list xs, .str _, _, _ | .list xs, .tuple _, _, _ => by simp [PyData.eqv]
  | .tuple xs, .none, _, _ | .tuple xs, .int _, _, _ | .tuple xs, .str _, _, _ | .tuple xs, .list _, _, _ => by simp [PyData.eqv]
  | .list _, .bool _, _, h | .list _, .dict _, _, h | .tuple _, .bool _, _, h | .tuple _, .dict _, _, h => by simp [plainD] at h
  | .bool _, _, h, _ | .dict _, _, h, _ => by simp [plainD] at h
theorem eqvAll_iff : ∀ (xs ys : List PyData), plainAll xs = true → plainAll ys = true → (PyData.eqvAll xs ys = true ↔ xs = ys)
  | [], [], _, _ => by simp [PyData.eqvAll]
  | [], _ :: _, _, _ => by simp [PyData.eqvAll]
  | _ :: _, [], _, _ => by simp [PyData.eqvAll]
  | x :: xs, y :: ys, h, h' => by
    simp only [plainAll, Bool.and_eq_true] at h h'
    have h1 := eqv_iff x y h.1 h'.1
    have h2 := eqvAll_iff xs ys h.2 h'.2
    simp only [PyData.eqvAll, Bool.and_eq_true, h1, h2, List.cons.injEq]
end

/-- v holds the datum d -/
def RD (b : Heap) (v : Value) (d : PyData) : Prop := ∃ as, Reads b v d as
def RDs (b : Heap) (vs : List Value) (ds : List PyData) : Prop := ∃ as, ReadsAll b vs ds as
theorem RD.ext {b b₁ : Heap} {v : Value} {d : PyData} (x : RD b v d) (e : Ext b b₁) : RD b₁ v d := let ⟨as, h⟩ := x; ⟨as, Reads.keeps e h⟩
theorem RD.none {b : Heap} : RD b .none .none := ⟨_, .none⟩
theorem RD.bool {b : Heap} (x : Bool) : RD b (.bool x) (.bool x) := ⟨_, .bool x⟩
theorem RD.int {b : Heap} (i : Int) (t : Tok) : RD b (.int i t) (.int i) := ⟨_, .int i t⟩
theorem RD.str {b : Heap} (x : Str) (t : Tok) : RD b (.str x t) (.str x) := ⟨_, .str x t⟩
theorem RDs.nil {b : Heap} : RDs b [] [] := ⟨_, .nil⟩
theorem RDs.cons {b : Heap} {v : Value} {vs : List Value} {d : PyData} {ds : List PyData} (x : RD b v d) (y : RDs b vs ds) : RDs b (v :: vs) (d :: ds) := let ⟨_, x⟩ := x; let ⟨_, y⟩ := y; ⟨_, .cons x y⟩
theorem RD.list {b : Heap} {a : Addr} {vs : List Value} {ds : List PyData} (x : Ls b a vs) (y : RDs b vs ds) : RD b (.ref a) (.list ds) := let ⟨n, x⟩ := x; let ⟨_, y⟩ := y; ⟨_, .list x rfl rfl (by simpa using y)⟩
theorem RD.tuple {b : Heap} {a : Addr} {vs : List Value} {ds : List PyData} (x : Tp b a vs) (y : RDs b vs ds) : RD b (.ref a) (.tuple ds) := let ⟨n, x⟩ := x; let ⟨_, y⟩ := y; ⟨_, .tuple x rfl rfl (by simpa using y)⟩
theorem RDs.nums {b : Heap} {vs : List Value} {ns : List Nat} (h : Nums vs ns) : RDs b vs (ns.map fun n => .int (Int.ofNat n)) := by
  induction ns generalizing vs with
  | nil => cases h; exact .nil
  | cons n ns ih => cases h with | cons h1 => exact .cons (.int ..) (ih (by assumption))
def rowD (q : Str × List Nat) : List PyData := .str q.1 :: q.2.map fun n => .int (Int.ofNat n)
theorem Row.rd {b : Heap} {a : Addr} {q : Str × List Nat} (x : Row b a q) : RD b (.ref a) (.tuple (rowD q)) := let ⟨t, vs, h, r⟩ := x; .tuple h (.cons (.str ..) (.nums r))
theorem plain_nums (ns : List Nat) : plainAll (ns.map fun n => .int (Int.ofNat n)) = true := by induction ns with | nil => rfl | cons n ns ih => rw [List.map_cons, plainAll, plainD, ih]; rfl
theorem plain_row (q : Str × List Nat) : plainAll (rowD q) = true := by rw [rowD, plainAll, plainD, plain_nums]; rfl
theorem rowD_inj {p q : Str × List Nat} (h : rowD p = rowD q) : p = q := by
  obtain ⟨a, l⟩ := p
  obtain ⟨c, r⟩ := q
  simp only [rowD, List.cons.injEq, PyData.str.injEq] at h
  obtain ⟨rfl, h⟩ := h
  have : l = r := by
    induction l generalizing r with
    | nil => cases r with | nil => rfl | cons _ _ => cases h
    | cons x l ih => cases r with
      | nil => cases h
      | cons y r => simp only [List.map_cons, List.cons.injEq, PyData.int.injEq] at h; rw [Int.ofNat.inj h.1, ih _ h.2]
  rw [this]

/-- the datum can be laid, and lies within three levels -/
def okD (d : PyData) : Bool := d.canLay0 && decide (d.depth ≤ 4)
section
variable {w : World} {G b : Heap} {A : Around} {f : Fram} {m : Locs} {env : Env} {α : Type} {n : Nat}
theorem c_eq_data {u v : Value} {d d' : PyData} {P : Value → Heap → Prop} (hA : AOk (n + 1) A) (x : RD b u d) (y : RD b v d') (hx : okD d = true) (hy : okD d' = true) (k : P (.bool (PyData.eqv d d')) b) : CT w G A (compareOp .Eq u v) b P := by
  obtain ⟨as, x⟩ := x
  obtain ⟨bs, y⟩ := y
  simp only [okD, Bool.and_eq_true, decide_eq_true_eq] at hx hy
  exact CT.still fun s Q E e _ q => SeqAt.compareEq_reads (Reads.keeps e x) (Reads.keeps e y) hx.1 hy.1 (hA.ui (Nat.le_trans (Nat.min_le_left ..) (Nat.le_trans hx.2 (by decide)))) (q _ s.toks k)
theorem c_ne_data {u v : Value} {d d' : PyData} {P : Value → Heap → Prop} (hA : AOk (n + 1) A) (x : RD b u d) (y : RD b v d') (hx : okD d = true) (hy : okD d' = true) (k : P (.bool (!PyData.eqv d d')) b) : CT w G A (compareOp .NotEq u v) b P := by
  obtain ⟨as, x⟩ := x
  obtain ⟨bs, y⟩ := y
  simp only [okD, Bool.and_eq_true, decide_eq_true_eq] at hx hy
  exact CT.still fun s Q E e _ q => SeqAt.compareNe_reads (Reads.keeps e x) (Reads.keeps e y) hx.1 hy.1 (hA.ui (Nat.le_trans (Nat.min_le_left ..) (Nat.le_trans hx.2 (by decide)))) (q _ s.toks k)
theorem c_in_data {u c : Value} {xs : List PyData} {d : PyData} {P : Value → Heap → Prop} (hA : AOk (n + 1) A) (x : RD b c (.list xs)) (y : RD b u d) (hx : okD (.list xs) = true) (hy : okD d = true) (k : P (.bool (xs.any fun y => PyData.eqv y d)) b) : CT w G A (compareOp .In u c) b P := by
  obtain ⟨as, x⟩ := x
  obtain ⟨bs, y⟩ := y
  simp only [okD, Bool.and_eq_true, decide_eq_true_eq, PyData.canLay0] at hx hy
  exact CT.still fun s Q E e _ q => SeqAt.in_list_reads (Reads.keeps e x) (Reads.keeps e y) hx.1 hy.1 (by have := hA.ui (k := 1 + 4) (by decide); have := Nat.min_le_right (PyData.depthAll xs) d.depth; omega) (q _ s.toks k)
theorem c_notin_data {u c : Value} {xs : List PyData} {d : PyData} {P : Value → Heap → Prop} (hA : AOk (n + 1) A) (x : RD b c (.list xs)) (y : RD b u d) (hx : okD (.list xs) = true) (hy : okD d = true) (k : P (.bool (!xs.any fun y => PyData.eqv y d)) b) : CT w G A (compareOp .NotIn u c) b P := by
  obtain ⟨as, x⟩ := x
  obtain ⟨bs, y⟩ := y
  simp only [okD, Bool.and_eq_true, decide_eq_true_eq, PyData.canLay0] at hx hy
  exact CT.still fun s Q E e _ q => SeqAt.notIn_list_reads (Reads.keeps e x) (Reads.keeps e y) hx.1 hy.1 (by have := hA.ui (k := 1 + 4) (by decide); have := Nat.min_le_right (PyData.depthAll xs) d.depth; omega) (q _ s.toks k)

/-! text -/
theorem c_eq_str {x y : Str} {t u : Tok} {P : Value → Heap → Prop} (k : P (.bool (x.cps.toList == y.cps.toList)) b) : CT w G A (compareOp .Eq (.str x t) (.str y u)) b P := CT.still fun s Q E _ _ q => PySem.P.eq_str (q _ s.toks k)
theorem c_ne_str {x y : Str} {t u : Tok} {P : Value → Heap → Prop} (k : P (.bool (x.cps.toList != y.cps.toList)) b) : CT w G A (compareOp .NotEq (.str x t) (.str y u)) b P := CT.still fun s Q E _ _ q => PySem.P.ne_str (q _ s.toks k)
theorem c_in_str {x y : Str} {t u : Tok} {P : Value → Heap → Prop} (k : P (.bool !(Builtin.Str.occurrences x y 0 x.length 1).isEmpty) b) : CT w G A (compareOp .In (.str y u) (.str x t)) b P := CT.still fun s Q E _ _ q => PySem.P.in_str (q _ s.toks k)
theorem c_getItem_str {x : Str} {t u : Tok} {i : Int} {c : Nat} {P : Value → Heap → Prop} (hr : (decide (i < -(2 ^ 63 : Int)) || decide (i ≥ 2 ^ 63)) = false) (hc : (seqIndex? i x.length).bind (x.cps[·]?) = some c)
    (k : ∀ t, P (.str ⟨#[c]⟩ t) b) : CT w G A (getItem (.str x t) (.int i u)) b P := CT.still fun s Q E _ _ q => PySem.P.getItem_str hr hc (q _ _ (k _))
theorem c_str_int {i : Int} {t : Tok} {P : Value → Heap → Prop} (hi : i.natAbs.log2 < 1920) (k : ∀ t, P (.str (toString i) t) b) : CT w G A (call (.type "str") [.int i t]) b P := CT.still fun s Q E _ _ q => PySem.P.str_of_int hi (q _ _ (k _))
end
end Mine
end
section
open PySem PySem.W PyProof.Rows PySem.Calls PySem.Spec
set_option maxRecDepth 100000
set_option linter.unusedVariables false
namespace Mine
noncomputable abbrev KK (w : World) : Frag := hx.heap_39 w.params
def topS (i : Nat) : Stmt := (PG.main.body[i]?).getD (.Pass default)
def inS (i j : Nat) : Stmt := match topS i with | .ClassDef _ _ _ b _ _ _ _ _ _ _ => (b[j]?).getD (.Pass default) | _ => .Pass default
def bodyS : Stmt → List Stmt | .FunctionDef _ _ b _ _ _ _ _ _ _ => b | _ => []
def parS : Stmt → Arguments | .FunctionDef _ a _ _ _ _ _ _ _ _ => a | _ => default
def scS : Stmt → Scope | .FunctionDef _ _ _ _ _ _ s _ _ _ => s | _ => default
def nmS : Stmt → Str | .FunctionDef n _ _ _ _ _ _ _ _ _ => n | _ => ""
abbrev cBank : Addr := 181
abbrev cPlacer : Addr := 219
abbrev cUnions : Addr := 301
abbrev cHeap : Addr := 433
section
variable (w : World)
theorem fn_is_op : FnIn (KK w) 67 (nmS (topS 5)) "is_op" (parS (topS 5)) (bodyS (topS 5)) (scS (topS 5)) where
  ex := ⟨_, _, _, _, _, _, _, _, rfl, rfl⟩
  co := rfl
  gen := rfl
  kind := rfl
theorem fn_is_variable : FnIn (KK w) 74 (nmS (topS 6)) "is_variable" (parS (topS 6)) (bodyS (topS 6)) (scS (topS 6)) where
  ex := ⟨_, _, _, _, _, _, _, _, rfl, rfl⟩
  co := rfl
  gen := rfl
  kind := rfl
theorem fn_bank_init : FnIn (KK w) 93 (nmS (inS 8 0)) "Bank.__init__" (parS (inS 8 0)) (bodyS (inS 8 0)) (scS (inS 8 0)) where
  ex := ⟨_, _, _, _, _, _, _, _, rfl, rfl⟩
  co := rfl
  gen := rfl
  kind := rfl
theorem fn_bank_size : FnIn (KK w) 100 (nmS (inS 8 1)) "Bank.size" (parS (inS 8 1)) (bodyS (inS 8 1)) (scS (inS 8 1)) where
  ex := ⟨_, _, _, _, _, _, _, _, rfl, rfl⟩
  co := rfl
  gen := rfl
  kind := rfl
theorem fn_bank_take : FnIn (KK w) 105 (nmS (inS 8 2)) "Bank.take" (parS (inS 8 2)) (bodyS (inS 8 2)) (scS (inS 8 2)) where
  ex := ⟨_, _, _, _, _, _, _, _, rfl, rfl⟩
  co := rfl
  gen := rfl
  kind := rfl
theorem fn_bank_require : FnIn (KK w) 112 (nmS (inS 8 3)) "Bank.require" (parS (inS 8 3)) (bodyS (inS 8 3)) (scS (inS 8 3)) where
  ex := ⟨_, _, _, _, _, _, _, _, rfl, rfl⟩
  co := rfl
  gen := rfl
  kind := rfl
theorem fn_bank_op : FnIn (KK w) 138 (nmS (inS 8 7)) "Bank.op" (parS (inS 8 7)) (bodyS (inS 8 7)) (scS (inS 8 7)) where
  ex := ⟨_, _, _, _, _, _, _, _, rfl, rfl⟩
  co := rfl
  gen := rfl
  kind := rfl
theorem fn_bank_kids : FnIn (KK w) 145 (nmS (inS 8 8)) "Bank.kids" (parS (inS 8 8)) (bodyS (inS 8 8)) (scS (inS 8 8)) where
  ex := ⟨_, _, _, _, _, _, _, _, rfl, rfl⟩
  co := rfl
  gen := rfl
  kind := rfl
theorem fn_placer_init : FnIn (KK w) 199 (nmS (inS 10 0)) "Placer.__init__" (parS (inS 10 0)) (bodyS (inS 10 0)) (scS (inS 10 0)) where
  ex := ⟨_, _, _, _, _, _, _, _, rfl, rfl⟩
  co := rfl
  gen := rfl
  kind := rfl
theorem fn_placer_put : FnIn (KK w) 204 (nmS (inS 10 1)) "Placer.put" (parS (inS 10 1)) (bodyS (inS 10 1)) (scS (inS 10 1)) where
  ex := ⟨_, _, _, _, _, _, _, _, rfl, rfl⟩
  co := rfl
  gen := rfl
  kind := rfl
theorem fn_placer_class_of : FnIn (KK w) 209 (nmS (inS 10 2)) "Placer.class_of" (parS (inS 10 2)) (bodyS (inS 10 2)) (scS (inS 10 2)) where
  ex := ⟨_, _, _, _, _, _, _, _, rfl, rfl⟩
  co := rfl
  gen := rfl
  kind := rfl
theorem fn_placer_holds : FnIn (KK w) 216 (nmS (inS 10 3)) "Placer.holds" (parS (inS 10 3)) (bodyS (inS 10 3)) (scS (inS 10 3)) where
  ex := ⟨_, _, _, _, _, _, _, _, rfl, rfl⟩
  co := rfl
  gen := rfl
  kind := rfl
theorem fn_un_init : FnIn (KK w) 237 (nmS (inS 12 0)) "Unions.__init__" (parS (inS 12 0)) (bodyS (inS 12 0)) (scS (inS 12 0)) where
  ex := ⟨_, _, _, _, _, _, _, _, rfl, rfl⟩
  co := rfl
  gen := rfl
  kind := rfl
theorem fn_un_make : FnIn (KK w) 244 (nmS (inS 12 1)) "Unions.make" (parS (inS 12 1)) (bodyS (inS 12 1)) (scS (inS 12 1)) where
  ex := ⟨_, _, _, _, _, _, _, _, rfl, rfl⟩
  co := rfl
  gen := rfl
  kind := rfl
theorem fn_un_size : FnIn (KK w) 251 (nmS (inS 12 2)) "Unions.size" (parS (inS 12 2)) (bodyS (inS 12 2)) (scS (inS 12 2)) where
  ex := ⟨_, _, _, _, _, _, _, _, rfl, rfl⟩
  co := rfl
  gen := rfl
  kind := rfl
theorem fn_un_find : FnIn (KK w) 258 (nmS (inS 12 3)) "Unions.find" (parS (inS 12 3)) (bodyS (inS 12 3)) (scS (inS 12 3)) where
  ex := ⟨_, _, _, _, _, _, _, _, rfl, rfl⟩
  co := rfl
  gen := rfl
  kind := rfl
theorem fn_un_merge : FnIn (KK w) 265 (nmS (inS 12 4)) "Unions.merge" (parS (inS 12 4)) (bodyS (inS 12 4)) (scS (inS 12 4)) where
  ex := ⟨_, _, _, _, _, _, _, _, rfl, rfl⟩
  co := rfl
  gen := rfl
  kind := rfl
theorem fn_heap_init : FnIn (KK w) 319 (nmS (inS 14 0)) "Heap.__init__" (parS (inS 14 0)) (bodyS (inS 14 0)) (scS (inS 14 0)) where
  ex := ⟨_, _, _, _, _, _, _, _, rfl, rfl⟩
  co := rfl
  gen := rfl
  kind := rfl
theorem fn_heap_size : FnIn (KK w) 326 (nmS (inS 14 1)) "Heap.size" (parS (inS 14 1)) (bodyS (inS 14 1)) (scS (inS 14 1)) where
  ex := ⟨_, _, _, _, _, _, _, _, rfl, rfl⟩
  co := rfl
  gen := rfl
  kind := rfl
theorem fn_heap_node : FnIn (KK w) 331 (nmS (inS 14 2)) "Heap.node" (parS (inS 14 2)) (bodyS (inS 14 2)) (scS (inS 14 2)) where
  ex := ⟨_, _, _, _, _, _, _, _, rfl, rfl⟩
  co := rfl
  gen := rfl
  kind := rfl
theorem fn_heap_add : FnIn (KK w) 336 (nmS (inS 14 3)) "Heap.add" (parS (inS 14 3)) (bodyS (inS 14 3)) (scS (inS 14 3)) where
  ex := ⟨_, _, _, _, _, _, _, _, rfl, rfl⟩
  co := rfl
  gen := rfl
  kind := rfl
theorem fn_heap_look_at : FnIn (KK w) 348 (nmS (inS 14 5)) "Heap.look_at" (parS (inS 14 5)) (bodyS (inS 14 5)) (scS (inS 14 5)) where
  ex := ⟨_, _, _, _, _, _, _, _, rfl, rfl⟩
  co := rfl
  gen := rfl
  kind := rfl
theorem fn_heap_find : FnIn (KK w) 355 (nmS (inS 14 6)) "Heap.find" (parS (inS 14 6)) (bodyS (inS 14 6)) (scS (inS 14 6)) where
  ex := ⟨_, _, _, _, _, _, _, _, rfl, rfl⟩
  co := rfl
  gen := rfl
  kind := rfl
theorem fn_heap_merge : FnIn (KK w) 369 (nmS (inS 14 8)) "Heap.merge" (parS (inS 14 8)) (bodyS (inS 14 8)) (scS (inS 14 8)) where
  ex := ⟨_, _, _, _, _, _, _, _, rfl, rfl⟩
  co := rfl
  gen := rfl
  kind := rfl
theorem fn_heap_join : FnIn (KK w) 376 (nmS (inS 14 9)) "Heap.join" (parS (inS 14 9)) (bodyS (inS 14 9)) (scS (inS 14 9)) where
  ex := ⟨_, _, _, _, _, _, _, _, rfl, rfl⟩
  co := rfl
  gen := rfl
  kind := rfl
theorem fn_heap_settle : FnIn (KK w) 383 (nmS (inS 14 10)) "Heap.settle" (parS (inS 14 10)) (bodyS (inS 14 10)) (scS (inS 14 10)) where
  ex := ⟨_, _, _, _, _, _, _, _, rfl, rfl⟩
  co := rfl
  gen := rfl
  kind := rfl
theorem fn_heap_seek : FnIn (KK w) 423 (nmS (inS 14 16)) "Heap.seek" (parS (inS 14 16)) (bodyS (inS 14 16)) (scS (inS 14 16)) where
  ex := ⟨_, _, _, _, _, _, _, _, rfl, rfl⟩
  co := rfl
  gen := rfl
  kind := rfl
theorem fn_counted : FnIn (KK w) 444 (nmS (topS 16)) "_law_counted" (parS (topS 16)) (bodyS (topS 16)) (scS (topS 16)) where
  ex := ⟨_, _, _, _, _, _, _, _, rfl, rfl⟩
  co := rfl
  gen := rfl
  kind := rfl
theorem fn_pattern : FnIn (KK w) 451 (nmS (topS 17)) "_law_pattern" (parS (topS 17)) (bodyS (topS 17)) (scS (topS 17)) where
  ex := ⟨_, _, _, _, _, _, _, _, rfl, rfl⟩
  co := rfl
  gen := rfl
  kind := rfl
theorem fn_places : FnIn (KK w) 456 (nmS (topS 18)) "_law_places" (parS (topS 18)) (bodyS (topS 18)) (scS (topS 18)) where
  ex := ⟨_, _, _, _, _, _, _, _, rfl, rfl⟩
  co := rfl
  gen := rfl
  kind := rfl
theorem fn_place : FnIn (KK w) 461 (nmS (topS 19)) "_law_place" (parS (topS 19)) (bodyS (topS 19)) (scS (topS 19)) where
  ex := ⟨_, _, _, _, _, _, _, _, rfl, rfl⟩
  co := rfl
  gen := rfl
  kind := rfl
theorem m_bank_size : ClsMeth (KK w) 181 "size" 100 := ⟨by kernel_rfl, by kernel_rfl, by kernel_rfl, by kernel_rfl⟩
theorem m_bank_take : ClsMeth (KK w) 181 "take" 105 := ⟨by kernel_rfl, by kernel_rfl, by kernel_rfl, by kernel_rfl⟩
theorem m_bank_require : ClsMeth (KK w) 181 "require" 112 := ⟨by kernel_rfl, by kernel_rfl, by kernel_rfl, by kernel_rfl⟩
theorem m_bank_op : ClsMeth (KK w) 181 "op" 138 := ⟨by kernel_rfl, by kernel_rfl, by kernel_rfl, by kernel_rfl⟩
theorem m_bank_kids : ClsMeth (KK w) 181 "kids" 145 := ⟨by kernel_rfl, by kernel_rfl, by kernel_rfl, by kernel_rfl⟩
theorem m_placer_put : ClsMeth (KK w) 219 "put" 204 := ⟨by kernel_rfl, by kernel_rfl, by kernel_rfl, by kernel_rfl⟩
theorem m_placer_class_of : ClsMeth (KK w) 219 "class_of" 209 := ⟨by kernel_rfl, by kernel_rfl, by kernel_rfl, by kernel_rfl⟩
theorem m_placer_holds : ClsMeth (KK w) 219 "holds" 216 := ⟨by kernel_rfl, by kernel_rfl, by kernel_rfl, by kernel_rfl⟩
theorem m_un_make : ClsMeth (KK w) 301 "make" 244 := ⟨by kernel_rfl, by kernel_rfl, by kernel_rfl, by kernel_rfl⟩
theorem m_un_size : ClsMeth (KK w) 301 "size" 251 := ⟨by kernel_rfl, by kernel_rfl, by kernel_rfl, by kernel_rfl⟩
theorem m_un_find : ClsMeth (KK w) 301 "find" 258 := ⟨by kernel_rfl, by kernel_rfl, by kernel_rfl, by kernel_rfl⟩
theorem m_un_merge : ClsMeth (KK w) 301 "merge" 265 := ⟨by kernel_rfl, by kernel_rfl, by kernel_rfl, by kernel_rfl⟩
theorem m_heap_size : ClsMeth (KK w) 433 "size" 326 := ⟨by kernel_rfl, by kernel_rfl, by kernel_rfl, by kernel_rfl⟩
theorem m_heap_node : ClsMeth (KK w) 433 "node" 331 := ⟨by kernel_rfl, by kernel_rfl, by kernel_rfl, by kernel_rfl⟩
theorem m_heap_add : ClsMeth (KK w) 433 "add" 336 := ⟨by kernel_rfl, by kernel_rfl, by kernel_rfl, by kernel_rfl⟩
theorem m_heap_look_at : ClsMeth (KK w) 433 "look_at" 348 := ⟨by kernel_rfl, by kernel_rfl, by kernel_rfl, by kernel_rfl⟩
theorem m_heap_find : ClsMeth (KK w) 433 "find" 355 := ⟨by kernel_rfl, by kernel_rfl, by kernel_rfl, by kernel_rfl⟩
theorem m_heap_merge : ClsMeth (KK w) 433 "merge" 369 := ⟨by kernel_rfl, by kernel_rfl, by kernel_rfl, by kernel_rfl⟩
theorem m_heap_join : ClsMeth (KK w) 433 "join" 376 := ⟨by kernel_rfl, by kernel_rfl, by kernel_rfl, by kernel_rfl⟩
theorem m_heap_settle : ClsMeth (KK w) 433 "settle" 383 := ⟨by kernel_rfl, by kernel_rfl, by kernel_rfl, by kernel_rfl⟩
theorem m_heap_seek : ClsMeth (KK w) 433 "seek" 423 := ⟨by kernel_rfl, by kernel_rfl, by kernel_rfl, by kernel_rfl⟩
theorem f_bank_nodes : ClsFld (KK w) 181 "nodes" := ⟨by kernel_rfl, by kernel_rfl, by kernel_rfl, by kernel_rfl, by kernel_rfl⟩
theorem f_bank_numbers : ClsFld (KK w) 181 "numbers" := ⟨by kernel_rfl, by kernel_rfl, by kernel_rfl, by kernel_rfl, by kernel_rfl⟩
theorem f_bank_weights : ClsFld (KK w) 181 "weights" := ⟨by kernel_rfl, by kernel_rfl, by kernel_rfl, by kernel_rfl, by kernel_rfl⟩
theorem f_bank_depths : ClsFld (KK w) 181 "depths" := ⟨by kernel_rfl, by kernel_rfl, by kernel_rfl, by kernel_rfl, by kernel_rfl⟩
theorem f_placer_heap : ClsFld (KK w) 219 "heap" := ⟨by kernel_rfl, by kernel_rfl, by kernel_rfl, by kernel_rfl, by kernel_rfl⟩
theorem f_un_above : ClsFld (KK w) 301 "above" := ⟨by kernel_rfl, by kernel_rfl, by kernel_rfl, by kernel_rfl, by kernel_rfl⟩
theorem f_un_lots : ClsFld (KK w) 301 "lots" := ⟨by kernel_rfl, by kernel_rfl, by kernel_rfl, by kernel_rfl, by kernel_rfl⟩
theorem f_un_merged : ClsFld (KK w) 301 "merged" := ⟨by kernel_rfl, by kernel_rfl, by kernel_rfl, by kernel_rfl, by kernel_rfl⟩
theorem f_heap_bank : ClsFld (KK w) 433 "bank" := ⟨by kernel_rfl, by kernel_rfl, by kernel_rfl, by kernel_rfl, by kernel_rfl⟩
theorem f_heap_unions : ClsFld (KK w) 433 "unions" := ⟨by kernel_rfl, by kernel_rfl, by kernel_rfl, by kernel_rfl, by kernel_rfl⟩
theorem f_heap_edges : ClsFld (KK w) 433 "edges" := ⟨by kernel_rfl, by kernel_rfl, by kernel_rfl, by kernel_rfl, by kernel_rfl⟩
theorem f_heap_forest : ClsFld (KK w) 433 "forest" := ⟨by kernel_rfl, by kernel_rfl, by kernel_rfl, by kernel_rfl, by kernel_rfl⟩
theorem f_heap_known : ClsFld (KK w) 433 "known" := ⟨by kernel_rfl, by kernel_rfl, by kernel_rfl, by kernel_rfl, by kernel_rfl⟩
theorem f_heap_above : ClsFld (KK w) 433 "above" := ⟨by kernel_rfl, by kernel_rfl, by kernel_rfl, by kernel_rfl, by kernel_rfl⟩
theorem f_heap_waiting : ClsFld (KK w) 433 "waiting" := ⟨by kernel_rfl, by kernel_rfl, by kernel_rfl, by kernel_rfl, by kernel_rfl⟩
theorem f_heap_backs : ClsFld (KK w) 433 "backs" := ⟨by kernel_rfl, by kernel_rfl, by kernel_rfl, by kernel_rfl, by kernel_rfl⟩
theorem mk_bank : makesIn (KK w) 181 = true ∧ findIn (KK w) (.ref 181) "__init__" = some (some (.ref 93)) ∧ isFn (KK w) (.ref 93) = true ∧ keepIn (KK w) (.ref 181) = true := ⟨by kernel_rfl, by kernel_rfl, by kernel_rfl, by kernel_rfl⟩
theorem mk_placer : makesIn (KK w) 219 = true ∧ findIn (KK w) (.ref 219) "__init__" = some (some (.ref 199)) ∧ isFn (KK w) (.ref 199) = true ∧ keepIn (KK w) (.ref 219) = true := ⟨by kernel_rfl, by kernel_rfl, by kernel_rfl, by kernel_rfl⟩
theorem mk_un : makesIn (KK w) 301 = true ∧ findIn (KK w) (.ref 301) "__init__" = some (some (.ref 237)) ∧ isFn (KK w) (.ref 237) = true ∧ keepIn (KK w) (.ref 301) = true := ⟨by kernel_rfl, by kernel_rfl, by kernel_rfl, by kernel_rfl⟩
theorem mk_heap : makesIn (KK w) 433 = true ∧ findIn (KK w) (.ref 433) "__init__" = some (some (.ref 319)) ∧ isFn (KK w) (.ref 319) = true ∧ keepIn (KK w) (.ref 433) = true := ⟨by kernel_rfl, by kernel_rfl, by kernel_rfl, by kernel_rfl⟩
theorem g_is_op : nsIn (KK w) mainGlobals "is_op" = some (some (.ref 67)) := rfl
theorem g_is_variable : nsIn (KK w) mainGlobals "is_variable" = some (some (.ref 74)) := rfl
theorem g_Bank : nsIn (KK w) mainGlobals "Bank" = some (some (.ref 181)) := rfl
theorem g_Placer : nsIn (KK w) mainGlobals "Placer" = some (some (.ref 219)) := rfl
theorem g_Unions : nsIn (KK w) mainGlobals "Unions" = some (some (.ref 301)) := rfl
theorem g_Heap : nsIn (KK w) mainGlobals "Heap" = some (some (.ref 433)) := rfl
theorem g_law_counted : nsIn (KK w) mainGlobals "_law_counted" = some (some (.ref 444)) := rfl
theorem g_law_pattern : nsIn (KK w) mainGlobals "_law_pattern" = some (some (.ref 451)) := rfl
theorem g_law_places : nsIn (KK w) mainGlobals "_law_places" = some (some (.ref 456)) := rfl
theorem g_law_place : nsIn (KK w) mainGlobals "_law_place" = some (some (.ref 461)) := rfl
theorem k_is_op : keepIn (KK w) (.ref 67) = true := rfl
theorem k_is_variable : keepIn (KK w) (.ref 74) = true := rfl
theorem k_law_counted : keepIn (KK w) (.ref 444) = true := rfl
theorem k_law_pattern : keepIn (KK w) (.ref 451) = true := rfl
theorem k_law_places : keepIn (KK w) (.ref 456) = true := rfl
theorem k_law_place : keepIn (KK w) (.ref 461) = true := rfl
theorem b_list : nsIn (KK w) mainGlobals "list" = some none ∧ bootBuiltins "list" = some (.type "list") := ⟨rfl, by boot_by_name⟩
theorem b_range : nsIn (KK w) mainGlobals "range" = some none ∧ bootBuiltins "range" = some (.type "range") := ⟨rfl, by boot_by_name⟩
theorem b_tuple : nsIn (KK w) mainGlobals "tuple" = some none ∧ bootBuiltins "tuple" = some (.type "tuple") := ⟨rfl, by boot_by_name⟩
theorem b_len : nsIn (KK w) mainGlobals "len" = some none ∧ bootBuiltins "len" = some (.builtin "len") := ⟨rfl, by boot_by_name⟩
theorem b_str : nsIn (KK w) mainGlobals "str" = some none ∧ bootBuiltins "str" = some (.type "str") := ⟨rfl, by boot_by_name⟩
theorem b_sorted : nsIn (KK w) mainGlobals "sorted" = some none ∧ bootBuiltins "sorted" = some (.builtin "sorted") := ⟨rfl, by boot_by_name⟩
theorem b_set : nsIn (KK w) mainGlobals "set" = some none ∧ bootBuiltins "set" = some (.type "set") := ⟨rfl, by boot_by_name⟩
theorem b_sum : nsIn (KK w) mainGlobals "sum" = some none ∧ bootBuiltins "sum" = some (.builtin "sum") := ⟨rfl, by boot_by_name⟩
theorem b_max : nsIn (KK w) mainGlobals "max" = some none ∧ bootBuiltins "max" = some (.builtin "max") := ⟨rfl, by boot_by_name⟩
theorem b_min : nsIn (KK w) mainGlobals "min" = some none ∧ bootBuiltins "min" = some (.builtin "min") := ⟨rfl, by boot_by_name⟩
theorem b_enumerate : nsIn (KK w) mainGlobals "enumerate" = some none ∧ bootBuiltins "enumerate" = some (.type "enumerate") := ⟨rfl, by boot_by_name⟩
end
end Mine
end
section
open PySem PySem.W PyProof.Rows PySem.Calls PySem.Spec Builtin
set_option maxRecDepth 100000
set_option linter.unusedVariables false
namespace Mine

theorem Ext.none {b b₁ : Heap} (e : Ext b b₁) {c : Addr} (h : b₁.get? c = none) : b.get? c = none := by
  cases q : b.get? c with
  | none => rfl
  | some y => rw [e _ _ q] at h; cases h
theorem nr_none : ∀ a : Addr, Value.none ≠ .ref a := fun _ h => by cases h
theorem nr_int {i : Int} {t : Tok} : ∀ a : Addr, Value.int i t ≠ .ref a := fun _ h => by cases h
theorem nr_bool {x : Bool} : ∀ a : Addr, Value.bool x ≠ .ref a := fun _ h => by cases h
/-! who owns what -/
inductive Role | ln | dn | lw | ld | ua | ul | um | he | hf | hk | ha | hw | lot (i : Nat) | abv (r : Nat) | deal | rows | told | part
deriving DecidableEq
/-- whose a role is: 0 the unions', 1 the bank's, 2 the heap's, 3 the law's -/
def Role.d : Role → Nat
  | .ua | .ul | .um | .lot _ => 0
  | .ln | .dn | .lw | .ld => 1
  | .he | .hf | .hk | .ha | .hw | .abv _ => 2
  | .deal | .rows | .told | .part => 3
abbrev Own := Addr → Option Role
/-- from b to b₁ only objects in a role of T turned, and new ones came -/
structure Mv (T : Role → Prop) (b : Heap) (o : Own) (b₁ : Heap) (o₁ : Own) : Prop where
  old : ∀ d x, b.get? d = some x → o₁ d = o d ∧ (∃ x₁, b₁.get? d = some x₁) ∧ ((∀ r, o d = some r → ¬ T r) → b₁.get? d = some x)
  new : ∀ d r, o₁ d = some r → o d = some r ∨ (b.get? d = none ∧ ∃ x, b₁.get? d = some x)
structure Ok (G b : Heap) (o : Own) : Prop where
  base : Ext G b
  free : ∀ d r, o d = some r → G.get? d = none
  live : ∀ d r, o d = some r → ∃ x, b.get? d = some x
section
variable {T T' : Role → Prop} {G b b₁ b₂ : Heap} {o o₁ o₂ : Own}
theorem Mv.refl : Mv T b o b o := ⟨fun d x e => ⟨rfl, ⟨x, e⟩, fun _ => e⟩, fun _ _ e => .inl e⟩
theorem Mv.ext (e : Ext b b₁) : Mv T b o b₁ o := ⟨fun d x h => ⟨rfl, ⟨x, e _ _ h⟩, fun _ => e _ _ h⟩, fun _ _ e => .inl e⟩
theorem Mv.weak (h : ∀ r, T r → T' r) (x : Mv T b o b₁ o₁) : Mv T' b o b₁ o₁ := ⟨fun d y e => let ⟨p, q, s⟩ := x.old d y e; ⟨p, q, fun k => s fun r hr t => k r hr (h r t)⟩, x.new⟩
theorem Mv.trans (x : Mv T b o b₁ o₁) (y : Mv T b₁ o₁ b₂ o₂) : Mv T b o b₂ o₂ := by
  refine ⟨fun d v e => ?_, fun d r h => ?_⟩
  · obtain ⟨p, ⟨v₁, q⟩, s⟩ := x.old d v e
    obtain ⟨p', q', s'⟩ := y.old d v₁ q
    refine ⟨p'.trans p, q', fun k => ?_⟩
    have e1 := s k
    rw [e1] at q; cases q
    exact s' fun r hr => k r (p ▸ hr)
  · rcases y.new d r h with h | ⟨h, l⟩
    · rcases x.new d r h with h | ⟨h, v, l⟩
      · exact .inl h
      · exact .inr ⟨h, (y.old d v l).2.1⟩
    · refine .inr ⟨?_, l⟩
      cases e : b.get? d with
      | none => rfl
      | some v => obtain ⟨_, ⟨v₁, q⟩, _⟩ := x.old d v e; rw [h] at q; cases q
theorem Mv.turn {c : Addr} {r : Role} (hc : o c = some r) (hT : T r) {y : Obj} (live : b₁.get? c = some y) (h : ∀ d x, d ≠ c → b.get? d = some x → b₁.get? d = some x) : Mv T b o b₁ o := by
  refine ⟨fun d x e => ⟨rfl, ?_, fun k => ?_⟩, fun _ _ e => .inl e⟩
  · by_cases hd : d = c
    · subst hd; exact ⟨_, live⟩
    · exact ⟨x, h d x hd e⟩
  · exact h d x (fun q => k r (q ▸ hc) hT) e
/-- a new role -/
def give (o : Own) (c : Addr) (r : Role) : Own := fun d => if d = c then some r else o d
theorem give_self (o : Own) (c : Addr) (r : Role) : give o c r c = some r := by simp [give]
theorem give_other {o : Own} {c d : Addr} {r : Role} (h : d ≠ c) : give o c r d = o d := by simp [give, h]
theorem Mv.give {c : Addr} {r : Role} {x : Obj} (e : Ext b b₁) (n : b.get? c = none) (l : b₁.get? c = some x) : Mv T b o b₁ (give o c r) := by
  refine ⟨fun d x h => ⟨give_other fun q => ?_, ⟨x, e d x h⟩, fun _ => e d x h⟩, fun d r' h => ?_⟩
  · rw [q, n] at h; cases h
  · by_cases hd : d = c
    · exact .inr (hd ▸ ⟨n, _, l⟩)
    · exact .inl (by rwa [give_other hd] at h)
theorem Ok.move (k : Ok G b o) (x : Mv T b o b₁ o₁) : Ok G b₁ o₁ := by
  refine ⟨fun c y e => ?_, fun d r h => ?_, fun d r h => ?_⟩
  · have := k.base c y e
    refine (x.old c y this).2.2 fun r hr _ => ?_
    rw [k.free c r hr] at e; cases e
  · rcases x.new d r h with h | ⟨h, _⟩
    · exact k.free d r h
    · cases e : G.get? d with
      | none => rfl
      | some y => rw [k.base d y e] at h; cases h
  · rcases x.new d r h with h | ⟨_, l⟩
    · obtain ⟨v, hv⟩ := k.live d r h
      exact (x.old d v hv).2.1
    · exact l
theorem Ok.own_new (k : Ok G b o) {c : Addr} (h : b.get? c = none) : o c = none := by
  cases e : o c with
  | none => rfl
  | some r => obtain ⟨v, hv⟩ := k.live c r e; rw [h] at hv; cases hv
theorem Ok.ext (k : Ok G b o) (e : Ext b b₁) : Ok G b₁ o := k.move (T := fun _ => False) (.ext e)
theorem Ok.new (k : Ok G b o) {c : Addr} (h : b.get? c = none) : G.get? c = none := by
  cases e : G.get? c with
  | none => rfl
  | some y => rw [k.base c y e] at h; cases h
theorem Mv.keep (x : Mv T b o b₁ o₁) {c : Addr} (h : ∀ r, o c = some r → ¬ T r) : ∀ v, b.get? c = some v → b₁.get? c = some v := fun v e => (x.old c v e).2.2 h
theorem Mv.own (x : Mv T b o b₁ o₁) {c : Addr} {v : Obj} (e : b.get? c = some v) : o₁ c = o c := (x.old c v e).1

/-- an instance of the text's classes that stays as it is -/
structure FI (b : Heap) (o : Own) (x C : Addr) (l : List (Str × Value)) : Prop where
  ex : ∃ dx, InstD b x dx C l ∧ o x = none ∧ o dx = none
theorem FI.inst {x C : Addr} {l : List (Str × Value)} (h : FI b o x C l) : Inst b x C l := let ⟨dx, i, _⟩ := h.ex; ⟨dx, i⟩
theorem FI.move {x C : Addr} {l : List (Str × Value)} (h : FI b o x C l) (m : Mv T b o b₁ o₁) : FI b₁ o₁ x C l := by
  obtain ⟨dx, ⟨es, n, h1, h2, h3⟩, hx, hd⟩ := h.ex
  have k1 := m.old x _ h1
  have k2 := m.old dx _ h2
  exact ⟨dx, ⟨es, n, k1.2.2 (by simp [hx]), k2.2.2 (by simp [hd]), h3⟩, k1.1.trans hx, k2.1.trans hd⟩

/-- a list in a role -/
structure OL (b : Heap) (o : Own) (r : Role) (a : Addr) (vs : List Value) : Prop where
  ls : Ls b a vs
  own : o a = some r
theorem OL.move {r : Role} {a : Addr} {vs : List Value} (h : OL b o r a vs) (m : Mv T b o b₁ o₁) (hr : ¬ T r) : OL b₁ o₁ r a vs := by
  obtain ⟨n, hl⟩ := h.ls
  have k := m.old a _ hl
  exact ⟨⟨n, k.2.2 fun r' e => by rw [h.own] at e; cases e; exact hr⟩, k.1.trans h.own⟩
/-- a list of numbers -/
def LsN (b : Heap) (a : Addr) (ns : List Nat) : Prop := ∃ vs, Ls b a vs ∧ Nums vs ns
structure OLN (b : Heap) (o : Own) (r : Role) (a : Addr) (ns : List Nat) : Prop where
  ls : LsN b a ns
  own : o a = some r
theorem OLN.ol {r : Role} {a : Addr} {ns : List Nat} (h : OLN b o r a ns) : ∃ vs, OL b o r a vs ∧ Nums vs ns := let ⟨vs, l, n⟩ := h.ls; ⟨vs, ⟨l, h.own⟩, n⟩
theorem OLN.move {r : Role} {a : Addr} {ns : List Nat} (h : OLN b o r a ns) (m : Mv T b o b₁ o₁) (hr : ¬ T r) : OLN b₁ o₁ r a ns := let ⟨vs, l, n⟩ := h.ol; let k := l.move m hr; ⟨⟨vs, k.ls, n⟩, k.own⟩
theorem Nums.append {vs us : List Value} {ns ms : List Nat} (h : Nums vs ns) (h' : Nums us ms) : Nums (vs ++ us) (ns ++ ms) := by
  show IntsAre _ ((ns ++ ms).map Int.ofNat)
  rw [List.map_append]; exact IntsAre.append h h'
theorem Nums.one (n : Nat) (t : Tok) : Nums [.int (Int.ofNat n) t] [n] := .cons _ _ .nil
theorem Nums.set {vs : List Value} {ns : List Nat} (h : Nums vs ns) (i n : Nat) (t : Tok) : Nums (vs.set i (.int (Int.ofNat n) t)) (ns.set i n) := by
  induction ns generalizing vs i with
  | nil => cases h; exact .nil
  | cons m ns ih =>
    cases h with
    | cons _ u hh => cases i with
      | zero => exact .cons _ _ hh
      | succ i => exact .cons _ _ (ih hh i)
end

inductive LenOk (P : Value → Heap → Prop) (v : Value) (b₁ : Heap) : Prop
  | mk (a : Addr) (vs : List Value) (h : v = .ref a) (L : Ls b₁ a vs) (hz : vs.length ≤ sizeLine) (q : ∀ t, P (.int (Int.ofNat vs.length) t) b₁)
inductive LmOk (w : World) (G : Heap) (A : Around) (f : Fram) (env : Env) (m : Locs) (id : String) (pos : Pos) (args : List PySem.Expr) (P : Value → Heap → Prop) (ov : Value) (b₁ : Heap) : Prop
  | mk (a : Addr) (vs : List Value) (h : ov = .ref a) (L : Ls b₁ a vs) (q : ET w G A f (spliced (backTo pos (starEach args env))) b₁ m fun us b₂ => ET w G A f (call (.builtin id) (.ref a :: us)) b₂ m P)
section
variable {w : World} {G b : Heap} {A : Around} {f : Fram} {m : Locs} {env : Env} {ns : List (Str × NameKind)} {K : Frag} {P : Value → Heap → Prop}
/-- x.nm, x a name -/
theorem e_fld (W : Wld K G) (O : EnvOk env f ns) {x nm : Str} {p1 p2 : Pos} {i C : Addr} {l : List (Str × Value)} {u : Value} (hk : ns.lookup x = some .local) (hc : f.cl.lookup x = none) (hm : m x = some (.ref i)) (I : Inst b i C l) (c : ClsFld K C nm)
    (hl : l.lookup nm = some u) (hv : handedIn u = true) (k : P u b) (hd : (x == ("__debug__" : Str)) = false := by decide) (hb : attributeBase (.Name x p1) nm env (eval (.Name x p1) env) = eval (.Name x p1) env := by rfl) :
    ET w G A f (eval (.Attribute (.Name x p1) nm p2) env) b m P := e_field W (e_local O hk hc hm ⟨i, C, l, u, rfl, I, c, hl, hv, k⟩ hd) hb
/-- x.nm, x a cell's name -/
theorem e_fldc (W : Wld K G) (O : EnvOk env f ns) {x nm : Str} {p1 p2 : Pos} {i C : Addr} {l : List (Str × Value)} {u : Value} {c0 : Addr} (hk : ns.lookup x = some .cell) (hc : f.cl.lookup x = some c0) (hm : m x = some (.ref i)) (I : Inst b i C l) (c : ClsFld K C nm)
    (hl : l.lookup nm = some u) (hv : handedIn u = true) (k : P u b) (hd : (x == ("__debug__" : Str)) = false := by decide) (hb : attributeBase (.Name x p1) nm env (eval (.Name x p1) env) = eval (.Name x p1) env := by rfl) :
    ET w G A f (eval (.Attribute (.Name x p1) nm p2) env) b m P := e_field W (e_cell O hk hc hm ⟨i, C, l, u, rfl, I, c, hl, hv, k⟩ hd) hb
/-- len(e), of a list -/
theorem e_len (W : Wld K G) (O : EnvOk env f ns) {e : PySem.Expr} {p1 p2 : Pos} (hk : ns.lookup ("len" : Str) = some .globalImplicit) (hn : nsIn K mainGlobals "len" = some none)
    (k : ET w G A f (eval e env) b m (LenOk P))
    (hv : bootBuiltins "len" = some (.builtin "len"))
    (he : eval (.Call (.Name "len" p1) [e] [] p2) env = (do callWith p2 (← eval (.Name "len" p1) env) [] (backTo p2 (starEach [e] env)) (backToKw p2 (keywordEach [] env))) := by rfl)
    (hp : (backTo p2 (starEach [e] env)).any (·.1) = false := by rfl) (hs : starEach [e] env = (false, eval e env) :: starEach [] env := by rfl) :
    ET w G A f (eval (.Call (.Name "len" p1) [e] [] p2) env) b m P :=
  e_call (e_builtin W O hk hn hv (by decide) (e_callWith keeps3_builtin (e_spl_cons (k.mono fun v b₁ q => by
    obtain ⟨a, vs, rfl, L, hz, q⟩ := q
    exact e_spl_nil (c_len_list L hz q _ _)) hs) hp)) he
end

def root (par : List Nat) (a : Nat) : Nat := if h : par.getD a a < a then root par (par.getD a a) else a
termination_by a

/-- a row that nobody turns -/
structure FR (b : Heap) (o : Own) (a : Addr) (q : Str × List Nat) : Prop where
  row : Row b a q
  own : o a = none
theorem FR.move {T : Role → Prop} {b b₁ : Heap} {o o₁ : Own} {a : Addr} {q : Str × List Nat} (x : FR b o a q) (m : Mv T b o b₁ o₁) : FR b₁ o₁ a q := by
  obtain ⟨t, vs, ⟨n, h⟩, r⟩ := x.row
  have k := m.old a _ h
  exact ⟨⟨t, vs, ⟨n, k.2.2 (by simp [x.own])⟩, r⟩, k.1.trans x.own⟩
/-- tables in a role -/
structure OD {w : World} {K : Type} [DecidableEq K] (knd : KeyKind PG w K) (b : Heap) (o : Own) (r : Role) (d : Addr) (f : K → Option Value) (n : Nat) : Prop where
  kd : KD knd b d f n
  own : o d = some r
theorem OD.move {w : World} {K : Type} [DecidableEq K] {knd : KeyKind PG w K} {T : Role → Prop} {b b₁ : Heap} {o o₁ : Own} {r : Role} {d : Addr} {f : K → Option Value} {n : Nat} (x : OD knd b o r d f n) (m : Mv T b o b₁ o₁) (hr : ¬ T r) : OD knd b₁ o₁ r d f n := by
  obtain ⟨v, hv⟩ := x.kd.live
  exact ⟨x.kd.at fun y e => (m.old d y e).2.2 fun r' e' => by rw [x.own] at e'; cases e'; exact hr, (m.old d v hv).1.trans x.own⟩
structure OT (w : World) (b : Heap) (o : Own) (r : Role) (d : Addr) (f : Str × List Nat → Option Nat) (n : Nat) : Prop where
  td : TD w b d f n fun a => o a = none
  own : o d = some r
theorem OT.move {w : World} {T : Role → Prop} {b b₁ : Heap} {o o₁ : Own} {r : Role} {d : Addr} {f : Str × List Nat → Option Nat} {n : Nat} (x : OT w b o r d f n) (m : Mv T b o b₁ o₁) (hr : ¬ T r) : OT w b₁ o₁ r d f n := by
  obtain ⟨v, hv⟩ := x.td.live
  exact ⟨x.td.at (fun y e => (m.old d y e).2.2 fun r' e' => by rw [x.own] at e'; cases e'; exact hr) fun a ha y e => let k := m.old a y e; ⟨k.1.trans ha, k.2.2 (by simp [ha])⟩, (m.old d v hv).1.trans x.own⟩

section
variable {w : World} {G b : Heap} {A : Around} {o : Own} {n : Nat}
theorem o_append {r : Role} {a : Addr} {vs : List Value} {v : Value} {P : Value → Heap → Prop} (k : Ok G b o) (x : OL b o r a vs) (hz : vs.length ≤ sizeLine)
    (p : ∀ b₁, Mv (fun q => q = r) b o b₁ o → OL b₁ o r a (vs ++ [v]) → P .none b₁) : CT w G A (call (.builtin "list.append") [.ref a, v]) b P :=
  c_append x.ls (k.free _ _ x.own) hz fun b₁ h l => p b₁ (let ⟨_, e⟩ := l.live; .turn x.own rfl e h) ⟨l, x.own⟩
theorem o_pop {r : Role} {a : Addr} {vs : List Value} {v : Value} {P : Value → Heap → Prop} (k : Ok G b o) (x : OL b o r a (vs ++ [v])) (hz : vs.length + 1 ≤ sizeLine)
    (p : ∀ b₁, Mv (fun q => q = r) b o b₁ o → OL b₁ o r a vs → P v b₁) : CT w G A (call (.builtin "list.pop") [.ref a]) b P :=
  c_pop x.ls (k.free _ _ x.own) hz fun b₁ h l => p b₁ (let ⟨_, e⟩ := l.live; .turn x.own rfl e h) ⟨l, x.own⟩
theorem o_extend {r : Role} {a c : Addr} {vs us : List Value} {P : Value → Heap → Prop} (k : Ok G b o) (x : OL b o r a vs) (y : Ls b c us) (hz : vs.length + us.length ≤ sizeLine)
    (p : ∀ b₁, Mv (fun q => q = r) b o b₁ o → OL b₁ o r a (vs ++ us) → P .none b₁) : CT w G A (call (.builtin "list.extend") [.ref a, .ref c]) b P :=
  c_extend x.ls y (k.free _ _ x.own) hz fun b₁ h l => p b₁ (let ⟨_, e⟩ := l.live; .turn x.own rfl e h) ⟨l, x.own⟩
theorem o_setItem {r : Role} {a : Addr} {vs : List Value} {i : Nat} {u : Tok} {v : Value} {P : Unit → Heap → Prop} (k : Ok G b o) (x : OL b o r a vs) (hi : i < vs.length) (hz : vs.length ≤ sizeLine)
    (p : ∀ b₁, Mv (fun q => q = r) b o b₁ o → OL b₁ o r a (vs.set i v) → P () b₁) : CT w G A (setItem (.ref a) (.int (Int.ofNat i) u) v) b P :=
  c_setItem_list x.ls (k.free _ _ x.own) hi hz fun b₁ h l => p b₁ (let ⟨_, e⟩ := l.live; .turn x.own rfl e h) ⟨l, x.own⟩
variable {K : Type} [DecidableEq K] {knd : KeyKind PG w K} {F : K → Option Value} {T : Str × List Nat → Option Nat} {d : Addr}
theorem o_kd_set {r : Role} {k : K} {key v : Value} {P : Unit → Heap → Prop} (hk : Ok G b o) (x : OD knd b o r d F n) (hkey : knd.is k key = true) (hz : n ≤ sizeLine)
    (p : ∀ b₁, Mv (fun q => q = r) b o b₁ o → OD knd b₁ o r d (fun y => if y = k then some v else F y) (if (F k).isSome then n else n + 1) → P () b₁) : CT w G A (setItem (.ref d) key v) b P :=
  c_kd_set x.kd (hk.free _ _ x.own) hkey hz fun b₁ h l => p b₁ (let ⟨_, e⟩ := l.live; .turn x.own rfl e h) ⟨l, x.own⟩
theorem o_kd_pop {r : Role} {k : K} {key v : Value} {P : Value → Heap → Prop} (hk : Ok G b o) (x : OD knd b o r d F n) (hkey : knd.is k key = true) (hp : (keyPart key).isSome = true) (hv : F k = some v) (hz : n ≤ sizeLine)
    (p : ∀ b₁, Mv (fun q => q = r) b o b₁ o → OD knd b₁ o r d (fun y => if y = k then none else F y) n → P v b₁) : CT w G A (call (.builtin "dict.pop") [.ref d, key]) b P :=
  c_kd_pop x.kd (hk.free _ _ x.own) hkey hp hv hz fun b₁ h l => p b₁ (let ⟨_, e⟩ := l.live; .turn x.own rfl e h) ⟨l, x.own⟩
theorem o_td_set {r : Role} {a : Addr} {q : Str × List Nat} {i : Nat} {t : Tok} {n' : Nat} {P : Unit → Heap → Prop} (hk : Ok G b o) (hA : AOk (n + 1) A) (x : OT w b o r d T n') (hr : FR b o a q) (hT : T q = none) (hz : n' ≤ sizeLine)
    (p : ∀ b₁, Mv (fun q => q = r) b o b₁ o → OT w b₁ o r d (fun y => if y = q then some i else T y) (n' + 1) → P () b₁) : CT w G A (setItem (.ref d) (.ref a) (.int (Int.ofNat i) t)) b P :=
  c_td_set hA x.td (hk.free _ _ x.own) hr.row hT hz hr.own fun b₁ h l => p b₁ (let ⟨_, e⟩ := l.live; .turn x.own rfl e h) ⟨l, x.own⟩
theorem o_td_setdefault {r : Role} {a : Addr} {q : Str × List Nat} {i : Nat} {t : Tok} {n' : Nat} {P : Value → Heap → Prop} (hk : Ok G b o) (hA : AOk (n + 1) A) (x : OT w b o r d T n') (hr : FR b o a q) (hz : n' ≤ sizeLine)
    (p1 : ∀ j t, T q = some j → P (.int (Int.ofNat j) t) b)
    (p2 : T q = none → ∀ b₁, Mv (fun q => q = r) b o b₁ o → OT w b₁ o r d (fun y => if y = q then some i else T y) (n' + 1) → P (.int (Int.ofNat i) t) b₁) : CT w G A (call (.builtin "dict.setdefault") [.ref d, .ref a, .int (Int.ofNat i) t]) b P :=
  c_td_setdefault hA x.td (hk.free _ _ x.own) hr.row hz hr.own p1 fun hT b₁ h l => p2 hT b₁ (let ⟨_, e⟩ := l.live; .turn x.own rfl e h) ⟨l, x.own⟩
end

section
variable {w : World} {G b : Heap} {A : Around} {f : Fram} {m : Locs} {env : Env} {ns : List (Str × NameKind)}
/-- o.append(e) and its like, of a list -/
theorem e_lmeth {o : PySem.Expr} {name : Str} {id : String} {apos pos : Pos} {args : List PySem.Expr} {pl : Sem Bool} {P : Value → Heap → Prop} (slot : Slot "list" name id) (hty : typeOf (.builtin id) = pure (.type "method_descriptor"))
    (k : ET w G A f (eval o env) b m (LmOk w G A f env m id pos args P))
    (he : eval (.Call (.Attribute o name apos) args [] pos) env = (do
      let ov ← eval o env
      standAt apos.atName
      let (f, first) ← holding [ov] (getMethod ov name pl)
      callWith pos f first (backTo pos (starEach args env)) (backToKw pos (keywordEach [] env))) := by rfl)
    (hp : (backTo pos (starEach args env)).any (·.1) = false := by rfl) :
    ET w G A f (eval (.Call (.Attribute o name apos) args [] pos) env) b m P := e_meth (k.mono fun ov b₁ q => by
      obtain ⟨a, vs, rfl, L, q⟩ := q
      exact c_getMethod_list L slot hty (e_callWith keeps3_builtin q hp) _ _) he
end

section
variable {w : World} {G b : Heap} {A : Around} {f : Fram} {m : Locs} {env : Env} {ns : List (Str × NameKind)} {K : Frag} {P : Value → Heap → Prop}
/-- x.nm(args), x a name, nm a def of the text -/
theorem e_mth (W : Wld K G) (O : EnvOk env f ns) {x nm : Str} {p1 p2 pos : Pos} {args : List PySem.Expr} {pl : Sem Bool} {i C g : Addr} {l : List (Str × Value)} (hk : ns.lookup x = some .local) (hc : f.cl.lookup x = none) (hm : m x = some (.ref i)) (I : Inst b i C l) (c : ClsMeth K C nm g)
    (hl : l.lookup nm = none) (k : ET w G A f (spliced (backTo pos (starEach args env))) b m fun vs b₂ => CT w G A (call (.ref g) (.ref i :: vs)) b₂ P) (hd : (x == ("__debug__" : Str)) = false := by decide)
    (he : eval (.Call (.Attribute (.Name x p1) nm p2) args [] pos) env = (do
      let ov ← eval (.Name x p1) env
      standAt p2.atName
      let (f, first) ← holding [ov] (getMethod ov nm pl)
      callWith pos f first (backTo pos (starEach args env)) (backToKw pos (keywordEach [] env))) := by rfl)
    (hp : (backTo pos (starEach args env)).any (·.1) = false := by rfl) :
    ET w G A f (eval (.Call (.Attribute (.Name x p1) nm p2) args [] pos) env) b m P := e_method W (e_local O hk hc hm ⟨i, C, l, g, rfl, I, c, hl, k.mono fun vs b₂ q => q _ _⟩ hd) he hp
/-- x.nm(args), x a cell's name, nm a def of the text -/
theorem e_mthc (W : Wld K G) (O : EnvOk env f ns) {x nm : Str} {p1 p2 pos : Pos} {args : List PySem.Expr} {pl : Sem Bool} {i C g : Addr} {l : List (Str × Value)} {c0 : Addr} (hk : ns.lookup x = some .cell) (hc : f.cl.lookup x = some c0) (hm : m x = some (.ref i)) (I : Inst b i C l) (c : ClsMeth K C nm g)
    (hl : l.lookup nm = none) (k : ET w G A f (spliced (backTo pos (starEach args env))) b m fun vs b₂ => CT w G A (call (.ref g) (.ref i :: vs)) b₂ P) (hd : (x == ("__debug__" : Str)) = false := by decide)
    (he : eval (.Call (.Attribute (.Name x p1) nm p2) args [] pos) env = (do
      let ov ← eval (.Name x p1) env
      standAt p2.atName
      let (f, first) ← holding [ov] (getMethod ov nm pl)
      callWith pos f first (backTo pos (starEach args env)) (backToKw pos (keywordEach [] env))) := by rfl)
    (hp : (backTo pos (starEach args env)).any (·.1) = false := by rfl) :
    ET w G A f (eval (.Call (.Attribute (.Name x p1) nm p2) args [] pos) env) b m P := e_method W (e_cell O hk hc hm ⟨i, C, l, g, rfl, I, c, hl, k.mono fun vs b₂ q => q _ _⟩ hd) he hp
end

theorem root_le (par : List Nat) (a : Nat) : root par a ≤ a := by
  induction a using Nat.strongRecOn with
  | _ a ih =>
    unfold root
    split
    · rename_i h; exact Nat.le_trans (ih _ h) (Nat.le_of_lt h)
    · exact Nat.le_refl _
/-- where things lie -/
structure Mem where
  h : Addr
  bk : Addr
  un : Addr
  ln : Addr
  dn : Addr
  lw : Addr
  ld : Addr
  ua : Addr
  ul : Addr
  um : Addr
  he : Addr
  hf : Addr
  hk : Addr
  ha : Addr
  hw : Addr
  tk : Tok
/-- what they hold -/
structure St where
  nodes : List (Str × List Nat)
  par : List Nat
  lots : List Nat
  mc : Nat
  known : Str × List Nat → Option Nat
  nk : Nat
  abv : Nat → Option (List Nat)
  na : Nat
  wait : List Nat
  ec : Nat
  fc : Nat
/-- the bounds that every count keeps -/
abbrev lim : Nat := 100000
theorem lim_size : 20 * lim + 10 ≤ sizeLine := by decide
theorem min_lt_max {p q : Nat} (h : p ≠ q) : min p q < max p q := (Nat.lt_or_gt_of_ne h).elim (fun h => by rw [Nat.min_eq_left (Nat.le_of_lt h), Nat.max_eq_right (Nat.le_of_lt h)]; exact h) (fun h => by rw [Nat.min_eq_right (Nat.le_of_lt h), Nat.max_eq_left (Nat.le_of_lt h)]; exact h)
theorem ofNat_min (p q : Nat) : min (Int.ofNat p) (Int.ofNat q) = Int.ofNat (min p q) := by simp only [Int.ofNat_eq_natCast]; omega
theorem ofNat_max (p q : Nat) : max (Int.ofNat p) (Int.ofNat q) = Int.ofNat (max p q) := by simp only [Int.ofNat_eq_natCast]; omega
theorem q0 {c i n : Nat} (k : Nat) (hi : i < n) : k + c * i ≤ k + c * n := Nat.add_le_add_left (Nat.mul_le_mul_left c (Nat.le_of_lt hi)) k
theorem q1 {a k c i n N : Nat} (h : a ≤ k + c * i) (hi : i < n) (hN : k + c * n ≤ N) : a ≤ N := Nat.le_trans h (Nat.le_trans (q0 k hi) hN)
theorem q2 {a b c i n k N : Nat} (h : a ≤ b + c * i) (hb : b ≤ k) (hi : i < n) (hN : k + c * n ≤ N) : a ≤ N := q1 (Nat.le_trans h (Nat.add_le_add_right hb _)) hi hN
theorem q3 {a b c i n k N x d e : Nat} (h : a ≤ b + c * i) (hb : b ≤ k) (hi : i < n) (hx : x ≤ e) (hN : k + c * n + d * e ≤ N) : a + d * x ≤ N := Nat.le_trans (Nat.add_le_add (q2 h hb hi (Nat.le_refl _)) (Nat.mul_le_mul_left d hx)) hN
theorem q4 {a k c i n x e N : Nat} (h : a ≤ k + c * i) (hi : i < n) (hx : x ≤ e) (hN : k + c * n + e ≤ N) : a + x ≤ N := Nat.le_trans (Nat.add_le_add (q1 h hi (Nat.le_refl _)) hx) hN
theorem q5 {a b c i x d e : Nat} (h : a ≤ b + c * i) (hx : x ≤ e) (hN : d * e ≤ c) : a + d * x ≤ b + c * (i + 1) := Nat.le_trans (Nat.add_le_add h (Nat.le_trans (Nat.mul_le_mul_left d hx) hN)) (Nat.le_of_eq (Nat.add_assoc _ _ _))
theorem q6 {a' a b c i x e : Nat} (h' : a' ≤ a + x) (h : a ≤ b + c * i) (hx : x ≤ e) (hN : e ≤ c) : a' ≤ b + c * (i + 1) := Nat.le_trans h' (Nat.le_trans (Nat.add_le_add h (Nat.le_trans hx hN)) (Nat.le_of_eq (Nat.add_assoc _ _ _)))
theorem q7 {a' a k c i n x e N : Nat} (h' : a' ≤ a + x) (h : a ≤ k + c * i) (hi : i < n) (hx : x ≤ e) (hN : k + c * n + e ≤ N) : a' ≤ N := Nat.le_trans h' (q4 h hi hx hN)
theorem q8 {a b c i n k N : Nat} (h : a ≤ b + 1 + c * i) (hb : b ≤ k) (hi : i < n) (hN : k + 1 + c * n ≤ N) : a ≤ N := q2 h (Nat.succ_le_succ hb) hi hN
theorem q8' {a b c i n k N : Nat} (h : a ≤ b + 1 + c * i) (hb : b ≤ k) (hi : i < n) (hN : k + 1 + c * n + 1 ≤ N) : a + 1 ≤ N := Nat.le_trans (Nat.succ_le_succ (q8 h hb hi (Nat.le_refl _))) hN
theorem q9 {a b i : Nat} (h : a ≤ b + 2 * i) : a + 1 + 1 ≤ b + 2 * (i + 1) := Nat.add_le_add_right h 2
theorem q10 {a b i n k N : Nat} (h : a ≤ b + i) (hb : b ≤ k) (hi : i < n) (hN : k + n ≤ N) : a ≤ N := Nat.le_trans h (Nat.le_trans (Nat.add_le_add hb (Nat.le_of_lt hi)) hN)
theorem q11 {a b i : Nat} (h : a ≤ b + i) : a + 1 ≤ b + (i + 1) := Nat.succ_le_succ h
theorem q12 {a k c i n m e j N : Nat} (h : a ≤ k + c * i) (hi : i < n) (hm : m ≤ e) (hj : j < m) (hN : k + c * n + 1 + e ≤ N) : a + 1 + j ≤ N := Nat.le_trans (Nat.add_le_add (Nat.succ_le_succ (q1 h hi (Nat.le_refl _))) (Nat.le_trans (Nat.le_of_lt hj) hm)) hN
theorem q13 {a k i m : Nat} (h : a ≤ k + 4 * i) (hm : m ≤ 2) : a + 1 + m ≤ k + 4 * (i + 1) := Nat.le_trans (Nat.add_le_add (Nat.succ_le_succ h) hm) (Nat.le_succ _)
theorem q14 {a b k i n N : Nat} (e : a = b) (h : b ≤ k + i) (hi : i < n) (hN : k + n ≤ N) : a ≤ N := Nat.le_trans (e ▸ h) (Nat.le_trans (Nat.add_le_add_left (Nat.le_of_lt hi) k) hN)
theorem q15 {a b k N : Nat} (e : a = b) (h : b ≤ k) (hN : k ≤ N) : a ≤ N := Nat.le_trans (e ▸ h) hN
theorem q17 {a b c k N : Nat} (e : a = b) (f : b = c) (h : c ≤ k) (hN : k ≤ N) : a ≤ N := Nat.le_trans (e ▸ f ▸ h) hN
theorem q19 {i n N : Nat} (h : i < n) (hN : n ≤ N + 1) : i ≤ N := Nat.le_of_lt_succ (Nat.lt_of_lt_of_le h hN)
theorem q20 {a i n N : Nat} (e : a = i) (h : i < n) (hN : n ≤ N + 1) : a ≤ N := e ▸ q19 h hN
theorem lt4 : ∀ i : Nat, i < 4 → i = 0 ∨ i = 1 ∨ i = 2 ∨ i = 3 := by decide
theorem lt8 : ∀ i : Nat, i < 8 → 4 ≤ i → i ≠ 6 → i = 4 ∨ i = 5 ∨ i = 7 := by decide
theorem o1 {a : Nat} (h : a ≤ lim) : a ≤ sizeLine := Nat.le_trans h (by decide)
theorem o2 {a b : Nat} (e : a = b) (h : b ≤ lim) : a ≤ sizeLine := o1 (e ▸ h)
theorem o3 {a b c : Nat} (e : a = b) (f : b = c) (h : c ≤ lim) : a ≤ sizeLine := o1 (e ▸ f ▸ h)
theorem o4 {a : Nat} (h : a ≤ lim) : a + 1 ≤ sizeLine := Nat.le_trans (Nat.succ_le_succ h) (by decide)
theorem o5 {a b : Nat} (e : a = b) (h : b ≤ lim) : a + 1 ≤ sizeLine := o4 (e ▸ h)
theorem o6 {a b c : Nat} (e : a = b) (f : b = c) (h : c ≤ lim) : a + 1 ≤ sizeLine := o4 (e ▸ f ▸ h)
theorem o7 {a b c d : Nat} (h1 : a = b) (h2 : c = d) (h3 : b ≤ lim) (h4 : d ≤ lim) : a + c ≤ sizeLine := Nat.le_trans (Nat.add_le_add (h1 ▸ h3) (h2 ▸ h4)) (by decide)
theorem o8 {a b c : Nat} (e : a = b) (h : b ≤ c) : a ≤ c := e ▸ h
theorem o9 {a b i : Nat} (e : a = b) (h : i < b) : i < a := e ▸ h
theorem o10 {a b i c : Nat} (e : a = b) (f : b = c) (h : i < c) : i < a := e ▸ f ▸ h
theorem o11 {a b i : Nat} (e : b = a) (h : i < b) : i < a := e ▸ h
theorem o12 {i n : Nat} (h : ¬ i < n) (h' : i < n + 1) : i = n := Nat.eq_of_lt_succ_of_not_lt h' h
theorem o13 {i n : Nat} (h : i ≤ n) (h' : ¬ i < n) : i = n := Nat.le_antisymm h (Nat.ge_of_not_lt h')
theorem o14 {i j : Nat} (h : i < j + 1) (h' : ¬ i = j) : i < j := Nat.lt_of_le_of_ne (Nat.le_of_lt_succ h) h'
theorem o15 {n q p h k : Nat} (h1 : p ≤ h) (h2 : q < p) : n + q + (k + 1) ≤ n + h + k := by omega
theorem o16 {n i : Nat} (h : i < n) : n - (i + 1) < n - i := Nat.sub_lt_sub_left h (Nat.lt_succ_self i)
theorem o17 {n i : Nat} (h : i < n) : n + 1 - (i + 1) < n + 1 - i := o16 (Nat.lt_succ_of_lt h)
theorem o18 {n h k : Nat} : n + 1 ≤ n + h + (k + 1) := by omega
theorem o22 {a b : Nat} (e : a = b) (h : b ≤ 2) : a ≤ 16777215 := Nat.le_trans (e ▸ h) (by decide)
theorem o28 {a : Nat} (h : a ≤ lim) : a < 2 ^ 60 := Nat.lt_of_le_of_lt h (by decide)
theorem o29 {i a : Nat} (h : i < a) (h' : a ≤ lim) : i < 2 ^ 60 := Nat.lt_trans h (o28 h')
theorem o30 {a b c e : Nat} (h1 : a = b) (h2 : b = c) (h : c ≤ e) : a ≤ e := h1 ▸ h2 ▸ h
end Mine
end
section
open PySem PySem.W PyProof.Rows PySem.Calls PySem.Spec Builtin
set_option maxRecDepth 100000
set_option linter.unusedVariables false
namespace Mine
section
variable {w : World} {G b : Heap} {A : Around} {f : Fram} {m : Locs} {env : Env} {K : Frag} {α : Type} {n : Nat} {ns : List (Str × NameKind)}
inductive CompNo (w : World) (G : Heap) (A : Around) (f : Fram) (ns : List (Str × NameKind)) (m : Locs) (x : Str) (tst : PySem.Expr) (scope : Scope) (cl : List (Str × Addr)) (b₁ : Heap) (xv : Value) (P : Value → Heap → Prop) : Prop
  | mk (n : Nat) (Pv : Nat → Value → Prop) (dep : List Addr) (it : ItV w G A b₁ xv n Pv dep) (hz : n ≤ sizeLine) (J : Nat → Heap → Prop) (j0 : J 0 b₁) (jd : ∀ i b', J i b' → ∀ c ∈ dep, ∀ o, b₁.get? c = some o → b'.get? c = some o)
      (turn : ∀ i b' v C hid env', i < n → J i b' → Pv i v → EnvOk env' ⟨C, cl, hid⟩ (compNs ns scope.names) →
        ET w G A ⟨C, cl, hid⟩ (isTrue tst env' (eval tst env')) b' (fun y => if y = x then some v else if (cl.lookup y).isSome then m y else none) fun c b₂ => c = false ∧ J (i + 1) b₂)
      (fin : ∀ D b' b₂, J n b' → Ext b' b₂ → b'.get? D = none → Ls b₂ D [] → P (.ref D) b₂)

inductive CompNJ (s : Shared) (G : Heap) (fi : Fram) (n : Nat) (I D : Addr) (mi : Option Value → Locs) (St : Nat → Heap → Prop) (J : Nat → Heap → Prop) (k' : Nat) (s' : Shared) : Prop
  | mk (i : Nat) (h' : Heap) (tk' : Nat) (b' : Heap) (o : Obj) (nn : Nat) (vx : Option Value) (h1 : s' = { s with heap := h', toks := tk' }) (h2 : k' = n + 1 - i) (h3 : i ≤ n) (h4 : Fm G b' (fi.more [(D, lstO [] nn), (I, o)]) h' (mi vx)) (h5 : St i h') (h6 : J i b')
theorem comp_none_core {elt tst iter : PySem.Expr} {x : Str} {px : Pos} {scope : Scope} {pos : Pos} {cl : List (Str × Addr)} {b₁ : Heap} {xv : Value} {P : Value → Heap → Prop} {s : Shared} {E : Value → Shared → Prop} {RR : Value → Addr → Result → Shared → Prop}
    (O : EnvOk env f ns) (hcell : (scope.names.all fun x => x.2 != .cell) = true) (hkind : scope.kind = .function) (hx : scope.names.lookup x = some .local) (hxc : cl.lookup x = none)
    (hin : ∀ y c, (y, c) ∈ cl → f.cl.lookup y = some c)
    (C : CompNo w G A f ns m x tst scope cl b₁ xv P) (F : Fm G b₁ f s.heap m)
    (hRR : ∀ D C h' tk b₂ m', Fm G b₂ f h' m → b₂.get? C = none → C ∉ f.fa → h'.Ns C m' → P (.ref D) b₂ → RR (.ref D) C (.ok .next) { s with heap := h', toks := tk }) :
    wpAny (model PG w) A (pyIter xv) (fun it s₂ => wpAny (model PG w) A (newList []) (fun acc s₃ => wpAny (model PG w) A (newFunctionEnv scope env.globals cl [] env.qual none .none (some env)) (fun cenv s₄ =>
      codeAny (model PG w) A (.compStart (.ListComp elt [⟨.Name x px, iter, [tst], 0⟩] scope pos) 0 it acc { cenv with scope := relabel scope env }) (RR acc cenv.locals) s₄) E s₃) E s₂) E s := by
  obtain ⟨n, Pv, dep, ⟨hd, itv⟩, hz, J, j0, jd, turn, fin⟩ := C
  refine itv s _ E F.keep fun I fp St h₁ tk e₁ nI W st0 hfp => ?_
  have F₁ := F.ext e₁
  obtain ⟨oI, hoI⟩ := W.live _ _ st0
  have frI := F.fresh nI
  refine wpAny_newObj_type (wpAny_newFunctionEnv (fun y hy => by simpa using List.all_eq_true.mp hcell y hy) (by intro y hy; simp at hy) (fun h₂ hns₂ hsb₂ => ?_) hkind)
  dsimp only at hns₂ hsb₂ ⊢
  generalize hH2 : h₁.push { cls := .type "list", dict := none, data := .seq ([] : List Value).toArray } = H2 at hns₂ hsb₂ ⊢
  have hCs : H2.objs.size = h₁.objs.size + 1 := by rw [← hH2, Heap.size_push]
  have nD : h₁.get? h₁.objs.size = none := Heap.get?_none_of_le (Nat.le_refl _)
  have nC : h₁.get? H2.objs.size = none := Heap.get?_none_of_le (by rw [hCs]; exact Nat.le_succ _)
  have hDC : h₁.objs.size ≠ H2.objs.size := by rw [hCs]; exact Nat.ne_of_lt (Nat.lt_succ_self _)
  have old : Ext h₁ h₂ := fun c o e => hsb₂.extBut c o (fun q => by rw [q, nC] at e; cases e) (Heap.get?_push_of_some _ (hH2 ▸ Heap.get?_push_of_some _ e))
  have hD : h₂.get? h₁.objs.size = some { cls := .type "list", dict := none, data := .seq ([] : List Value).toArray } := hsb₂.extBut _ _ hDC (Heap.get?_push_of_some _ (hH2 ▸ Heap.get?_push_size _ rfl))
  generalize hDg : h₁.objs.size = D at nD hDC hD ⊢
  generalize hCg : H2.objs.size = CC at nC hDC hns₂ ⊢
  have frD := F₁.fresh nD
  have frC := F₁.fresh nC
  have F₂ := F₁.ext old
  have hID : I ≠ D := fun q => by rw [q, nD] at hoI; cases hoI
  have hIC : I ≠ CC := fun q => by rw [q, nC] at hoI; cases hoI
  have st2 : St 0 h₂ := W.walk.frame _ _ _ st0 fun c _ o e => old c o e
  have hI2 := old _ _ hoI
  obtain ⟨hs, ficlean, start, back⟩ := comp_frame (x := x) hxc hin F₂ hns₂ (fun _ => rfl) frC
  let fi : Fram := ⟨CC, cl, hs⟩
  have hlr := relabel_names (scope := scope) O
  have envok : ∀ l, EnvOk { newEnv scope CC env.globals cl env.qual none .none (some env) 0 with scope := relabel scope env } (fi.more l) (compNs ns scope.names) := fun l => ⟨hkind, hlr, rfl, O.globals, O.builtins, rfl⟩
  have loop : ∀ s₃ : Shared, s₃ = { s with heap := h₂, toks := tk + ([] : List (Str × Value)).length } →
      codeAny (model PG w) A (.compLoop (.ListComp elt [⟨.Name x px, iter, [tst], 0⟩] scope pos) 0 (.ref I) (.ref D) { newEnv scope CC env.globals cl env.qual none .none (some env) 0 with scope := relabel scope env })
        (RR (.ref D) CC) s₃ := by
    rintro s₃ rfl
    refine codeAny_compLoop_tests (CompNJ s G fi n I D (CompM m x cl) St J) ?_ (n + 1) ?_
    · rintro k' s' ⟨i, h', tk', b', o, nn, vx, rfl, rfl, hi, F', st, j⟩
      have bD : b'.get? D = none := F'.out D (fi.fa_more_l (by simp))
      have bI : b'.get? I = none := F'.out I (fi.fa_more_l (by simp))
      have bC : b'.get? CC = none := F'.out CC (fi.fa_more' fi.fa_L)
      have fD : D ∉ fi.fa := ficlean D frD.2 hDC
      have fI : I ∉ fi.fa := ficlean I frI.2 hIC
      have hDh := F'.hid (D, lstO [] nn) (by simp [Fram.more])
      by_cases hlt : i < n
      · refine W.walk.item i _ _ _ hlt st fun v h₃ tk₃ pv st₃ k₃ => ?_
        have k₃' : ∀ c o, c ≠ I → h'.get? c = some o → h₃.get? c = some o := fun c o hc e => k₃ c o (by simpa using hc) e
        obtain ⟨o₃, ho₃⟩ := W.live _ _ st₃
        have F₃ : Fm G b' (fi.more [(D, lstO [] nn), (I, o₃)]) h₃ (CompM m x cl vx) :=
          (F'.less.turn bI fI k₃').hide (by simpa using ⟨k₃' _ _ (Ne.symm hID) hDh, ho₃⟩) (by simpa using ⟨⟨bD, fD⟩, bI, fI⟩)
        refine s_name (s_local (P := fun _ b₂ m₂ => b₂ = b' ∧ m₂ = fun y => if y = x then some v else CompM m x cl vx y) (envok _) (compNs_local hx) hxc ⟨rfl, rfl⟩) _ _ _ F₃ fun _ h₄ tk₄ b₄ m₄ F₄ p₄ => ?_
        rw [p₄.1, p₄.2] at F₄
        rw [compM_put] at F₄
        rw [List.forIn_cons, if_pos rfl]
        refine wpAny_bind (wpAny_bind (turn i b' v CC _ _ hlt j pv (envok _) _ _ _ F₄ fun c h₅ tk₅ b₅ F₅ j₅ => ?_))
        obtain ⟨rfl, j₅⟩ := j₅
        refine wpAny_pure ?_
        dsimp only
        rw [List.forIn_nil]
        refine wpAny_pure ?_
        rw [if_neg (by decide)]
        have hI₅ : h₅.get? I = some o₃ := F₅.hid (I, o₃) (by simp [Fram.more])
        refine ⟨n + 1 - (i + 1), Nat.sub_lt_sub_left (Nat.lt_succ_of_lt hlt) (Nat.lt_succ_self i), i + 1, _, _, b₅, o₃, _, some v, rfl, rfl, hlt, F₅, ?_, j₅⟩
        refine W.walk.frame _ _ _ st₃ fun c hc o e => ?_
        rcases hfp c hc with hcI | hc
        · subst c; rw [ho₃] at e; cases e
          exact hI₅
        · obtain ⟨oc, hoc⟩ := hd c hc
          have e1 := F₃.keep c oc (jd i b' j c hc oc hoc)
          rw [e1] at e; cases e
          exact F₅.keep c _ (jd _ _ j₅ c hc _ hoc)
      · have hin' : i = n := Nat.le_antisymm hi (Nat.ge_of_not_lt hlt)
        subst i
        refine W.walk.done _ _ _ st fun h₃ tk₃ k₃ => ?_
        have k₃' : ∀ c o, c ≠ I → h'.get? c = some o → h₃.get? c = some o := fun c o hc e => k₃ c o (by simpa using hc) e
        have F₃ : Fm G b' fi h₃ (CompM m x cl vx) := F'.less.turn bI fI k₃'
        have Ff := back b' h₃ _ F₃ (compM_cl hxc vx)
        obtain ⟨q, ebb⟩ := hide_frame Ff bC
        obtain ⟨ml, hns, _⟩ := F₃.ns
        have hDC' : D ∉ CC :: f.fa := fun hc => by
          rcases List.mem_cons.mp hc with q | q
          · exact hDC q
          · exact frD.2 q
        refine hRR D CC h₃ tk₃ _ ml q (hideAll_none _ List.mem_cons_self) frC.2 hns (fin D b' _ j ebb bD ⟨nn, hideAll_get _ (k₃' _ _ (Ne.symm hID) hDh) hDC'⟩)
    · refine ⟨0, h₂, _, b₁, oI, 0, none, rfl, rfl, Nat.zero_le _, start.hide ?_ ?_, st2, j0⟩
      · simpa using ⟨hD, hI2⟩
      · simpa using ⟨⟨frD.1, ficlean D frD.2 hDC⟩, frI.1, ficlean I frI.2 hIC⟩
  exact codeAny_compStart_list (loop _ rfl) (W.walk.self 0 _ _ _ st2 (loop _ rfl))

theorem e_comp_none {elt tst iter : PySem.Expr} {x : Str} {px : Pos} {scope : Scope} {pos : Pos} {cl : List (Str × Addr)} {P : Value → Heap → Prop} (O : EnvOk env f ns) (hcl : closOf f.cl scope.names [] = some cl)
    (hcell : (scope.names.all fun x => x.2 != .cell) = true) (hkind : scope.kind = .function) (hx : scope.names.lookup x = some .local) (hxc : cl.lookup x = none)
    (hnames : (scope.names.all fun x => x.2 != .local || scope.names.lookup x.1 == some .local) = true) (hin : ∀ p ∈ cl, f.cl.lookup p.1 = some p.2)
    (k : ET w G A f (eval iter env) b m fun xv b₁ => CompNo w G A f ns m x tst scope cl b₁ xv P)
    (hs : ∀ x, foldedSetIterable iter env x = pure x := by intro _; rfl) : ET w G A f (eval (.ListComp elt [⟨.Name x px, iter, [tst], 0⟩] scope pos) env) b m P := by
  intro s Q E F kk
  rw [eval_ListComp]
  refine wpAny_comprehension_free (use := none) rfl hs (closureFor_of (by rw [O.cells]; exact hcl)) hkind (fun y hy hl => by have := List.all_eq_true.mp hnames y hy; simpa [hl] using this) ?_
  refine k s _ E F fun xv h₁ tk b₁ F₁ C => ?_
  refine comp_none_core (RR := fun acc C => compPost (model PG w) A E none Q acc C) O hcell hkind hx hxc (fun y c h => hin (y, c) h) C F₁ fun D CC h' tk' b₂ m' F₂ nC nf hn p => ?_
  refine ⟨m', hn, fun h'' hs' => kk (.ref D) h'' tk' b₂ (F₂.turn nC nf fun c o hc e => (hs'.2 c hc).trans e) p⟩


theorem itv_str {x : Str} {t : Tok} (hh : A.handled = none) (ha : x.cps.all (· < 128) = true) : ItV w G A b (.str x t) x.cps.size (SignAt x) [] := by
  refine ⟨(fun c hc => by cases hc), fun s Q E e q => ?_⟩
  refine wpAny_pyIter_ascii ha (q s.heap.objs.size [s.heap.objs.size] (fun i h => h.IsStrIter s.heap.objs.size "str_ascii_iterator" x t i) _ s.toks (fun c o y => Heap.get?_push_of_some _ y) (Heap.get?_none_of_le (Nat.le_refl _)) ?_ ?_ ?_)
  · exact ⟨Walks.strAscii hh _ x t, fun i h st => let ⟨o, ho, _⟩ := st; ⟨o, ho⟩, fun t i v s' Q' E' st q' => let ⟨o, ho, hc, _⟩ := st; own_go t ho hc (by decide +kernel) q'⟩
  · exact ⟨_, Heap.get?_push_size _ rfl, rfl, rfl⟩
  · intro c hc; simp at hc; simp [hc]
/-- a test that is none of the tests' own forms -/
theorem i_val {e : PySem.Expr} {whole : Sem Value} {P : Bool → Heap → Prop} (k : ET w G A f whole b m (Bl P)) (h : isTrue e env whole = (do let v ← whole; standAt e.pos; holding [v] (truthy v)) := by rfl) :
    ET w G A f (isTrue e env whole) b m P := fun s Q E F kk => isTrue_plain (k s _ E F fun v h₁ tk b₁ F₁ p => by
  obtain ⟨c, rfl, p⟩ := p
  exact wpAny_truthy_bool (kk c h₁ tk b₁ F₁ p)) h
theorem c_isspace {x : Str} {t : Tok} {P : Value → Heap → Prop} (k : P (.bool (decide (x.length > 0) && x.cps.all Unicode.isSpace)) b) : CT w G A (call (.builtin "str.isspace") [.str x t]) b P :=
  CT.still fun s Q E _ _ q => call_gives PySem.F.slot_str_isspace (typeIs_str s x t) PySem.F.entry_str_isspace (PySem.F.args_str_isspace_1 _) (gives_str_isspace x t) (q _ s.toks k)
theorem c_getMethod_isspace {x : Str} {t : Tok} {pl : Sem Bool} {P : Value × List Value → Heap → Prop} (k : P (.builtin "str.isspace", [.str x t]) b) : CT w G A (getMethod (.str x t) "isspace" pl) b P :=
  CT.still fun s Q E _ _ q => GM.isspace (q _ s.toks k)
/-- a and b, of truths -/
theorem e_and {x y : PySem.Expr} {pos : Pos} {P : Value → Heap → Prop} (k : ET w G A f (eval x env) b m fun v b₁ => ∃ c, v = .bool c ∧ (c = true → ET w G A f (eval y env) b₁ m P) ∧ (c = false → P (.bool false) b₁)) :
    ET w G A f (eval (.BoolOp .And [x, y] pos) env) b m P := fun s Q E F kk => BoolOp_and (k s _ E F fun v h₁ tk b₁ F₁ p => by
  obtain ⟨c, rfl, p1, p2⟩ := p
  refine wpAny_truthy_bool ?_
  cases c with
  | true => exact BoolOp_one (p1 rfl _ Q E F₁ kk)
  | false => exact kk _ h₁ tk b₁ F₁ (p2 rfl))
end

/-- the ops that this law uses -/
def goodOp (op : Str) : Prop := op = "a" ∨ op = "b" ∨ op = "f" ∨ op = "g" ∨ op = "u"
theorem goodOp.facts {op : Str} (h : goodOp op) : ∃ c, op = ⟨#[c]⟩ ∧ c < 128 ∧ Unicode.isSpace c = false ∧ ("()[]{},:" : Str).cps.toList.contains c = false ∧ c ≠ 63 := by
  rcases h with rfl | rfl | rfl | rfl | rfl
  · exact ⟨97, by decide, by decide, by decide +kernel, by decide, by decide⟩
  · exact ⟨98, by decide, by decide, by decide +kernel, by decide, by decide⟩
  · exact ⟨102, by decide, by decide, by decide +kernel, by decide, by decide⟩
  · exact ⟨103, by decide, by decide, by decide +kernel, by decide, by decide⟩
  · exact ⟨117, by decide, by decide, by decide +kernel, by decide, by decide⟩
theorem goodOp.noOcc {op : Str} (h : goodOp op) : (Builtin.Str.occurrences ("()[]{},:" : Str) op 0 ("()[]{},:" : Str).length 1).isEmpty = true := by
  rcases h with rfl | rfl | rfl | rfl | rfl <;> decide +kernel
theorem goodOp.noSp {op : Str} (h : goodOp op) : (decide (op.length > 0) && op.cps.all Unicode.isSpace) = false := by
  rcases h with rfl | rfl | rfl | rfl | rfl <;> decide +kernel
section
variable {w : World} {G b : Heap} {A : Around} {n : Nat}
theorem is_op_ (W : Wld (KK w) G) (hA : AOk (n + 2) A) {op : Str} {t : Tok} (h : goodOp op) : DT w G A (.call (.ref 67) ⟨[.str op t], []⟩) b fun v b₁ => v = .bool true ∧ Ext b b₁ := by
  obtain ⟨c, hc, h1, h2, h3, h4⟩ := h.facts
  refine call_def (binds := [("text", .str op t)]) W (fn_is_op w) hA (fun _ _ _ _ _ => rfl) rfl fun L' hid env O => ?_
  have hA' := hA.deeper env
  refine t_cons (t_ret (e_and (e_cmp (e_local O rfl rfl rfl (e_str fun t' => c_ne_str ⟨_, rfl, fun _ => ?_, fun q => ?_⟩ _ _)))))
  · refine e_cmp (e_comp_none O rfl rfl rfl rfl rfl rfl (by intro p hp; cases hp) (e_local O rfl rfl rfl ⟨_, _, _, itv_str hA'.hd (by rw [hc]; simpa using h1), by rw [hc]; simp [sizeLine], fun i b' => b' = b, rfl, (fun i b' e c hc => by cases hc), fun i b' v C hid' env' hi e pv O' => ?_, fun D b' b₂ e e' nD l => ?_⟩))
    · subst e
      obtain ⟨c', u, hc', rfl⟩ := pv
      have : (⟨#[c']⟩ : Str) = op := by
        rw [hc] at hc' hi ⊢
        have hi0 : i = 0 := by simpa using hi
        subst hi0
        simpa using hc'.symm
      rw [this]
      refine i_boolop (i_or (i_val (e_meth (e_local O' rfl rfl (if_pos rfl) (c_getMethod_isspace (e_callWith keeps3_builtin (e_spl_nil (c_isspace ⟨_, rfl, fun q => ?_, fun _ => ?_⟩ _ _))) _ _)))))
      · rw [h.noSp] at q; cases q
      · refine i_or (i_cmp (e_local O' rfl rfl (if_pos rfl) (e_str fun t' => c_in_str ⟨_, rfl, fun q => ?_, fun _ => i_or_nil ⟨rfl, rfl⟩⟩ _ _)))
        rw [h.noOcc] at q; cases q
    · subst e
      refine e_list (e_spl_nil (c_newList (by simp) (fun D2 b₃ e₃ n₃ l₃ => ?_) _ _))
      refine c_eq_data hA' (.list (l.ext e₃) .nil) (.list l₃ .nil) (by decide) (by decide) ?_ _ _
      exact ⟨rfl, e'.trans e₃⟩
  · exfalso
    have : op.cps.toList = ("" : Str).cps.toList := by simpa using q
    rw [hc] at this
    have h0 : ("" : Str).cps.toList = [] := by decide
    rw [h0] at this
    cases this
end
end Mine
end
section
open PySem PySem.W PyProof.Rows PySem.Calls PySem.Spec Builtin
set_option maxRecDepth 100000
set_option linter.unusedVariables false
namespace Mine
section
variable {w : World} {G b : Heap} {A : Around} {f : Fram} {m : Locs} {env : Env} {ns : List (Str × NameKind)} {K : Frag}
/-- a < b < c -/
theorem i_chain2 {l r₁ r₂ : PySem.Expr} {op₁ op₂ : CmpOp} {pos : Pos} {whole : Sem Value} {P : Bool → Heap → Prop}
    (k : ET w G A f (eval l env) b m fun a b₁ => ET w G A f (eval r₁ env) b₁ m fun x b₂ => ET w G A f (compareOp op₁ a x) b₂ m (Bl fun c b₃ =>
      (c = true → ET w G A f (eval r₂ env) b₃ m fun y b₄ => ET w G A f (compareOp op₂ x y) b₄ m (Bl P)) ∧ (c = false → P false b₃)))
    (hm : markedEach [op₁, op₂] [r₁, r₂] (evalEach [r₁, r₂] env) = [eval r₁ env, eval r₂ env] := by rfl) : ET w G A f (isTrue (.Compare l [op₁, op₂] [r₁, r₂] pos) env whole) b m P := by
  intro s Q E F kk
  rw [arm_isTrue_Compare, hm]
  refine wpAny_bind (k s _ E F fun a h₁ tk b₁ F₁ p => ?_)
  refine test_link (p _ _ E F₁ fun x h₂ tk₂ b₂ F₂ p₂ => p₂ _ _ E F₂ fun y h₃ tk₃ b₃ F₃ p₃ => ?_)
  obtain ⟨c, rfl, p4, p5⟩ := p₃
  refine wpAny_truthy_bool ?_
  cases c with
  | false => exact kk _ h₃ tk₃ b₃ F₃ (p5 rfl)
  | true =>
    refine test_last (p4 rfl _ _ E F₃ fun y' h₄ tk₄ b₄ F₄ p₆ => p₆ _ _ E F₄ fun z h₅ tk₅ b₅ F₅ p₇ => ?_)
    obtain ⟨c, rfl, p7⟩ := p₇
    exact wpAny_truthy_bool (kk c h₅ tk₅ b₅ F₅ p7)
/-- -i -/
theorem e_negc {i : Int} {kk : Nat} {p1 p2 : Pos} {P : Value → Heap → Prop} (k : ∀ t, P (.int (-i) t) b) : ET w G A f (eval (.UnaryOp .USub (.Constant (.int i) kk p1) p2) env) b m P := fun s Q E F c =>
  UnaryOp_ (wpAny_Constant_int (PyProof.Rows.neg_int (c _ s.heap _ b F (k _))))
theorem e_neg1 : True := trivial
/-- a list or a tuple -/
def LT (b : Heap) (a : Addr) (vs : List Value) : Prop := Ls b a vs ∨ Tp b a vs
theorem LT.ext {b b₁ : Heap} {a : Addr} {vs : List Value} (x : LT b a vs) (e : Ext b b₁) : LT b₁ a vs := x.elim (fun y => .inl (y.ext e)) fun y => .inr (y.ext e)
theorem c_tuple {a : Addr} {vs : List Value} {P : Value → Heap → Prop} (x : LT b a vs) (hz : vs.length ≤ sizeLine) (k : ∀ c b₁, Ext b b₁ → Tp b₁ c vs → P (.ref c) b₁) : CT w G A (call (.type "tuple") [.ref a]) b P := by
  rcases x with x | x
  · exact c_tuple_list x hz fun c b₁ e _ l => k c b₁ e l
  · exact c_tuple_same x (k a b .refl x)
/-- (x,) + tuple(e) -/
theorem e_node (W : Wld K G) (O : EnvOk env f ns) (hk : ns.lookup ("tuple" : Str) = some .globalImplicit) (hn : nsIn K mainGlobals "tuple" = some none) (hv : bootBuiltins "tuple" = some (.type "tuple")) {x e : PySem.Expr} {kk : Nat} {p1 p2 p3 p4 : Pos} {P : Value → Heap → Prop}
    (k : ET w G A f (eval x env) b m fun u b₁ => ∀ ta b₂, Ext b₁ b₂ → b₁.get? ta = none → Tp b₂ ta [u] → ET w G A f (eval e env) b₂ m fun v b₃ => ∃ a vs, v = .ref a ∧ LT b₃ a vs ∧ vs.length ≤ lim ∧ Tp b₃ ta [u] ∧
      ∀ b₄ d, Ext b₃ b₄ → (b₃.get? d = none ∨ d = ta) → Tp b₄ d (u :: vs) → P (.ref d) b₄)
    (he : eval (.Call (.Name "tuple" p2) [e] [] p3) env = (do callWith p3 (← eval (.Name "tuple" p2) env) [] (backTo p3 (starEach [e] env)) (backToKw p3 (keywordEach [] env))) := by rfl)
    (hp : (backTo p3 (starEach [e] env)).any (·.1) = false := by rfl) (hs : starEach [e] env = (false, eval e env) :: starEach [] env := by rfl) (hs2 : starEach [x] env = (false, eval x env) :: starEach [] env := by rfl) :
    ET w G A f (eval (.BinOp (.Tuple [x] kk p1) .Add (.Call (.Name "tuple" p2) [e] [] p3) p4) env) b m P := by
  have lz := lim_size
  refine e_binop (e_tuple (e_spl_cons (k.mono fun u b₁ q => e_spl_nil (c_newTuple (by simp [sizeLine]) (fun ta b₂ e₂ n₂ l₂ => ?_) _ _)) hs2))
  refine e_call (e_builtin W O hk hn hv (by decide) (e_callWith keeps3_type (e_spl_cons ((q ta b₂ e₂ n₂ l₂).mono fun v b₃ q => ?_) hs) hp)) he
  obtain ⟨a, vs, rfl, L, hz, Lt, q⟩ := q
  refine e_spl_nil (c_tuple L (by omega) (fun c b₄ e₄ l₄ => c_add_tuple (Lt.ext e₄) l₄ (by simp) (by simp; omega) (fun d b₅ e₅ l₅ hd => ?_) _ _) _ _)
  exact q b₅ d (e₄.trans e₅) (hd.imp (fun h => e₄.none h) id) l₅
end
theorem TD.sub {w : World} {b : Heap} {d : Addr} {f : Str × List Nat → Option Nat} {n : Nat} {p : Addr → Prop} (x : TD w b d f n p) : Sub b (.ref d) := by
  obtain ⟨xs, ⟨o, es, ep, h, hc, _⟩, _⟩ := x.ex
  exact ⟨"dict", _, fun s e => ⟨o, e _ _ h, hc.1⟩, PySem.F.slot_dict_getitem.lookup⟩
theorem KD.sub {w : World} {K : Type} [DecidableEq K] {knd : KeyKind PG w K} {b : Heap} {d : Addr} {f : K → Option Value} {n : Nat} (x : KD knd b d f n) : Sub b (.ref d) := by
  obtain ⟨xs, ⟨o, es, ep, h, hc, _⟩, _⟩ := x.ex
  exact ⟨"dict", _, fun s e => ⟨o, e _ _ h, hc.1⟩, PySem.F.slot_dict_getitem.lookup⟩
inductive DmOk (w : World) (G : Heap) (A : Around) (f : Fram) (env : Env) (m : Locs) (id : String) (pos : Pos) (args : List PySem.Expr) (P : Value → Heap → Prop) (ov : Value) (b₁ : Heap) : Prop
  | mk (a : Addr) (h : ov = .ref a) (hy : ∃ y, b₁.get? a = some y ∧ y.ExactDict) (q : ET w G A f (spliced (backTo pos (starEach args env))) b₁ m fun us b₂ => ET w G A f (call (.builtin id) (.ref a :: us)) b₂ m P)
/-- a dict's method -/
theorem e_dmeth {w : World} {G b : Heap} {A : Around} {f : Fram} {m : Locs} {env : Env} {o : PySem.Expr} {name : Str} {id : String} {apos pos : Pos} {args : List PySem.Expr} {pl : Sem Bool} {P : Value → Heap → Prop} (slot : Slot "dict" name id) (hty : typeOf (.builtin id) = pure (.type "method_descriptor"))
    (k : ET w G A f (eval o env) b m (DmOk w G A f env m id pos args P))
    (he : eval (.Call (.Attribute o name apos) args [] pos) env = (do
      let ov ← eval o env
      standAt apos.atName
      let (f, first) ← holding [ov] (getMethod ov name pl)
      callWith pos f first (backTo pos (starEach args env)) (backToKw pos (keywordEach [] env))) := by rfl)
    (hp : (backTo pos (starEach args env)).any (·.1) = false := by rfl) :
    ET w G A f (eval (.Call (.Attribute o name apos) args [] pos) env) b m P := e_meth (k.mono fun ov b₁ q => by
      obtain ⟨a, rfl, ⟨y, hy, hc⟩, q⟩ := q
      refine CT.still (w := w) (G := G) (A := A) (b := b₁) (P := fun (fx : Value × List Value) b₂ => ET w G A f (callWith pos fx.1 fx.2 (backTo pos (starEach args env)) []) b₂ m P) (fun s Q E e _ q' => ?_) _ _
      exact getMethod_builtin ⟨y, e _ _ hy, hc.1⟩ PySem.F.plainAttrs_dict slot hty (fun c hc' => by cases hc'; exact ⟨_, e _ _ hy, hc.2.1⟩) (q' (.builtin id, [.ref a]) s.toks (e_callWith keeps3_builtin q hp))) he
theorem TD.exact {w : World} {b : Heap} {d : Addr} {f : Str × List Nat → Option Nat} {n : Nat} {p : Addr → Prop} (x : TD w b d f n p) : ∃ y, b.get? d = some y ∧ y.ExactDict := by
  obtain ⟨xs, ⟨o, es, ep, h, hc, _⟩, _⟩ := x.ex; exact ⟨o, h, hc⟩
theorem KD.exact {w : World} {K : Type} [DecidableEq K] {knd : KeyKind PG w K} {b : Heap} {d : Addr} {f : K → Option Value} {n : Nat} (x : KD knd b d f n) : ∃ y, b.get? d = some y ∧ y.ExactDict := by
  obtain ⟨xs, ⟨o, es, ep, h, hc, _⟩, _⟩ := x.ex; exact ⟨o, h, hc⟩
/-- an environment of these names alone -/
def envOf (ns : List (Str × NameKind)) : Env := newEnv { kind := .function, names := ns, isGenerator := false, isCoroutine := false } 0 0 [] "" none .none none 0
theorem swapped_of {env : Env} {f : Fram} {ns : List (Str × NameKind)} (O : EnvOk env f ns) (t : List PySem.Expr) (v : PySem.Expr) : swappedStores t v env = swappedStores t v (envOf ns) := by
  have h1 : env.kindOf = (envOf ns).kindOf := funext fun x => (O.kindOf x).trans rfl
  have h2 : env.blockKind = (envOf ns).blockKind := by unfold Env.blockKind; rw [O.kind]; rfl
  unfold swappedStores
  rw [h1, h2]
end Mine
end
section
open PySem PySem.W PyProof.Rows PySem.Calls PySem.Spec Builtin
set_option maxRecDepth 100000
set_option linter.unusedVariables false
namespace Mine
/-! a set of at most two -/
/-- its table: slots rising, none given up -/
def tbl (led : Bool) (js : List Nat) : SetTable := { mask := 7, place := js.toArray, dummies := #[], finger := 0, led, moves := 0, plain := true }
theorem tbl_fits (led : Bool) {js : List Nat} {n : Nat} (h : js.length = n) (h2 : js.length ≤ 7) : (tbl led js).fits n = true := by
  simp [SetTable.fits, SetTable.fill, tbl, h]; omega
theorem below0 (j : Nat) : SetTable.below #[] j = 0 := rfl
theorem below1 (a j : Nat) : SetTable.below #[a] j = if a < j then 1 else 0 := by
  unfold SetTable.below
  show SetTable.below.go #[a] j 1 0 1 = _
  rw [SetTable.below.go]
  simp only [Nat.zero_lt_one, if_true]
  by_cases h : a < j
  · rw [if_pos h, if_pos (by simpa using h)]; rfl
  · rw [if_neg h, if_neg (by simpa using h)]; rfl
theorem below2 (a c j : Nat) (h : a < c) : SetTable.below #[a, c] j = if c < j then 2 else if a < j then 1 else 0 := by
  unfold SetTable.below
  show SetTable.below.go #[a, c] j 2 0 2 = _
  rw [SetTable.below.go]
  by_cases h1 : c < j
  · rw [if_pos h1]
    simp [h1]
    rw [SetTable.below.go]
    simp
  · rw [if_neg h1]
    simp [h1]
    rw [SetTable.below.go]
    by_cases h2 : a < j
    · simp [h2]; rfl
    · simp [h2]; rfl
theorem slot0 (led : Bool) (j : Nat) : (tbl led []).slot j = .empty := by
  simp [SetTable.slot, tbl, SetTable.has]
theorem slot1 (led : Bool) (a j : Nat) : (tbl led [a]).slot j = if a = j then .live 0 else .empty := by
  have hd : SetTable.has (tbl led [a]).dummies j = false := by simp [SetTable.has, tbl]
  unfold SetTable.slot
  rw [hd]
  show (if (#[a] : Array Nat)[SetTable.below #[a] j]? == some j then _ else _) = _
  rw [below1]
  by_cases h : a < j
  · rw [if_pos h]
    have hn : ¬ a = j := by omega
    simp [hn]
  · rw [if_neg h]
    by_cases he : a = j
    · subst he; simp; exact (below1 a a).trans (if_neg (Nat.lt_irrefl a))
    · simp [he]
theorem run7 {i : Nat} (h : i ≤ 7) : SetTable.runEnd 7 i = i := if_neg (by omega)
theorem adv (led : Bool) (js : List Nat) (p : SetTable.Probe) (hm : p.more = 0) : (tbl led js).advance p = { p with j := (p.i * 5 + 1 + p.perturb / 32) % 8, more := 0, i := (p.i * 5 + 1 + p.perturb / 32) % 8, perturb := p.perturb / 32 } := by
  show (if p.more > 0 then { p with j := p.j + 1, more := p.more - 1 } else { p with j := (p.i * 5 + 1 + p.perturb / 32) % 8, more := SetTable.runEnd 7 ((p.i * 5 + 1 + p.perturb / 32) % 8) - (p.i * 5 + 1 + p.perturb / 32) % 8, i := (p.i * 5 + 1 + p.perturb / 32) % 8, perturb := p.perturb / 32 }) = _
  rw [if_neg (by omega), run7 (by omega), Nat.sub_self]
theorem go1 (led : Bool) (a : Nat) (f : Nat → Int) (h : Int) (hf : ∀ i, (f i == h) = false) : ∀ (n : Nat) (p : SetTable.Probe), p.more = 0 → p.dummy = none → p.i = p.j → p.perturb < 32 ^ n →
    ∃ j, SetTable.probe.go (tbl led [a]) f h (n + 2) p = some (.empty j none) ∧ j ≠ a := by
  intro n
  induction n with
  | zero =>
    intro p hm hd hi hp
    rw [SetTable.probe.go, slot1]
    by_cases e : a = p.j
    · rw [if_pos e]
      simp only [hf, Bool.false_eq_true, if_false]
      rw [SetTable.probe.go, slot1]
      have hp0 : p.perturb = 0 := by simpa using hp
      rw [adv led [a] p hm, hp0]
      have hne : ¬ a = (p.i * 5 + 1 + 0 / 32) % 8 := by omega
      rw [if_neg hne]
      exact ⟨_, by rw [hd], fun q => hne q.symm⟩
    · rw [if_neg e]
      exact ⟨_, by rw [hd], fun q => e q.symm⟩
  | succ n ih =>
    intro p hm hd hi hp
    rw [show n + 1 + 2 = (n + 2) + 1 from rfl, SetTable.probe.go, slot1]
    by_cases e : a = p.j
    · rw [if_pos e]
      simp only [hf, Bool.false_eq_true, if_false]
      rw [adv led [a] p hm]
      refine ih _ rfl hd rfl ?_
      show p.perturb / 32 < 32 ^ n
      rw [Nat.pow_succ] at hp
      omega
    · rw [if_neg e]
      exact ⟨_, by rw [hd], fun q => e q.symm⟩
theorem bits_lt (h : Int) : SetTable.bits h < 32 ^ 218 := by
  have h1 : SetTable.bits h < 32 ^ 13 := by
    unfold SetTable.bits
    have := Int.emod_nonneg h (b := 2 ^ 64) (by decide)
    have := Int.emod_lt_of_pos h (b := 2 ^ 64) (by decide)
    omega
  exact Nat.lt_of_lt_of_le h1 (Nat.pow_le_pow_right (by decide) (by decide))
theorem free0 (led : Bool) (h : Int) : ∃ j, (tbl led []).freeSlot h = some (j, false) := by
  refine ⟨((tbl led []).probeStart h).j, ?_⟩
  unfold SetTable.freeSlot SetTable.probe
  show (match SetTable.probe.go (tbl led []) (fun _ => h + 1) h 220 ((tbl led []).probeStart h) with | some (.empty j dummy) => some (dummy.getD j, dummy.isSome) | _ => none) = _
  rw [SetTable.probe.go, slot0]
  rfl
theorem free1 (led : Bool) (a : Nat) (h : Int) : ∃ j, (tbl led [a]).freeSlot h = some (j, false) ∧ j ≠ a := by
  have hf : ∀ i : Nat, ((fun _ : Nat => h + 1) i == h) = false := fun i => beq_eq_false_iff_ne.mpr (by dsimp only; omega)
  have hst : ((tbl led [a]).probeStart h).more = 0 := by
    unfold SetTable.probeStart SetTable.runEnd
    dsimp only
    have : ¬ SetTable.bits h % ((tbl led [a]).mask + 1) + 9 ≤ (tbl led [a]).mask := by show ¬ _ ≤ 7; omega
    rw [if_neg this]; omega
  obtain ⟨j, hj, hne⟩ := go1 led a (fun _ => h + 1) h hf 218 ((tbl led [a]).probeStart h) hst rfl rfl (bits_lt h)
  refine ⟨j, ?_, hne⟩
  unfold SetTable.freeSlot SetTable.probe
  show (match SetTable.probe.go (tbl led [a]) (fun _ => h + 1) h 220 ((tbl led [a]).probeStart h) with | some (.empty j dummy) => some (dummy.getD j, dummy.isSome) | _ => none) = _
  rw [hj]; rfl
theorem put0 (led : Bool) (j : Nat) : (tbl led []).put j = (tbl led [j], 0) := by
  simp [SetTable.put, tbl, below0, SetTable.insertAt, SetTable.has]
theorem put1 (led : Bool) (a j : Nat) : (tbl led [a]).put j = if a < j then (tbl led [a, j], 1) else (tbl led [j, a], 0) := by
  have hb : SetTable.below (tbl led [a]).place j = if a < j then 1 else 0 := below1 a j
  unfold SetTable.put
  rw [hb]
  by_cases h : a < j
  · simp [h, tbl, SetTable.insertAt, SetTable.has]
  · simp [h, tbl, SetTable.insertAt, SetTable.has]
/-- one more laid -/
theorem lay0 (led : Bool) (h : Int) (x : Value) : ∃ js, js.length = 1 ∧ js.Pairwise (· < ·) ∧ layNew (tbl led []) #[] h x = (#[(h, x)], tbl led js, false, false) := by
  obtain ⟨j, hj⟩ := free0 led h
  refine ⟨[j], rfl, by simp, ?_⟩
  unfold layNew
  rw [hj]
  dsimp only
  rw [put0]
  have hfit := tbl_fits led (js := [j]) (n := 1) rfl (by simp)
  simp [SetTable.insertAt, SetTable.orStandIn, hfit]
theorem lay1 (led : Bool) (a : Nat) (e : Int × Value) (h : Int) (x : Value) : ∃ js es, js.length = 2 ∧ js.Pairwise (· < ·) ∧ (es = [e, (h, x)] ∨ es = [(h, x), e]) ∧ layNew (tbl led [a]) #[e] h x = (es.toArray, tbl led js, false, false) := by
  obtain ⟨j, hj, hne⟩ := free1 led a h
  unfold layNew
  rw [hj]
  dsimp only
  rw [put1]
  by_cases hl : a < j
  · refine ⟨[a, j], [e, (h, x)], rfl, by simpa using hl, .inl rfl, ?_⟩
    have hfit := tbl_fits led (js := [a, j]) (n := 2) rfl (by simp)
    rw [if_pos hl]
    simp [SetTable.insertAt, SetTable.orStandIn, hfit]
  · have hl' : j < a := by omega
    refine ⟨[j, a], [(h, x), e], rfl, by simpa using hl', .inr rfl, ?_⟩
    have hfit := tbl_fits led (js := [j, a]) (n := 2) rfl (by simp)
    rw [if_neg hl]
    simp [SetTable.insertAt, SetTable.orStandIn, hfit]
theorem notFull (led : Bool) {js : List Nat} (h : js.length ≤ 2) : (tbl led js).tooFull = false := by
  unfold SetTable.tooFull SetTable.fill
  simp [tbl]; omega
end Mine
end
section
open PySem PySem.W PyProof.Rows PySem.Calls PySem.Spec Builtin
set_option maxRecDepth 100000
set_option linter.unusedVariables false
namespace Mine
def setObj (es : List (Int × Value)) (ep : Nat) (t : SetTable) : Obj := { cls := .type "set", dict := none, data := .set es.toArray ep t, slots := #[] }
abbrev ledIn (w : World) : Bool := !w.params.followText "set-order"
/-- a set of a few numbers, its table as this world lays it -/
structure SetR (w : World) (b : Heap) (a : Addr) (ns : List Int) : Prop where
  ex : ∃ es js ep, b.get? a = some (setObj es ep (tbl (ledIn w) js)) ∧ IntsAre (es.map (·.2)) ns ∧ ElemsOf (intKind PG w) es ∧ js.length = es.length ∧ js.Pairwise (· < ·)
  nd : ns.Nodup
  few : ns.length ≤ 2
theorem SetR.at {w : World} {b b₁ : Heap} {a : Addr} {ns : List Int} (h : SetR w b a ns) (e : ∀ o, b.get? a = some o → b₁.get? a = some o) : SetR w b₁ a ns :=
  ⟨let ⟨es, js, ep, h1, r⟩ := h.ex; ⟨es, js, ep, e _ h1, r⟩, h.nd, h.few⟩
section
variable {w : World} {A : Around} {E : Value → Shared → Prop} {s : Shared}
theorem ints_find {es : List (Int × Value)} {ns : List Int} (h : IntsAre (es.map (·.2)) ns) (k : Int) : (es.findIdx? fun e => (intKind PG w).is k e.2).isSome = decide (k ∈ ns) := by
  induction es generalizing ns with
  | nil => cases h; rfl
  | cons e es ih =>
    obtain ⟨hh, v⟩ := e
    cases h with
    | cons n t h' =>
      rw [List.findIdx?_cons]
      have hv : (intKind PG w).is k (.int n t) = decide (k = n) := by
        show (n == k) = decide (k = n)
        by_cases q : k = n
        · subst q; simp
        · rw [decide_eq_false q]; exact beq_eq_false_iff_ne.mpr fun e => q e.symm
      dsimp only
      rw [hv]
      by_cases e : k = n
      · simp [e]
      · simp only [e, decide_false, Bool.false_eq_true, if_false, Option.isSome_map]
        rw [ih h']
        simp [e]
inductive AddOut (w : World) (es : List (Int × Value)) (js : List Nat) (ns : List Int) (k : Int) (t : Tok) : Prop
  | mk (es' : List (Int × Value)) (js' : List Nat) (ns' : List Int) (h1 : layNew (tbl (ledIn w) js) es.toArray ((intKind PG w).hash k) (.int k t) = (es'.toArray, tbl (ledIn w) js', false, false))
    (h2 : IntsAre (es'.map (·.2)) ns') (h3 : ElemsOf (intKind PG w) es') (h4 : js'.length = es'.length) (h5 : js'.Pairwise (· < ·)) (h6 : ns'.Nodup) (h7 : ∀ z, z ∈ ns' ↔ z ∈ ns ∨ z = k) (h8 : ns'.length ≤ ns.length + 1)
theorem set_add {a : Addr} {ns : List Int} {k : Int} {t : Tok} {Q : Bool → Shared → Prop} (hs : SetR w s.heap a ns) (h1 : ns.length ≤ 1)
    (hQ : ∀ r h' ns', Heap.SameBut a s.heap h' → SetR w h' a ns' → (∀ z, z ∈ ns' ↔ z ∈ ns ∨ z = k) → ns'.length ≤ ns.length + 1 → Q r { s with heap := h' }) :
    wpAny (model PG w) A (setAddHashed a (.int k t) ((intKind PG w).hash k)) Q E s := by
  obtain ⟨es, js, ep, ho, hI, hel, hjl, hup⟩ := hs.ex
  have hesl : es.length = ns.length := by have := hI.length; simpa using this
  have hkey := intKind_is PG w k t
  have hf : (tbl (ledIn w) js).fits es.toArray.size = true := tbl_fits _ (by simpa using hjl) (by omega)
  have hb : es.toArray.size < scanBound := by unfold scanBound; simp; omega
  have hel' : ElemsOf (intKind PG w) es.toArray.toList := by simpa using hel
  unfold setAddHashed setAddHashedIn
  refine wpAny_holding (wpAny_bind (wpAny_setState_of ho rfl hf ?_))
  dsimp only
  rw [byScan_of rfl hb hel']
  simp only [↓reduceIte]
  unfold setAddByScan
  refine wpAny_bind (wpAny_bind (wpAny_rule ?_))
  refine wpAny_bind (wpAny_setScan_of (knd := intKind PG w) hkey ho rfl hf hel' ?_)
  have hfd := ints_find (w := w) hI k
  cases hr : es.findIdx? (fun e => (intKind PG w).is k e.2) with
  | some j =>
    rw [hr] at hfd
    have hm : k ∈ ns := of_decide_eq_true hfd.symm
    dsimp only
    refine wpAny_pure (wpAny_pure ?_)
    exact hQ false s.heap ns (.refl a s.heap) hs (fun z => ⟨.inl, fun h => h.elim id fun e => e ▸ hm⟩) (Nat.le_succ _)
  | none =>
    rw [hr] at hfd
    have hm : k ∉ ns := of_decide_eq_false hfd.symm
    dsimp only
    obtain ⟨es', js', ns', hlay, hI', hel2, hjl', hup', hnd', hmem, hlen⟩ : AddOut w es js ns k t := by
      rcases es with _ | ⟨⟨eh, ev⟩, _ | ⟨e2, er⟩⟩
      · obtain rfl : js = [] := List.length_eq_zero_iff.mp hjl
        obtain rfl : ns = [] := List.length_eq_zero_iff.mp hesl.symm
        obtain ⟨js', h1, h2, h3⟩ := lay0 (ledIn w) ((intKind PG w).hash k) (.int k t)
        refine ⟨_, js', [k], h3, .cons _ _ .nil, ?_, h1, h2, by simp, by simp, by simp⟩
        intro e he
        rw [List.mem_singleton.mp he]
        exact ⟨⟨k, hkey, rfl⟩, rfl⟩
      · obtain ⟨j, rfl⟩ := List.length_eq_one_iff.mp hjl
        obtain ⟨n, rfl⟩ := List.length_eq_one_iff.mp hesl.symm
        obtain ⟨js', es', h1, h2, h3, h4⟩ := lay1 (ledIn w) j (eh, ev) ((intKind PG w).hash k) (.int k t)
        have hn : ¬ n = k := fun q => hm (by simp [q])
        cases hI with
        | cons _ t0 hnil =>
          have he0 := hel _ (List.mem_singleton.mpr rfl)
          rcases h3 with rfl | rfl
          · refine ⟨_, js', [n, k], h4, ?_, ?_, h1, h2, by simpa using hn, by simp, by simp⟩
            · exact .cons _ _ (.cons _ _ .nil)
            · intro e' he'
              simp at he'
              rcases he' with rfl | rfl
              · exact he0
              · exact ⟨⟨k, hkey, rfl⟩, rfl⟩
          · refine ⟨_, js', [k, n], h4, ?_, ?_, h1, h2, by simpa using fun q => hn q.symm, ?_, by simp⟩
            · exact .cons _ _ (.cons _ _ .nil)
            · intro e' he'
              simp at he'
              rcases he' with rfl | rfl
              · exact ⟨⟨k, hkey, rfl⟩, rfl⟩
              · exact he0
            · intro z; simp [or_comm]
      · exact absurd h1 (by rw [← hesl]; simp)
    rw [hlay]
    dsimp only
    refine wpAny_bind (m := (pure () : Sem Unit)) (wpAny_pure ?_)
    show wpAny _ _ (do let byValue ← hashByValue 8 (.int k t); _) _ _ _
    refine wpAny_bind ?_
    rw [hashByValue_scannable 8 rfl]
    refine wpAny_pure ?_
    dsimp only [plainKind]
    simp only [↓reduceIte]
    have hn2 : ns'.length ≤ 2 := by omega
    have hes' : es'.length = ns'.length := by have := hI'.length; simpa using this
    have hz : es'.toArray.size ≤ sizeLine := by rw [sizeLine_eq]; simp; omega
    refine wpAny_bind (wpAny_storeSet_of ho rfl ?_ hz)
    have hup2 := Heap.get?_update_self (Obj.putSet es'.toArray (tbl (ledIn w) js')) ho rfl
    have hsb := Heap.SameBut.update s.heap a (Obj.putSet es'.toArray (tbl (ledIn w) js'))
    rw [if_neg (by rw [notFull _ (by omega)]; decide)]
    refine wpAny_pure (wpAny_pure ?_)
    exact hQ true _ ns' hsb ⟨⟨es', js', ep + 1, hup2, hI', hel2, hjl', hup'⟩, hnd', hn2⟩ hmem hlen
end
end Mine
end
section
open PySem PySem.W PyProof.Rows PySem.Calls PySem.Spec Builtin
set_option maxRecDepth 100000
set_option linter.unusedVariables false
namespace Mine
section
variable {w : World} {A : Around} {E : Value → Shared → Prop} {s : Shared}
/-- filling it from a list -/
theorem set_loop {vs : List Value} {ns : List Int} (hh : A.handled = none) (hI : IntsAre vs ns) (h2 : ns.length ≤ 2) {S I l : Addr} (hSI : S ≠ I) (hSl : S ≠ l) (hlI : l ≠ I) {R : Result → Shared → Prop} :
    ∀ (k i : Nat) (s : Shared) (ms : List Int), vs.length - i = k → i ≤ vs.length → s.heap.IsListIter I l i → s.heap.IsList l vs.toArray → SetR w s.heap S ms → (∀ z, z ∈ ms ↔ z ∈ ns.take i) → ms.length ≤ i →
      (∀ h' tk ms', (∀ b o, b ≠ S → b ≠ I → s.heap.get? b = some o → h'.get? b = some o) → SetR w h' S ms' → (∀ z, z ∈ ms' ↔ z ∈ ns) → R (.ok (.ret .none)) { s with heap := h', toks := tk }) →
      codeAny (model PG w) A (.builtin "set.update.loop" ⟨[.ref S, .ref I], []⟩) R s := by
  have hlen := hI.length
  have Wk := Walks.list (prog := PG) (w := w) (A := A.in1) (by simpa using hh) I l hlI vs.toArray
  intro k
  induction k with
  | zero =>
    intro i s ms hk hi hit hl hs hm hml hR
    have hin : i = vs.length := by omega
    subst hin
    refine codeAny_builtin PyProof.Rows.F.entry_set_update_loop ?_
    rw [Around.under_plainId PyProof.Rows.F.plain_set_update_loop _]
    show wpAny _ A.in1 (pyNext (.ref I) >>= _) _ _ s
    refine wpAny_bind (Wk.done s _ _ ⟨by simpa using hit, hl⟩ fun h' tk hk' => ?_)
    show wpAny _ A.in1 (ret Value.none) _ _ _
    refine wpAny_pure (hR h' tk ms (fun b o _ hb e => hk' b o (by simpa using hb) e) (hs.at fun o e => hk' S o (by simpa using hSI) e) fun z => ?_)
    rw [hm, hlen, List.take_length]
  | succ k ih =>
    intro i s ms hk hi hit hl hs hm hml hR
    have hlt : i < vs.length := by omega
    refine codeAny_builtin PyProof.Rows.F.entry_set_update_loop ?_
    rw [Around.under_plainId PyProof.Rows.F.plain_set_update_loop _]
    show wpAny _ A.in1 (pyNext (.ref I) >>= _) _ _ s
    refine wpAny_bind (Wk.item i s _ _ (by simpa using hlt) ⟨hit, hl⟩ fun v h' tk hP st' hk' => ?_)
    obtain ⟨t, rfl⟩ := IntsAre.int_at hI i v (by simpa using hP)
    have hs' : SetR w h' S ms := hs.at fun o e => hk' S o (by simpa using hSI) e
    show wpAny _ A.in1 (holding [Value.int (ns.getD i 0) t] (setAdd S (.int (ns.getD i 0) t)) >>= _) _ _ _
    refine wpAny_bind (wpAny_holding ?_)
    unfold setAdd
    refine wpAny_holding (wpAny_bind ((intKind PG w).pyHash (k := ns.getD i 0) (intKind_is _ _ _ _) ?_))
    refine set_add (s := ⟨h', s.gens, s.drawn, tk + 1, s.os⟩) hs' (by omega) fun r h'' ms' hsb hs'' hm' hml' => ?_
    have hsb' : ∀ b o, b ≠ S → h'.get? b = some o → h''.get? b = some o := fun b o hb e => (hsb.2 b hb).trans e
    refine wpAny_pure ⟨plainId_quiet PyProof.Rows.F.plain_set_update_loop _, ih (i + 1) _ ms' (by omega) hlt ?_ ?_ hs'' (fun z => ?_) (by omega) fun h3 tk3 ms3 hk3 hs3 hm3 => ?_⟩
    · exact st'.1.at fun o e => hsb' I o (Ne.symm hSI) e
    · exact st'.2.at fun o e => hsb' l o (Ne.symm hSl) e
    · rw [hm', hm, List.take_add_one]
      have hg : ns[i]? = some (ns.getD i 0) := by rw [List.getD_eq_getElem?_getD, List.getElem?_eq_getElem (by omega)]; rfl
      rw [hg]
      simp
    · exact hR h3 tk3 ms3 (fun b o h1 h2 e => hk3 b o h1 h2 (hsb' b o h1 (hk' b o (by simpa using h2) e))) hs3 hm3
theorem new_set (a : Value) {Q₁ : Value → Shared → Prop} (h : Q₁ (.ref s.heap.objs.size) { s with heap := s.heap.push (setObj [] 0 (tbl (ledIn w) [])) }) :
    codeAny (model PG w) A (.call (.builtin "set.__new__") ⟨[.type "set", a], []⟩) (wants Q₁ E) s := by
  refine codeAny_of_tree ?_
  show wpAny _ A.in1 (do checkBuiltinCall "set.__new__" ⟨[.type "set", a], []⟩; again (.builtin "set.__new__" ⟨[.type "set", a], []⟩)) _ _ s
  refine wpAny_bind (wpAny_of_eq (PySem.F.newCall_set_1 a) (wpAny_pure ⟨plainId_quiet PySem.F.plain_set_new _, codeAny_builtin PySem.F.entry_set_new ?_⟩))
  rw [Around.under_plainId PySem.F.plain_set_new _]
  unfold Builtin.«set.__new__» Builtin.Frozenset.newClass
  have hsub := sub_set_self
  obtain ⟨hp, g, d, tk, os⟩ := s
  dsimp only at h ⊢
  wp_walk
  refine wpAny_askSetting (wpAny_pure ?_)
  dsimp only
  simp only [newObj]
  refine wpAny_bind (wpAny_alloc (wpAny_pure ?_))
  exact wpAny_pure h
end
end Mine
end
section
open PySem PySem.W PyProof.Rows PySem.Calls PySem.Spec Builtin
set_option maxRecDepth 100000
set_option linter.unusedVariables false
namespace Mine
section
variable {w : World} {A : Around} {E : Value → Shared → Prop} {s : Shared}
theorem setR_empty {h : Heap} {a : Addr} (e : h.get? a = some (setObj [] 0 (tbl (ledIn w) []))) : SetR w h a [] :=
  ⟨⟨[], [], 0, e, .nil, (fun e he => by cases he), rfl, .nil⟩, .nil, by decide⟩
/-- filling the new one -/
theorem set_init {l S : Addr} {vs : List Value} {ns : List Int} (hh : A.handled = none) (hl : s.heap.IsList l vs.toArray) (hI : IntsAre vs ns) (h2 : ns.length ≤ 2) (hS : s.heap.get? S = some (setObj [] 0 (tbl (ledIn w) []))) (hSl : S ≠ l)
    {R : Result → Shared → Prop} (hR : ∀ h' tk ms, (∀ b o, b ≠ S → s.heap.get? b = some o → h'.get? b = some o) → SetR w h' S ms → (∀ z, z ∈ ms ↔ z ∈ ns) → R (.ok (.ret .none)) { s with heap := h', toks := tk }) :
    codeAny (model PG w) A (.call (.builtin "set.__init__") ⟨[.ref S, .ref l], []⟩) R s := by
  have hT : s.TypeIs (.ref S) "set" := ⟨_, hS, rfl⟩
  refine codeAny_call_builtin PySem.F.called_set.init.plain PySem.F.entry_set_init (check_set_init_1 hT ?_)
  obtain ⟨ol, hol, hcl, nl, hdl⟩ := id hl
  obtain ⟨ocls, odict, odata, oslots⟩ := ol
  simp only at hcl hdl
  subst hcl; subst hdl
  have hsls := PySem.F.sub_list_set
  have hslf := PySem.F.sub_list_frozenset
  have hne : (Value.type "list" == Value.type "dict") = false := by decide
  unfold Builtin.«set.__init__» noKeywords Builtin.Frozenset.updateFrom
  generalize hPI : pyIter = PI
  wp_walk
  subst hPI
  refine wpAny_pyIter_list hl ?_
  refine wpAny_bind (wpAny_runValue ?_)
  have hlS : l < s.heap.objs.size := Heap.lt_size hol
  have hSS : S < s.heap.objs.size := Heap.lt_size hS
  refine set_loop (by simp [hh]) hI h2 (Nat.ne_of_lt hSS) hSl (Nat.ne_of_lt hlS) (vs.length - 0) 0 _ [] rfl (Nat.zero_le _) ⟨_, Heap.get?_push_size _ rfl, rfl, rfl⟩ (hl.push _) (setR_empty (Heap.get?_push_of_some _ hS)) (by simp) (Nat.le_refl _) fun h' tk ms hk hs hm => ?_
  refine wpAny_pure ?_
  show wpAny _ _ (ret Value.none) _ _ _
  exact wpAny_pure (hR h' tk ms (fun b o hb e => hk b o hb (Nat.ne_of_lt (Heap.lt_size e)) (Heap.get?_push_of_some _ e)) hs hm)
end
end Mine
end
section
open PySem PySem.W PyProof.Rows PySem.Calls PySem.Spec Builtin
set_option maxRecDepth 100000
set_option linter.unusedVariables false
namespace Mine
section
variable {w : World} {A : Around} {E : Value → Shared → Prop} {s : Shared}
/-- set(l) -/
theorem set_call {l : Addr} {vs : List Value} {ns : List Int} {Q : Value → Shared → Prop} (hh : A.handled = none) (hl : s.heap.IsList l vs.toArray) (hI : IntsAre vs ns) (h2 : ns.length ≤ 2)
    (hQ : ∀ h' tk ms, Ext s.heap h' → SetR w h' s.heap.objs.size ms → (∀ z, z ∈ ms ↔ z ∈ ns) → Q (.ref s.heap.objs.size) { s with heap := h', toks := tk }) : wpAny (model PG w) A (call (.type "set") [.ref l]) Q E s := by
  obtain ⟨c, tl, hmro⟩ := PySem.F.called_set.mro
  have hmade := PySem.F.called_set.made
  have hsub := PySem.F.called_set.sub
  refine wpAny_call (codeAny_of_tree ?_)
  show wpAny _ _ (callAny (.type "set") _) _ _ _
  refine wpAny_pure ⟨Code.quiet_builtin _ (by decide +kernel), codeAny_builtin PySem.F.entry_type_call ?_⟩
  rw [Around.under_plain (weight_type_call_type "set" [.ref l] []) rfl]
  have h1 := PySem.F.called_set.notType
  have h2' := PySem.F.called_set.canCreate
  have hct := PySem.F.typeCall_set_1 (.ref l)
  repeat (any_goals (first | assumption | wp_step))
  refine codeAny_mono (new_set (.ref l) (E := E) (Q₁ := fun obj s₁ => obj = .ref s.heap.objs.size ∧ s₁ = { s with heap := s.heap.push (setObj [] 0 (tbl (ledIn w) [])) }) ⟨rfl, rfl⟩) fun r s₁ hr => ?_
  match r, hr with
  | .error e, hr => exact hr
  | .ok .next, hr => exact hr.elim
  | .ok .cont, hr => exact hr.elim
  | .ok .brk, hr => exact hr.elim
  | .ok (.ret obj), hr =>
    obtain ⟨rfl, rfl⟩ := hr
    have hS : (s.heap.push (setObj [] 0 (tbl (ledIn w) []))).get? s.heap.objs.size = some (setObj [] 0 (tbl (ledIn w) [])) := Heap.get?_push_size _ rfl
    have hT : Shared.TypeIs { s with heap := s.heap.push (setObj [] 0 (tbl (ledIn w) [])) } (.ref s.heap.objs.size) "set" := ⟨_, hS, rfl⟩
    have hli := PySem.F.called_set.init.lookup
    have hbi := PySem.F.called_set.init.bind (.ref s.heap.objs.size)
    have hlS : l < s.heap.objs.size := by obtain ⟨ol, hol, _⟩ := hl; exact Heap.lt_size hol
    repeat (any_goals (first | assumption | wp_step))
    refine codeAny_mono (set_init (R := wants (fun r s₂ => r = .none ∧ ∃ h' tk ms, s₂ = { s with heap := h', toks := tk } ∧ Ext s.heap h' ∧ SetR w h' s.heap.objs.size ms ∧ ∀ z, z ∈ ms ↔ z ∈ ns) E) (by simp [hh]) (hl.push _) hI h2 hS (Nat.ne_of_gt hlS) fun h' tk ms hk hs hm => ?_) fun r₂ s₂ hr₂ => ?_
    · exact ⟨rfl, h', tk, ms, rfl, fun b o e => hk b o (Nat.ne_of_lt (Heap.lt_size e)) (Heap.get?_push_of_some _ e), hs, hm⟩
    · match r₂, hr₂ with
      | .error e, hr₂ => exact hr₂
      | .ok .next, hr₂ => exact hr₂.elim
      | .ok .cont, hr₂ => exact hr₂.elim
      | .ok .brk, hr₂ => exact hr₂.elim
      | .ok (.ret obj), hr₂ =>
        obtain ⟨rfl, h', tk, ms, rfl, hk, hs, hm⟩ := hr₂
        repeat (any_goals (first | assumption | wp_step))
        exact hQ h' tk ms hk hs hm
end
end Mine
end
section
open PySem PySem.W PyProof.Rows PySem.Calls PySem.Spec Builtin
set_option maxRecDepth 100000
set_option linter.unusedVariables false
namespace Mine
/-! going through a set -/
theorem ent_set_iter : entryFor table "set.__iter__" = some Builtin.«frozenset.__iter__» := entryFor_alias (id' := "frozenset.__iter__") (by kernel_rfl) rfl (by decide +kernel) (by kernel_rfl)
theorem own_si : Manifest.owners.lookup (String.ofList ['r', 'o', 't', 'a', 'r', 'e', 't', 'i', '_', 't', 'e', 's'].reverse) = some Manifest.sig_set_iterator := by kernel_rfl
theorem slot_si_next : Slot "set_iterator" "__next__" "set_iterator.__next__" :=
  .of (owner := "set_iterator") (n := "__next__") (by rw [typeLookup_type, builtinLookup_eq_fast]; kernel_rfl) (by decide +kernel) (by decide +kernel) (by decide +kernel)
    (by first | exact .inl (by decide +kernel) | exact .inr (by decide +kernel)) (by rw [isSubtype_type]; kernel_rfl)
theorem ent_si_next : entryFor table "set_iterator.__next__" = some Builtin.«set_iterator.__next__» := entryFor_of_tree (by kernel_rfl)
theorem args_si_next (a : Value) : argsOk "set_iterator.__next__" ⟨[a], []⟩ := by
  unfold argsOk; rw [signature?_of (id := "set_iterator.__next__") (n := ['_', '_', 't', 'x', 'e', 'n', '_', '_']) (o := ['r', 'o', 't', 'a', 'r', 'e', 't', 'i', '_', 't', 'e', 's']) (by kernel_rfl) own_si]; kernel_rfl
theorem slot_si_iter : Slot "set_iterator" "__iter__" "set_iterator.__iter__" :=
  .of (owner := "set_iterator") (n := "__iter__") (by rw [typeLookup_type, builtinLookup_eq_fast]; kernel_rfl) (by decide +kernel) (by decide +kernel) (by decide +kernel)
    (by first | exact .inl (by decide +kernel) | exact .inr (by decide +kernel)) (by rw [isSubtype_type]; kernel_rfl)
theorem ent_si_iter : entryFor table "set_iterator.__iter__" = some Builtin.«dict_keyiterator.__iter__» := entryFor_alias (id' := "dict_keyiterator.__iter__") (by kernel_rfl) rfl (by decide +kernel) (by kernel_rfl)
theorem args_si_iter (a : Value) : argsOk "set_iterator.__iter__" ⟨[a], []⟩ := by
  unfold argsOk; rw [signature?_of (id := "set_iterator.__iter__") (n := ['_', '_', 'r', 'e', 't', 'i', '_', '_']) (o := ['r', 'o', 't', 'a', 'r', 'e', 't', 'i', '_', 't', 'e', 's']) (by kernel_rfl) own_si]; kernel_rfl
/-! the order -/
theorem erase_perm {α : Type} : ∀ (l : List α) (i : Nat) (h : i < l.length), (l[i] :: l.eraseIdx i).Perm l
  | a :: l, 0, _ => .refl _
  | a :: l, i + 1, h => (List.Perm.swap a _ _).trans (List.Perm.cons a (erase_perm l i (by simpa using h)))
theorem pick_perm {α : Type} (next : Nat → Nat) : ∀ (fuel k : Nat) (left : List α) (out : Array α), left.length = fuel → (pickOrder.go next fuel k left out).toList.Perm (out.toList ++ left)
  | 0, k, left, out, h => by
    rw [List.length_eq_zero_iff.mp h, pickOrder.go]; simp
  | fuel + 1, k, left, out, h => by
    have hlt : next k % left.length < left.length := Nat.mod_lt _ (by omega)
    rw [pickOrder.go, List.getElem?_eq_getElem hlt]
    dsimp only
    refine (pick_perm next fuel (k + 1) _ _ (by rw [List.length_eraseIdx_of_lt hlt]; omega)).trans ?_
    rw [Array.toList_push, List.append_assoc]
    exact List.Perm.append_left _ (erase_perm left _ hlt)
/-- the items as this world gives them -/
noncomputable def ordOf (w : World) (a : Addr) (ep : Nat) (es : List (Int × Value)) : List (Int × Value) :=
  if w.params.followText "set-order" then (pickOrder (w.params.setOrder a ep) es.toArray).toList else es
theorem ordOf_perm (w : World) (a : Addr) (ep : Nat) (es : List (Int × Value)) : (ordOf w a ep es).Perm es := by
  unfold ordOf
  split
  · unfold pickOrder
    simpa using pick_perm (w.params.setOrder a ep) es.length 0 es #[] rfl
  · exact .refl _
def slotAt (js : List Nat) : Nat → Nat
  | 0 => 0
  | i + 1 => js.getD i 0 + 1
theorem below_at {js : List Nat} (h2 : js.length ≤ 2) (hup : js.Pairwise (· < ·)) {i : Nat} (hi : i ≤ js.length) : SetTable.below js.toArray (slotAt js i) = i := by
  match js, h2, hup, i, hi with
  | [], _, _, 0, _ => rfl
  | [a], _, _, 0, _ => exact (below1 a 0).trans (if_neg (Nat.not_lt_zero _))
  | [a], _, _, 1, _ => exact (below1 a (a + 1)).trans (if_pos (Nat.lt_succ_self _))
  | [a, c], _, hup, 0, _ => exact (below2 a c 0 (by simpa using hup)).trans ((if_neg (Nat.not_lt_zero _)).trans (if_neg (Nat.not_lt_zero _)))
  | [a, c], _, hup, 1, _ =>
    have h : a < c := by simpa using hup
    exact (below2 a c (a + 1) h).trans ((if_neg (by omega)).trans (if_pos (Nat.lt_succ_self _)))
  | [a, c], _, hup, 2, _ => exact (below2 a c (c + 1) (by simpa using hup)).trans (if_pos (Nat.lt_succ_self _))
  | _ :: _ :: _ :: _, h2, _, _, _ => simp at h2
def iterObj (w : World) (js : List Nat) (S n ep i : Nat) : Obj :=
  { cls := .type "set_iterator", data := .fields #[.int (if w.params.followText "set-order" then 0 else (slotAt js i : Nat)) 0, .int i 0, .ref S, .int n 0, .int ep 0] }
section
variable {w : World} {A : Around} {E : Value → Shared → Prop} {s : Shared} {S I : Addr} {es : List (Int × Value)} {js : List Nat} {ep : Nat}
theorem set_pyIter {Q : Value → Shared → Prop} (ho : s.heap.get? S = some (setObj es ep (tbl (ledIn w) js))) (hjl : js.length = es.length) (h2 : es.length ≤ 2)
    (hQ : Q (.ref s.heap.objs.size) { s with heap := s.heap.push (iterObj w js S es.length ep 0) }) : wpAny (model PG w) A (pyIter (.ref S)) Q E s := by
  have hT : s.TypeIs (.ref S) "set" := ⟨_, ho, rfl⟩
  have hf : (tbl (ledIn w) js).fits es.toArray.size = true := tbl_fits _ (by simpa using hjl) (by omega)
  refine wpAny_pyIter_slot hT PySem.F.slot_set_iter (wpAny_call_entry PySem.F.slot_set_iter hT ent_set_iter ?_ (PySem.F.args_set_iter_1 _))
  show wpAny _ _ (do
    let n ← Builtin.Frozenset.sizeOf S
    let first ← if ← setDrawn S then newTuple ((← drawOrder n (List.range n)).map fun (i : Nat) => rawInt i) else pure (rawInt 0)
    ret (← newFields "set_iterator" [first, rawInt 0, .ref S, rawInt n, rawInt (← setEpoch S)])) _ _ s
  unfold Builtin.Frozenset.sizeOf
  refine wpAny_bind (wpAny_bind (wpAny_setEntries_of ho rfl hf (wpAny_pure ?_)))
  unfold setDrawn setsByText
  refine wpAny_bind (wpAny_bind (wpAny_setState_of ho rfl hf (wpAny_bind (wpAny_bind (wpAny_askSetting (wpAny_pure ?_))))))
  dsimp only
  refine wpAny_pure ?_
  refine wpAny_ite_split (fun hab => ?_) (fun _ => ?_)
  · have h3 : (!(tbl (ledIn w) js).plain && decide (es.toArray.size > 1)) = true := (Bool.and_eq_true_iff.mp hab).2
    exact absurd h3 (by simp [tbl])
  refine wpAny_bind (wpAny_pure (wpAny_bind (wpAny_setEpoch_of ho rfl hf (wpAny_bind (wpAny_newObj_type (wpAny_pure ⟨_, rfl, "set_iterator", _, ⟨_, Heap.get?_push_size _ rfl, rfl⟩, slot_si_next.lookup, ?_⟩))))))
  have hz : (if w.params.followText "set-order" then (0 : Int) else (slotAt js 0 : Nat)) = 0 := by split <;> rfl
  have he : iterObj w js S es.length ep 0 = { cls := .type "set_iterator", data := .fields [rawInt 0, rawInt 0, .ref S, rawInt es.toArray.size, rawInt ep].toArray } := by
    unfold iterObj
    rw [hz]
    simp [rawInt]
  rw [he] at hQ
  exact hQ
end
end Mine
end
section
open PySem PySem.W PyProof.Rows PySem.Calls PySem.Spec Builtin
set_option maxRecDepth 100000
set_option linter.unusedVariables false
namespace Mine
def slotOf (w : World) (js : List Nat) (i : Nat) : Nat := if w.params.followText "set-order" then 0 else slotAt js i
theorem slotOf_int (w : World) (js : List Nat) (i : Nat) : (if w.params.followText "set-order" then (0 : Int) else (slotAt js i : Nat)) = (slotOf w js i : Nat) := by unfold slotOf; split <;> rfl
section
variable {w : World} {A : Around} {E : Value → Shared → Prop} {s : Shared} {S I : Addr} {es : List (Int × Value)} {js : List Nat} {ep i : Nat}
theorem set_nextAt {Q : Option (Value × Nat) → Shared → Prop} (ho : s.heap.get? S = some (setObj es ep (tbl (ledIn w) js))) (hjl : js.length = es.length) (h2 : es.length ≤ 2) (hup : js.Pairwise (· < ·)) (hi : i ≤ es.length)
    (hQ : Q ((ordOf w S ep es)[i]?.map fun e => (e.2, slotOf w js (i + 1))) s) : wpAny (model PG w) A (setNext S (slotOf w js i) i ep) Q E s := by
  have hf : (tbl (ledIn w) js).fits es.toArray.size = true := tbl_fits _ (by simpa using hjl) (by omega)
  unfold setNext
  refine wpAny_bind (wpAny_setState_of ho rfl hf ?_)
  dsimp only
  unfold setsByText
  refine wpAny_bind (wpAny_bind (wpAny_askSetting (wpAny_pure ?_)))
  dsimp only
  cases hbt : w.params.followText "set-order" with
  | true =>
    have hbt' : (model PG w).w.params.followText "set-order" = true := hbt
    rw [if_pos hbt', if_neg (by simp)]
    unfold setWalk
    refine wpAny_bind (wpAny_bind (wpAny_setState_of ho rfl hf ?_))
    dsimp only
    unfold setsByText
    refine wpAny_bind (wpAny_bind (wpAny_askSetting (wpAny_pure ?_)))
    dsimp only
    rw [if_pos hbt']
    refine wpAny_bind (wpAny_askSetting (wpAny_pure (wpAny_pure ?_)))
    have e1 : ordOf w S ep es = (pickOrder (w.params.setOrder S ep) es.toArray).toList := by unfold ordOf; rw [if_pos hbt]
    have e2 : ∀ k, slotOf w js k = 0 := fun k => by unfold slotOf; rw [if_pos hbt]
    rw [e1, e2] at hQ
    rw [e2]
    rw [Array.getElem?_toList] at hQ
    exact hQ
  | false =>
    have hbt' : ¬ (model PG w).w.params.followText "set-order" = true := by show ¬ w.params.followText "set-order" = true; rw [hbt]; decide
    rw [if_neg hbt']
    refine wpAny_ite_split (fun hab => ?_) (fun _ => ?_)
    · have h3 : (!(tbl (ledIn w) js).plain && decide (es.toArray.size > 1)) = true := hab
      exact absurd h3 (by simp [tbl])
    refine wpAny_bind (m := (if (!(tbl (ledIn w) js).led && !es.toArray.isEmpty) = true then (unsupported "set:maker-not-led" : Sem Unit) else pure ())) ?_
    rw [if_neg (by simp [tbl, ledIn, hbt])]
    refine wpAny_pure (wpAny_pure ?_)
    have e1 : ordOf w S ep es = es := by unfold ordOf; rw [if_neg (by rw [hbt]; decide)]
    have e2 : ∀ k, slotOf w js k = slotAt js k := fun k => by unfold slotOf; rw [if_neg (by rw [hbt]; decide)]
    rw [e1, e2] at hQ
    rw [e2]
    have hb : SetTable.below (tbl (ledIn w) js).place (slotAt js i) = i := below_at (by omega) hup (by omega)
    rw [hb]
    by_cases hlt : i < es.length
    · have hj : (tbl (ledIn w) js).place[i]? = some js[i] := by show js.toArray[i]? = _; simp
      have he : es.toArray[i]? = some es[i] := by simp
      rw [he, hj]
      rw [List.getElem?_eq_getElem hlt] at hQ
      have hs : slotAt js (i + 1) = js[i] + 1 := by show js.getD i 0 + 1 = _; rw [List.getD_eq_getElem?_getD, List.getElem?_eq_getElem (by omega)]; rfl
      rw [hs] at hQ
      exact hQ
    · have he : es.toArray[i]? = none := by simp; omega
      rw [he]
      rw [List.getElem?_eq_none (by omega)] at hQ
      exact hQ
theorem iter_data (k : Nat) : (iterObj w js S es.length ep k).data = .fields #[.int (slotOf w js k : Nat) 0, .int k 0, .ref S, .int es.length 0, .int ep 0] := by
  unfold iterObj; rw [slotOf_int]
theorem set_pyNext {Q : Option Value → Shared → Prop} (ho : s.heap.get? S = some (setObj es ep (tbl (ledIn w) js))) (hjl : js.length = es.length) (h2 : es.length ≤ 2) (hup : js.Pairwise (· < ·)) (hit : s.heap.get? I = some (iterObj w js S es.length ep i)) (hi : i < es.length)
    (hQ : ∀ v h', (ordOf w S ep es)[i]?.map (·.2) = some v → h'.get? I = some (iterObj w js S es.length ep (i + 1)) → Heap.SameBut I s.heap h' → Q (some v) { s with heap := h' }) : wpAny (model PG w) A (pyNext (.ref I)) Q E s := by
  have hT : s.TypeIs (.ref I) "set_iterator" := ⟨_, hit, rfl⟩
  have hf : (tbl (ledIn w) js).fits es.toArray.size = true := tbl_fits _ (by simpa using hjl) (by omega)
  unfold pyNext
  refine wpAny_bind (wpAny_attempt (wpAny_callSpecial?_slot (name := Str.ofString "__next__") hT slot_si_next (wpAny_call_entry slot_si_next hT ent_si_next ?_ (args_si_next _))))
  show wpAny _ _ (fieldsOf (.ref I) >>= _) _ _ s
  refine wpAny_bind (wpAny_fieldsOf hit (iter_data i) ?_)
  dsimp only
  refine wpAny_bind (wpAny_setEntries_of ho rfl hf ?_)
  refine wpAny_ite_split (fun hab => absurd hab (by simp)) (fun _ => ?_)
  refine wpAny_bind ?_
  simp only [Int.toNat_natCast]
  refine set_nextAt ho hjl h2 hup (Nat.le_of_lt hi) ?_
  have hlo : (ordOf w S ep es).length = es.length := (ordOf_perm w S ep es).length_eq
  rw [List.getElem?_eq_getElem (by omega), Option.map_some]
  dsimp only
  refine wpAny_bind (wpAny_setField hit (iter_data i) (by simp) ?_)
  have h1 : (s.heap.update I (Obj.mapFields (·.setIfInBounds 0 (rawInt (slotOf w js (i + 1) : Nat))))).get? I = some { iterObj w js S es.length ep i with data := .fields #[.int (slotOf w js (i + 1) : Nat) 0, .int i 0, .ref S, .int es.length 0, .int ep 0] } := by
    have := Heap.get?_update_self (Obj.mapFields (·.setIfInBounds 0 (rawInt (slotOf w js (i + 1) : Nat)))) hit rfl
    rw [this]
    congr 1
  refine wpAny_bind (wpAny_setField h1 rfl (by simp) ?_)
  refine wpAny_pure ⟨_, rfl, wpAny_pure ?_⟩
  refine hQ _ _ ?_ ?_ ((Heap.SameBut.update ..).trans (Heap.SameBut.update ..))
  · rw [List.getElem?_eq_getElem (by omega)]; rfl
  · have := Heap.get?_update_self (Obj.mapFields (·.setIfInBounds 1 (rawInt ((i : Int) + 1)))) h1 rfl
    rw [this]
    simp only [iterObj, slotOf_int]
    rfl
theorem set_pyEnd {Q : Option Value → Shared → Prop} (hh : A.handled = none) (ho : s.heap.get? S = some (setObj es ep (tbl (ledIn w) js))) (hjl : js.length = es.length) (h2 : es.length ≤ 2) (hup : js.Pairwise (· < ·)) (hit : s.heap.get? I = some (iterObj w js S es.length ep es.length))
    (hQ : ∀ h', Heap.ExtBut I s.heap h' → Q none { s with heap := h' }) : wpAny (model PG w) A (pyNext (.ref I)) Q E s := by
  have hT : s.TypeIs (.ref I) "set_iterator" := ⟨_, hit, rfl⟩
  have hf : (tbl (ledIn w) js).fits es.toArray.size = true := tbl_fits _ (by simpa using hjl) (by omega)
  unfold pyNext
  refine wpAny_bind (wpAny_attempt (wpAny_callSpecial?_slot (name := Str.ofString "__next__") hT slot_si_next (wpAny_call_entry slot_si_next hT ent_si_next ?_ (args_si_next _))))
  show wpAny _ _ (fieldsOf (.ref I) >>= _) _ _ s
  refine wpAny_bind (wpAny_fieldsOf hit (iter_data es.length) ?_)
  dsimp only
  refine wpAny_bind (wpAny_setEntries_of ho rfl hf ?_)
  refine wpAny_ite_split (fun hab => absurd hab (by simp)) (fun _ => ?_)
  refine wpAny_bind ?_
  simp only [Int.toNat_natCast]
  refine set_nextAt ho hjl h2 hup (Nat.le_refl _) ?_
  have hlo : (ordOf w S ep es).length = es.length := (ordOf_perm w S ep es).length_eq
  rw [List.getElem?_eq_none (by omega), Option.map_none]
  dsimp only
  refine wpAny_bind (wpAny_setField hit (iter_data es.length) (by simp) ?_)
  show wpAny _ _ (newExc (.type "StopIteration") [] >>= _) _ _ _
  refine wpAny_bind ?_
  simp only [newExc, newTuple]
  refine wpAny_bind (wpAny_newObj_type ?_ (by size_fits))
  refine wpAny_bind (m := firstArgMember _ _) (wpAny_of_eq (a := Value.none) (by first | rfl | (simp only [firstArgMember]; rfl)) ?_)
  refine wpAny_newObj_type ?_ (by size_fits)
  simp only [raiseNew]
  refine wpAny_bind (wpAny_handled ?_)
  rw [show A.in1.handled = none from hh]
  refine wpAny_bind (wpAny_pure (wpAny_throw ?_))
  refine wpAny_bind (wpAny_isInstance (T := "StopIteration") (b := true) ⟨_, Heap.get?_push_size _ rfl, rfl⟩ isSubtype_stop ?_)
  exact wpAny_pure (hQ _ (((Heap.SameBut.update ..).extBut.push _).push _))
end
end Mine
end
section
open PySem PySem.W PyProof.Rows PySem.Calls PySem.Spec Builtin
set_option maxRecDepth 100000
set_option linter.unusedVariables false
namespace Mine
theorem ints_perm {vs vs' : List Value} (p : vs.Perm vs') : ∀ {ns : List Int}, IntsAre vs ns → ∃ ns', IntsAre vs' ns' ∧ ns'.Perm ns := by
  induction p with
  | nil => intro ns h; exact ⟨ns, h, .refl _⟩
  | cons x _ ih =>
    intro ns h
    cases h with
    | cons n t h => obtain ⟨ms, h1, h2⟩ := ih h; exact ⟨n :: ms, .cons n t h1, .cons n h2⟩
  | swap x y l =>
    intro ns h
    cases h with
    | cons n t h => cases h with
      | cons k u h => exact ⟨_, .cons k u (.cons n t h), .swap ..⟩
  | trans _ _ ih1 ih2 =>
    intro ns h
    obtain ⟨ms, h1, h2⟩ := ih1 h
    obtain ⟨ks, h3, h4⟩ := ih2 h1
    exact ⟨ks, h3, h4.trans h2⟩
section
variable {w : World} {A : Around} {E : Value → Shared → Prop} {s : Shared} {S I : Addr} {es : List (Int × Value)} {js : List Nat} {ep i : Nat}
theorem set_walks (hh : A.handled = none) (hne : S ≠ I) (hjl : js.length = es.length) (h2 : es.length ≤ 2) (hup : js.Pairwise (· < ·)) :
    Walks PG w A I [I, S] [I] es.length (fun i v => (ordOf w S ep es)[i]?.map (·.2) = some v) (fun i h => h.get? I = some (iterObj w js S es.length ep i) ∧ h.get? S = some (setObj es ep (tbl (ledIn w) js))) where
  sub := fun b hb => by simp at hb; simp [hb]
  frame := fun _ _ _ st hk => ⟨hk I (by simp) _ st.1, hk S (by simp) _ st.2⟩
  item := fun i s Q E hi st hQ => set_pyNext st.2 hjl h2 hup st.1 hi fun v h' hv hit hs => hQ v h' s.toks hv ⟨hit, (hs.2 S hne).trans st.2⟩ fun b o hb e => (hs.2 b (fun q => hb (by simp [q]))).trans e
  done := fun s Q E st hQ => set_pyEnd hh st.2 hjl h2 hup st.1 fun h' he => hQ h' s.toks fun b o hb e => he b o (fun q => hb (by simp [q])) e
  self := fun i s Q E st hQ => by
    have hT : s.TypeIs (.ref I) "set_iterator" := ⟨_, st.1, rfl⟩
    refine wpAny_pyIter_slot hT slot_si_iter (wpAny_call_entry slot_si_iter hT ent_si_iter ?_ (args_si_iter _))
    show wpAny _ _ (ret (.ref I)) _ _ s
    exact wpAny_pure ⟨_, rfl, "set_iterator", _, hT, slot_si_next.lookup, hQ⟩
theorem set_hint {Q : Bool → Shared → Prop} (hT : s.TypeIs (.ref S) "set") (h : Q false s) : wpAny (model PG w) A (Builtin.List.listLengthHint (.ref S)) Q E s := by
  unfold Builtin.List.listLengthHint
  refine wpAny_bind (wpAny_specialOf hT PySem.F.slot_set_len.lookup ?_)
  generalize hid : ("set.__len__" : String) = id0
  wp_delta
  rw [show splitId id0 = some ("set", "__len__") from by subst hid; decide +kernel]
  subst hid
  refine wpAny_bind (wpAny_isInstance (T := "set") (b := true) hT (by rw [isSubtype_type]; kernel_rfl) ?_)
  refine wpAny_ite_split (fun hab => absurd hab (by decide)) (fun _ => ?_)
  refine wpAny_ite_split (fun _ => ?_) (fun hab => absurd (by decide +kernel) hab)
  exact wpAny_bind (wpAny_typeOf hT (wpAny_pure h))
theorem set_src (hjl : js.length = es.length) (h2 : es.length ≤ 2) (hup : js.Pairwise (· < ·)) :
    KdlSrc PG w "set" S S es.length (fun i v => (ordOf w S ep es)[i]?.map (·.2) = some v) (fun h => h.get? S = some (setObj es ep (tbl (ledIn w) js))) where
  type := fun _ hm => ⟨_, hm, rfl⟩
  there := fun _ hm => ⟨Heap.lt_size hm, Heap.lt_size hm⟩
  keep := fun _ _ hm hk => hk S (.inl rfl) _ hm
  notList := by decide
  notTuple := by decide
  hint := fun _ _ _ _ hm hq => set_hint ⟨_, hm, rfl⟩ hq
  iter := fun _ s hh hm => ⟨_, _, (fun _ _ hq => set_pyIter hm hjl h2 hq), set_walks (ep := ep) hh (Nat.ne_of_lt (Heap.lt_size hm)) hjl h2 hup, ⟨Heap.get?_push_size _ rfl, Heap.get?_push_of_some _ hm⟩⟩
/-- a list as collected -/
def Got (s : Shared) (n : Nat) (P : Nat → Value → Prop) (r : Result) (s' : Shared) : Prop :=
  r = .ok (.ret (.ref s.heap.objs.size)) ∧ ∃ h' tk acc c, s' = { s with heap := h', toks := tk } ∧ Ext s.heap h' ∧ h'.get? s.heap.objs.size = some { cls := .type "list", dict := none, data := .seq acc c, slots := #[] } ∧ ItemsOf P acc n
theorem collect_set {Q : List Value → Shared → Prop} (hh : A.handled = none) (ho : s.heap.get? S = some (setObj es ep (tbl (ledIn w) js))) (hjl : js.length = es.length) (h2 : es.length ≤ 2) (hup : js.Pairwise (· < ·))
    (hQ : ∀ h' tk, Ext s.heap h' → Q ((ordOf w S ep es).map (·.2)) { s with heap := h', toks := tk }) : wpAny (model PG w) A (collect (.ref S)) Q E s := by
  have hlt : S < s.heap.objs.size := Heap.lt_size ho
  have hlo : (ordOf w S ep es).length = es.length := (ordOf_perm w S ep es).length_eq
  have hS₁ : (s.heap.push { cls := .type "list", data := .seq ([] : List Value).toArray }).get? s.heap.objs.size = some { cls := .type "list", data := .seq #[] } := Heap.get?_push_size _ rfl
  have run : codeAny (model PG w) A (.builtin "proto.collect" ⟨[.ref S], []⟩) (Got s es.length fun i v => (ordOf w S ep es)[i]?.map (·.2) = some v) s := by
    refine codeAny_builtin PySem.F.entry_proto_collect ?_
    rw [Around.under_plainId PySem.F.plain_proto_collect _]
    show wpAny _ A.in1 (newList [] >>= fun l => again (.builtin "list.__iadd__" ⟨[l, .ref S], []⟩)) _ _ s
    refine wpAny_bind (wpAny_newObj_type ?_)
    refine wpAny_pure ⟨plainId_quiet PySem.F.plain_list_iadd _, codeAny_builtin PySem.F.entry_list_iadd ?_⟩
    rw [Around.under_plainId PySem.F.plain_list_iadd _]
    show wpAny _ A.in1 (Builtin.List.listExtendWith (.ref s.heap.objs.size) (.ref S) (.ref s.heap.objs.size)) _ _ _
    exact kdl_extend (R := Got s es.length fun i v => (ordOf w S ep es)[i]?.map (·.2) = some v) (s := { s with heap := s.heap.push { cls := .type "list", data := .seq ([] : List Value).toArray } }) (set_src (ep := ep) hjl h2 hup) hh (Heap.get?_push_of_some _ ho) s.heap.objs.size (Nat.ne_of_gt hlt) (Nat.ne_of_gt hlt) _ 0 hS₁
      (fun h' tk acc' c' hk hS hacc => ⟨rfl, h', tk, acc', c', rfl, fun b o e => hk b o (Nat.ne_of_lt (Heap.lt_size e)) (Heap.get?_push_of_some _ e), hS, hacc⟩) (by rw [sizeLine_eq]; omega)
  unfold collect
  refine wpAny_bind (wpAny_runValue (codeAny_mono run fun r s' hr => ?_))
  obtain ⟨rfl, h', tk, acc', c', rfl, hk, hS, hacc⟩ := hr
  show wpAny _ A (load s.heap.objs.size >>= _) _ _ _
  refine wpAny_bind (wpAny_load hS ?_)
  have hacc' : acc'.toList = (ordOf w S ep es).map (·.2) := by
    apply List.ext_getElem?
    intro j
    by_cases hj : j < es.length
    · have hja : j < acc'.size := by rw [hacc.1]; exact hj
      have h1 : acc'[j]? = some acc'[j] := Array.getElem?_eq_getElem hja
      have := hacc.2 j _ h1
      rw [Array.getElem?_toList, h1, List.getElem?_map, this]
    · rw [Array.getElem?_toList, Array.getElem?_eq_none (by rw [hacc.1]; omega), List.getElem?_eq_none (by simp; omega)]
  have := hQ h' tk hk
  rw [← hacc'] at this
  exact wpAny_pure this
/-- sorted(s) -/
theorem sorted_set {ns : List Int} {Q : Value → Shared → Prop} (hh : A.handled = none) (hs : SetR w s.heap S ns)
    (hQ : ∀ h' tk c vs ms e, Ext s.heap h' → s.heap.get? c = none → h'.get? c = some (seqObj "list" vs.toArray e) → IntsAre vs ms → ms.Perm ns → Q (.ref c) { s with heap := h', toks := tk }) : wpAny (model PG w) A (call (.builtin "sorted") [.ref S]) Q E s := by
  obtain ⟨es, js, ep, ho, hI, hel, hjl, hup⟩ := hs.ex
  have hesl : es.length = ns.length := by have := hI.length; simpa using this
  have h2 : es.length ≤ 2 := by rw [hesl]; exact hs.few
  obtain ⟨ms, hI', hp'⟩ := ints_perm ((ordOf_perm w S ep es).symm.map (·.2)) hI
  have hvl : ((ordOf w S ep es).map (·.2)).length = es.length := by rw [List.length_map]; exact (ordOf_perm w S ep es).length_eq
  refine Calls.call_function_entry kind_sorted plain_sorted entry_sorted (args_sorted1 _) ?_
  unfold Builtin.«sorted»
  refine wpAny_bind (m := checkCount "sorted" 1 1 _) (wpAny_pure ?_)
  refine wpAny_bind (collect_set (by simp [hh]) ho hjl h2 hup fun h' tk hk => ?_)
  generalize (ordOf w S ep es).map (·.2) = vs at hI' hvl ⊢
  refine wpAny_bind (wpAny_newList ?_ (by rw [sizeLine_eq]; omega))
  have hoL : (h'.push (seqObj "list" vs.toArray 0)).get? h'.objs.size = some (seqObj "list" vs.toArray 0) := Heap.get?_push_size _ rfl
  show wpAny _ _ _ _ _ { s with heap := h'.push (seqObj "list" vs.toArray 0), toks := tk }
  refine wpAny_bind (wpAny_holding (wpAny_call_entry slot_list_sort ⟨_, hoL, rfl⟩ entry_list_sort (list_sort_tree hoL hI' (by omega) fun out ns' a1 a2 a3 => ⟨_, rfl, ?_⟩) (args_list_sort _)))
  obtain ⟨e, he⟩ := sortedHeap_at (out := out) hoL
  have fresh : s.heap.get? h'.objs.size = none := by
    cases q : s.heap.get? h'.objs.size with
    | none => rfl
    | some o => exact absurd (Heap.lt_size (hk _ _ q)) (Nat.lt_irrefl _)
  refine wpAny_pure ⟨_, rfl, hQ _ tk h'.objs.size out.toList ns' e (fun b o q => ?_) fresh (by simpa using he) a1 (a2.trans hp')⟩
  have hb := Heap.lt_size (hk _ _ q)
  rw [sortedHeap_old (Nat.ne_of_lt hb) (by rw [size_push']; exact Nat.lt_succ_of_lt hb)]
  exact Heap.get?_push_of_some _ (hk _ _ q)
end
section
variable {w : World} {G b : Heap} {A : Around} {n : Nat}
theorem c_set {a : Addr} {vs : List Value} {ns : List Int} {P : Value → Heap → Prop} (hh : A.handled = none) (x : Ls b a vs) (N : IntsAre vs ns) (h2 : ns.length ≤ 2)
    (k : ∀ c b₁ ms, Ext b b₁ → b.get? c = none → SetR w b₁ c ms → (∀ z, z ∈ ms ↔ z ∈ ns) → P (.ref c) b₁) : CT w G A (call (.type "set") [.ref a]) b P :=
  CT.new fun s Q E e _ q => set_call hh (x.ext e).is N h2 fun h' tk ms hk hs hm => q _ h' tk hk fun b₁ e₁ hn => by
    have fresh : s.heap.get? s.heap.objs.size = none := Heap.get?_none_of_le (Nat.le_refl _)
    obtain ⟨es, js, ep, ho, r⟩ := hs.ex
    have h1 := hn _ _ fresh ho
    exact k _ b₁ ms e₁ h1.1 ⟨⟨es, js, ep, h1.2, r⟩, hs.nd, hs.few⟩ hm
theorem c_sorted_set {a : Addr} {ns : List Int} {P : Value → Heap → Prop} (hh : A.handled = none) (x : SetR w b a ns)
    (k : ∀ c b₁ vs ms, Ext b b₁ → b.get? c = none → Ls b₁ c vs → IntsAre vs ms → ms.Perm ns → P (.ref c) b₁) : CT w G A (call (.builtin "sorted") [.ref a]) b P :=
  CT.new fun s Q E e _ q => sorted_set hh (x.at fun o ho => e _ _ ho) fun h' tk c vs ms ep hk hc ho hI hp => q _ h' tk hk fun b₁ e₁ hn => by
    have h1 := hn _ _ hc ho
    exact k c b₁ vs ms e₁ h1.1 ⟨ep, h1.2⟩ hI hp
end
end Mine
end
section
open PySem PySem.W PyProof.Rows PySem.Calls PySem.Spec Builtin
set_option maxRecDepth 100000
set_option linter.unusedVariables false
namespace Mine
inductive EnumOk (w : World) (G : Heap) (A : Around) (f : Fram) (env : Env) (elts : List PySem.Expr) (kk : Nat) (tp : Pos) (body : List Stmt) (P : Flow → Heap → Locs → Prop) (m : Locs) (xv : Value) (b₂ : Heap) : Prop
  | mk (l : Addr) (vs : List Value) (e it : Addr) (hx : xv = .ref e) (he : IsEnum b₂ e it 0 .none) (hit : b₂.IsListIter it l 0) (ge : G.get? e = none) (gi : G.get? it = none) (hei : e ≠ it) (hle : l ≠ e) (hli : l ≠ it) (L : Ls b₂ l vs)
      (J : Nat → Heap → Locs → Prop) (j0 : ∀ b₁, (∀ c o, c ≠ e → c ≠ it → b₂.get? c = some o → b₁.get? c = some o) → J 0 b₁ m) (jd : ∀ i b' m', J i b' m' → ∀ o, b₂.get? l = some o → b'.get? l = some o)
      (turn : ∀ i b' m' v T t l', J i b' m' → vs[i]? = some v → ∀ b'', Ext b' b'' → b''.IsTuple T #[.int (Int.ofNat i) t, v] → TT w G A (f.more l') (assign (.Tuple elts kk tp) env (.ref T)) b'' m' fun _ b₃ m₃ => TT w G A (f.more l') (execs body env) b₃ m₃ (Turn J P i))
      (fin : ∀ b' m', J vs.length b' m' → P .next b' m')
section
variable {w : World} {G b : Heap} {A : Around} {f : Fram} {m : Locs} {env : Env} {n : Nat}
theorem c_enumerate {l : Addr} {vs : List Value} {P : Value → Heap → Prop} (L : Ls b l vs)
    (k : ∀ e it b₂, Ext b b₂ → b.get? e = none → b.get? it = none → G.get? e = none → G.get? it = none → e ≠ it → IsEnum b₂ e it 0 .none → b₂.IsListIter it l 0 → P (.ref e) b₂) : CT w G A (call (.type "enumerate") [.ref l]) b P := by
  refine CT.new fun s Q E ex gx q => call_enumerate_list (L.ext ex).is fun h' he hit hz hk => q (.ref (s.heap.objs.size + 1)) h' s.toks hk fun b₁ e₁ hn => ?_
  have f1 : s.heap.get? (s.heap.objs.size + 1) = none := Heap.get?_none_of_le (Nat.le_succ _)
  have f2 : s.heap.get? s.heap.objs.size = none := Heap.get?_none_of_le (Nat.le_refl _)
  obtain ⟨oi, hoi, r⟩ := id hit
  have h1 := hn _ _ f1 he
  have h2 := hn _ _ f2 hoi
  exact k _ _ b₁ e₁ h1.1 h2.1 (Ext.none gx f1) (Ext.none gx f2) (Nat.ne_of_gt (Nat.lt_succ_self _)) h1.2 ⟨oi, h2.2, r⟩
theorem c_unpack_is {a : Addr} {vs : Array Value} {P : List Value → Heap → Prop} (hh : A.handled = none) (x : b.IsTuple a vs) (hn : n = vs.size) (k : P vs.toList b) : CT w G A (unpackItems (.ref a) n none) b P := by
  subst hn
  obtain ⟨o, ho, r⟩ := x
  refine CT.grow fun s Q E e _ q => ?_
  exact wpAny_unpackItems_tuple (Q := Q) (E := E) (w := w) (prog := PG) hh ⟨o, e _ _ ho, r⟩ fun h' hs => q vs.toList h' s.toks (fun c o y => hs c o (Nat.ne_of_lt (Heap.lt_size y)) y) k
/-- (x, y) = v at a for's head -/
theorem t_into {elts : List PySem.Expr} {kk : Nat} {tpos : Pos} {v : Value} {P : Unit → Heap → Locs → Prop} {l : List (Value → Sem Unit)}
    (k : ET w G A f (unpackItems v l.length none) b m fun vs b₂ => TT w G A f (assignInOrder l vs) b₂ m P) (hl : assignEach elts env = l.map fun t => (false, t) := by rfl) :
    TT w G A f (assign (.Tuple elts kk tpos) env v) b m P := by
  intro s Q E F c
  rw [arm_assign_Tuple]
  refine wpAny_bind (wpAny_standAt ?_)
  unfold unpack
  have h1 : (assignEach elts env).length = l.length := by rw [hl]; simp
  have h2 : (assignEach elts env).map (·.2) = l := by rw [hl]; simp [Function.comp_def]
  have h3 : (assignEach elts env).findIdx? (·.1) = none := by rw [hl, List.findIdx?_eq_none_iff]; intro x hx; obtain ⟨t, _, rfl⟩ := List.mem_map.mp hx; rfl
  rw [h1, h2, h3]
  exact wpAny_bind (wpAny_holding (k _ _ E F fun vs h₂ tk₂ b₂ F₂ p₂ => p₂ _ _ E F₂ c))
inductive EnumJ (s : Shared) (G : Heap) (f : Fram) (l e it : Addr) (vs : List Value) (J : Nat → Heap → Locs → Prop) (k' : Nat) (s' : Shared) : Prop
  | mk (i : Nat) (h' : Heap) (tk : Nat) (b' : Heap) (m' : Locs) (o o' : Obj) (h1 : s' = { s with heap := h', toks := tk }) (h2 : k' = vs.length - i) (h3 : i ≤ vs.length) (h4 : Fm G b' (f.more [(e, o), (it, o')]) h' m') (h5 : (∃ old, IsEnum h' e it i old) ∧ h'.IsListIter it l i ∧ h'.IsList l vs.toArray) (h6 : J i b' m')
theorem t_for_enum {elts : List PySem.Expr} {kk : Nat} {tp : Pos} {iter : PySem.Expr} {body : List Stmt} {pos : Pos} {P : Flow → Heap → Locs → Prop} (hh : A.handled = none)
    (k : ET w G A f (eval iter env) b m fun xv b₂ => EnumOk w G A f env elts kk tp body P m xv b₂)
    (hs : ∀ x, foldedSetIterable iter env x = pure x := by intro _; rfl) : TT w G A f (exec (.For (.Tuple elts kk tp) iter body [] pos) env) b m P := by
  intro s Q E F kk'
  refine wpAny_For (k s _ E F fun xv h₁ tk b₂ F₁ p => ?_) hs
  obtain ⟨l, vs, e, it, rfl, he, hit, ge, gi, hei, hle, hli, L, J, j0, jd, turn, fin⟩ := p
  obtain ⟨oi, hoi, hir⟩ := id hit
  have nfe := F₁.not_fa he
  have nfi := F₁.not_fa hoi
  have W := WalksT.enumerate (prog := PG) (w := w) hh e it l hei hle hli vs.toArray
  -- the base without the two
  have F₃ : Fm G (hideAll b₂ [e, it]) f h₁ m := F₁.move (fun _ _ _ x => x) (fun c o x => F₁.keep c o (of_hideAll _ x)) (fun c hc => by
      cases q : (hideAll b₂ [e, it]).get? c with
      | none => rfl
      | some o => have := of_hideAll _ q; rw [F₁.out c hc] at this; cases this)
    fun c o x => hideAll_get _ (F₁.base c o x) fun hc => by
      rcases List.mem_cons.mp hc with hce | hc
      · subst c; rw [ge] at x; cases x
      · rw [List.mem_singleton.mp hc, gi] at x; cases x
  have be : (hideAll b₂ [e, it]).get? e = none := hideAll_none _ (by simp)
  have bi : (hideAll b₂ [e, it]).get? it = none := hideAll_none _ (by simp)
  have hst0 : ((∃ old, IsEnum h₁ e it (0 : Nat) old) ∧ h₁.IsListIter it l 0 ∧ h₁.IsList l vs.toArray) := ⟨⟨.none, F₁.keep _ _ he⟩, ⟨oi, F₁.keep _ _ hoi, hir⟩, (L.ext fun c o x => F₁.keep c o x).is⟩
  have lb : ∀ o, b₂.get? l = some o → (hideAll b₂ [e, it]).get? l = some o := fun o x => hideAll_get _ x (by simp [hle, hli])
  obtain ⟨ol, hol⟩ := L.live
  refine W.self 0 _ _ _ hst0 ?_
  refine codeAny_forLoop_any (EnumJ s G f l e it vs J) ?_ vs.length ?_
  · rintro k' s' ⟨i, h', tk', b', m', o, o', rfl, rfl, hi, F', st, j⟩
    have nbe : b'.get? e = none := F'.out e (f.fa_more_l (by simp))
    have nbi : b'.get? it = none := F'.out it (f.fa_more_l (by simp))
    by_cases hlt : i < vs.length
    · refine W.item i _ _ _ (by simpa using hlt) st fun T vals h₃ tk₃ pv hT hTt mid k₃ => ?_
      obtain ⟨t, x, hx, rfl⟩ := pv
      have hTe := W.apart i T h₃ mid
      have hTe1 : T ≠ e := fun q => hTe (by simp [q])
      have hTi1 : T ≠ it := fun q => hTe (by simp [q])
      have k₃' : ∀ c o, c ≠ e → c ≠ it → h'.get? c = some o → h₃.get? c = some o := fun c o h1 h2 x => k₃ c o (by simp [h1, h2]) x
      have nT : h'.get? T = none := Heap.get?_none_of_le hT
      obtain ⟨nbT, nfT⟩ := F'.fresh nT
      obtain ⟨oT, hoT, hTr⟩ := id hTt
      -- behind the owned tuple's going
      have F₄ : ∀ h₄, (∀ c o, c ≠ e → c ≠ it → h'.get? c = some o → h₄.get? c = some o) → ∀ oe oi, h₄.get? e = some oe → h₄.get? it = some oi → Fm G b' (f.more [(e, oe), (it, oi)]) h₄ m' := fun h₄ k₄ oe oi h1 h2 =>
        (F'.less.move (fun c hc o x => k₄ c o (fun q => nfe (q ▸ hc)) (fun q => nfi (q ▸ hc)) x) (fun c o x => k₄ c o (fun q => by rw [q, nbe] at x; cases x) (fun q => by rw [q, nbi] at x; cases x) (F'.keep c o x)) F'.less.out F'.base).hide
          (by simpa using ⟨h1, h2⟩) (by simpa using ⟨⟨nbe, nfe⟩, nbi, nfi⟩)
      refine W.go elts _ _ i T _ _ _ mid fun h₄ st₄ k₄ => ?_
      obtain ⟨⟨old₄, he₄⟩, hit₄, hl₄⟩ := id st₄
      obtain ⟨oi₄, hoi₄, _⟩ := id hit₄
      have k₄' : ∀ c o, c ≠ e → c ≠ it → h₃.get? c = some o → h₄.get? c = some o := fun c o h1 h2 x => k₄ c o (by simp [h1, h2]) x
      have F₅ := F₄ h₄ (fun c o h1 h2 x => k₄' c o h1 h2 (k₃' c o h1 h2 x)) _ _ he₄ hoi₄
      have q := F₅.rebase (h₁ := h₄) (S := fun _ => False) .refl (fun _ h => h.elim) (fun _ h => h.elim)
      have hT₄ : h₄.get? T = some oT := k₄' T oT hTe1 hTi1 hoT
      have nfT' : T ∉ (f.more [(e, { cls := .type "enumerate", dict := none, data := .fields #[.none, .bool false, .ref it, rawInt ((i : Nat) + 1 : Nat), .none, old₄], slots := #[] }), (it, oi₄)]).fa := fun hc => by
        rcases f.fa_more hc with hc | hc
        · simp at hc; rcases hc with hc | hc; exact hTe1 hc; exact hTi1 hc
        · exact nfT (f.fa_more' hc)
      have lb' := jd i b' m' j ol hol
      refine turn i b' m' x T t _ j (by simpa using hx) _ (fun c o x => q.2 c o id x) ⟨oT, hideAll_get _ hT₄ nfT', hTr⟩ _ _ _ q.1 fun _ h₆ tk₆ b₆ m₆ F₆ p₆ => ?_
      refine p₆ _ _ _ F₆ fun fl h₇ tk₇ b₇ m₇ F₇ p₇ => ?_
      have cont : J (i + 1) b₇ m₇ → ∃ m, m < vs.length - i ∧ EnumJ s G f l e it vs J m { s with heap := h₇, toks := tk₇ } := fun j₇ => by
        refine ⟨vs.length - (i + 1), Nat.sub_lt_sub_left hlt (Nat.lt_succ_self i), i + 1, h₇, tk₇, b₇, m₇, _, _, rfl, rfl, hlt, F₇, ?_, j₇⟩
        refine W.frame (i + 1) h₄ h₇ st₄ fun c hc o x => ?_
        simp only [List.mem_cons, List.not_mem_nil, or_false] at hc
        rcases hc with hc | hc | hc <;> subst c
        · rw [he₄] at x; cases x; exact F₇.hid (_, _) (by simp [Fram.more])
        · rw [hoi₄] at x; cases x; exact F₇.hid (_, _) (by simp [Fram.more])
        · have e1 := F₅.keep _ ol lb'
          rw [e1] at x; cases x
          exact F₇.keep _ _ (jd _ _ _ j₇ ol hol)
      cases fl with
      | next => exact cont p₇
      | cont => exact cont p₇
      | brk => exact kk' _ h₇ tk₇ b₇ m₇ F₇.less p₇
      | ret v => exact kk' _ h₇ tk₇ b₇ m₇ F₇.less p₇
    · have hin : i = vs.length := Nat.le_antisymm hi (Nat.ge_of_not_lt hlt)
      subst i
      refine W.done _ _ _ (by simpa using st) fun h₃ tk₃ k₃ => ?_
      have F₄ : Fm G b' f h₃ m' := F'.less.move (fun c hc o x => k₃ c o (by simp; exact ⟨fun q => nfe (q ▸ hc), fun q => nfi (q ▸ hc)⟩) x) (fun c o x => k₃ c o (by simp; exact ⟨fun q => (by rw [q, nbe] at x; cases x), fun q => (by rw [q, nbi] at x; cases x)⟩) (F'.keep c o x)) F'.less.out F'.base
      exact wpAny_execs_nil (kk' _ h₃ tk₃ b' m' F₄ (fin b' m' j))
  · exact ⟨0, h₁, tk, _, m, _, _, rfl, by simp, Nat.zero_le _, F₃.hide (l := [(e, _), (it, _)]) (by simpa using ⟨F₁.keep _ _ he, F₁.keep _ _ hoi⟩) (by simpa using ⟨⟨be, nfe⟩, bi, nfi⟩), hst0, j0 _ fun c o h1 h2 x => hideAll_get _ x (by simp [h1, h2])⟩
end
end Mine
end
section
/-! the plain law of the law's own classes -/
set_option linter.unusedVariables false
namespace Mine
/-- q holds together what is told, and what is built alike of what it holds together -/
structure Closed {Op : Type} (rows : List (Op × List Nat)) (told : List (Nat × Nat)) (q : Nat → Nat) : Prop where
  like : ∀ (i j : Nat) (a c : Op × List Nat), rows[i]? = some a → rows[j]? = some c → a.1 = c.1 → a.2.map q = c.2.map q → q i = q j
  told : ∀ x ∈ told, q x.1 = q x.2
structure PInv {Op : Type} (rows : List (Op × List Nat)) (told : List (Nat × Nat)) (p : List Nat) : Prop where
  len : p.length = rows.length
  le : ∀ i x : Nat, p[i]? = some x → x ≤ i
  idem : ∀ i x : Nat, p[i]? = some x → p[x]? = some x
  sound : ∀ q : Nat → Nat, Closed rows told q → ∀ i x : Nat, p[i]? = some x → q x = q i
def pk {Op : Type} (p : List Nat) (a : Op × List Nat) : Op × List Nat := (a.1, a.2.map fun x => p.getD x 0)
/-- the two are to be put together -/
def Link {Op : Type} (rows : List (Op × List Nat)) (told : List (Nat × Nat)) (p : List Nat) (one other : Nat) : Prop :=
  p.getD one 0 ≠ p.getD other 0 ∧ ((∃ a c, rows[one]? = some a ∧ rows[other]? = some c ∧ pk p a = pk p c) ∨ (one, other) ∈ told ∨ (other, one) ∈ told)
def mrg (p : List Nat) (low top : Nat) : List Nat := p.map fun z => if z = top then low else z
def cnt (p : List Nat) : Nat := ((List.range p.length).filter fun i => decide (p[i]? = some i)).length
theorem filter_lt {l : List Nat} {f g : Nat → Bool} (h : ∀ x ∈ l, g x = true → f x = true) {y : Nat} (hy : y ∈ l) (hf : f y = true) (hg : g y = false) : (l.filter g).length < (l.filter f).length := by
  induction l with
  | nil => cases hy
  | cons x l ih =>
    have h' : ∀ z ∈ l, g z = true → f z = true := fun z hz => h z (List.mem_cons_of_mem _ hz)
    have hle : (l.filter g).length ≤ (l.filter f).length := by
      clear ih hy
      induction l with
      | nil => exact Nat.le_refl _
      | cons z l ih =>
        have h1 := h' z (List.mem_cons_self ..)
        have := ih (fun x hx => h x (by rcases List.mem_cons.mp hx with rfl | hx; exact List.mem_cons_self ..; exact List.mem_cons_of_mem _ (List.mem_cons_of_mem _ hx))) fun x hx => h' x (List.mem_cons_of_mem _ hx)
        simp only [List.filter_cons]
        cases hz : g z with
        | true => rw [h1 hz]; simp; exact this
        | false => cases f z <;> simp <;> omega
    rcases List.mem_cons.mp hy with rfl | hy
    · simp only [List.filter_cons, hf, hg]; simp; omega
    · have := ih h' hy
      have h1 := h x (List.mem_cons_self ..)
      simp only [List.filter_cons]
      cases hz : g x with
      | true => rw [h1 hz]; simp; exact this
      | false => cases f x <;> simp <;> omega
section
variable {Op : Type} {rows : List (Op × List Nat)} {told : List (Nat × Nat)} {p : List Nat}
theorem pinv_start (hk : True) : PInv rows told (List.range rows.length) := by
  refine ⟨by simp, fun i x h => ?_, fun i x h => ?_, fun q _ i x h => ?_⟩
  all_goals (have hi := (List.getElem?_eq_some_iff.mp h).1; simp at hi; rw [List.getElem?_range hi] at h; cases h)
  · exact Nat.le_refl _
  · exact List.getElem?_range hi
  · rfl
theorem mrg_get {low top i : Nat} : (mrg p low top)[i]? = (p[i]?).map fun z => if z = top then low else z := by simp [mrg]
theorem pinv_mrg (h : PInv rows told p) {one other : Nat} (h1 : one < rows.length) (h2 : other < rows.length) (hl : Link rows told p one other) (hkids : ∀ (i : Nat) (a : Op × List Nat), rows[i]? = some a → ∀ x ∈ a.2, x < rows.length) :
    PInv rows told (mrg p (min (p.getD one 0) (p.getD other 0)) (max (p.getD one 0) (p.getD other 0))) ∧ cnt (mrg p (min (p.getD one 0) (p.getD other 0)) (max (p.getD one 0) (p.getD other 0))) < cnt p := by
  obtain ⟨hne, hl⟩ := hl
  obtain ⟨u, hu⟩ : ∃ u, p[one]? = some u := ⟨_, List.getElem?_eq_getElem (by rw [h.len]; exact h1)⟩
  obtain ⟨v, hv⟩ : ∃ v, p[other]? = some v := ⟨_, List.getElem?_eq_getElem (by rw [h.len]; exact h2)⟩
  have eu : p.getD one 0 = u := by simp [List.getD, hu]
  have ev : p.getD other 0 = v := by simp [List.getD, hv]
  rw [eu, ev] at hne ⊢
  have fu := h.idem one u hu
  have fv := h.idem other v hv
  -- what every closed q says of the two
  have huv : ∀ q : Nat → Nat, Closed rows told q → q u = q v := fun q hq => by
    have qu := h.sound q hq one u hu
    have qv := h.sound q hq other v hv
    rw [qu, qv]
    rcases hl with ⟨a, c, ha, hc, hk⟩ | hm | hm
    · refine hq.like one other a c ha hc (show (pk p a).1 = (pk p c).1 from congrArg Prod.fst hk) ?_
      have hk2 : a.2.map (fun x => p.getD x 0) = c.2.map (fun x => p.getD x 0) := congrArg Prod.snd hk
      have key : ∀ (i : Nat) (r : Op × List Nat), rows[i]? = some r → r.2.map q = (r.2.map fun x => p.getD x 0).map q := fun i r hr => by
        rw [List.map_map]
        refine List.map_congr_left fun x hx => ?_
        obtain ⟨y, hy⟩ : ∃ y, p[x]? = some y := ⟨_, List.getElem?_eq_getElem (by rw [h.len]; exact hkids i r hr x hx)⟩
        have := h.sound q hq x y hy
        simp [List.getD, hy, this]
      rw [key one a ha, key other c hc, hk2]
    · exact hq.told _ hm
    · exact (hq.told _ hm).symm
  generalize hlo : min u v = lo
  generalize hto : max u v = to
  have hlt : lo < to := hlo ▸ hto ▸ (show min u v < max u v from (Nat.lt_or_gt_of_ne hne).elim (fun h => by rw [Nat.min_eq_left (Nat.le_of_lt h), Nat.max_eq_right (Nat.le_of_lt h)]; exact h) (fun h => by rw [Nat.min_eq_right (Nat.le_of_lt h), Nat.max_eq_left (Nat.le_of_lt h)]; exact h))
  have flo : p[lo]? = some lo := by rcases Nat.le_total u v with h | h; rw [← hlo, Nat.min_eq_left h]; exact fu; rw [← hlo, Nat.min_eq_right h]; exact fv
  have fto : p[to]? = some to := by rcases Nat.le_total u v with h | h; rw [← hto, Nat.max_eq_right h]; exact fv; rw [← hto, Nat.max_eq_left h]; exact fu
  have hlt2 : ∀ q : Nat → Nat, Closed rows told q → q lo = q to := fun q hq => by
    have := huv q hq
    rcases Nat.le_total u v with h | h
    · rw [← hlo, ← hto, Nat.min_eq_left h, Nat.max_eq_right h]; exact this
    · rw [← hlo, ← hto, Nat.min_eq_right h, Nat.max_eq_left h]; exact this.symm
  refine ⟨⟨by simp [mrg, h.len], fun i x hx => ?_, fun i x hx => ?_, fun q hq i x hx => ?_⟩, ?_⟩
  · rw [mrg_get] at hx
    obtain ⟨z, hz, e⟩ := Option.map_eq_some_iff.mp hx
    have := h.le i z hz
    by_cases hzt : z = to
    · simp [hzt] at e; omega
    · simp [hzt] at e; omega
  · rw [mrg_get] at hx ⊢
    obtain ⟨z, hz, e⟩ := Option.map_eq_some_iff.mp hx
    have := h.idem i z hz
    by_cases hzt : z = to
    · simp [hzt] at e; subst e
      rw [flo]
      have : ¬ lo = to := by omega
      simp [this]
    · simp [hzt] at e; subst e
      rw [this]; simp [hzt]
  · rw [mrg_get] at hx
    obtain ⟨z, hz, e⟩ := Option.map_eq_some_iff.mp hx
    have := h.sound q hq i z hz
    by_cases hzt : z = to
    · simp [hzt] at e; subst e; rw [hlt2 q hq, ← hzt]; exact this
    · simp [hzt] at e; subst e; exact this
  · have hln : (mrg p lo to).length = p.length := by simp [mrg]
    unfold cnt
    rw [hln]
    have hto' : to < p.length := (List.getElem?_eq_some_iff.mp fto).1
    refine filter_lt (fun x hx hg => ?_) (y := to) (by simpa using hto') (by simpa using fto) ?_
    · have hg' : (mrg p lo to)[x]? = some x := by simpa using hg
      rw [mrg_get] at hg'
      obtain ⟨z, hz, e⟩ := Option.map_eq_some_iff.mp hg'
      by_cases hzt : z = to
      · simp [hzt] at e
        subst e
        simpa using flo
      · simp [hzt] at e; subst e; simpa using hz
    · have : ¬ (mrg p lo to)[to]? = some to := by
        rw [mrg_get, fto]; simp; omega
      simpa using this
theorem closed_of (h : PInv rows told p) (hkids : ∀ (i : Nat) (a : Op × List Nat), rows[i]? = some a → ∀ x ∈ a.2, x < rows.length) (htold : ∀ x ∈ told, x.1 < rows.length ∧ x.2 < rows.length)
    (hno : ∀ one, one < rows.length → ∀ other, other < one → ¬ Link rows told p one other) : Closed rows told fun x => p.getD x 0 := by
  have key : ∀ one, one < rows.length → ∀ other, other < rows.length → ((∃ a c, rows[one]? = some a ∧ rows[other]? = some c ∧ pk p a = pk p c) ∨ (one, other) ∈ told ∨ (other, one) ∈ told) → p.getD one 0 = p.getD other 0 := by
    intro one h1 other h2 hh
    rcases Nat.lt_trichotomy other one with hlt | heq | hgt
    · exact Classical.byContradiction fun hne => hno one h1 other hlt ⟨hne, hh⟩
    · rw [heq]
    · refine (Classical.byContradiction fun hne => hno other h2 one hgt ⟨hne, ?_⟩ : p.getD other 0 = p.getD one 0).symm
      rcases hh with ⟨a, c, ha, hc, hk⟩ | hm | hm
      · exact .inl ⟨c, a, hc, ha, hk.symm⟩
      · exact .inr (.inr hm)
      · exact .inr (.inl hm)
  refine ⟨fun i j a c ha hc h1 h2 => ?_, fun x hx => ?_⟩
  · exact key i (List.getElem?_eq_some_iff.mp ha).1 j (List.getElem?_eq_some_iff.mp hc).1 (.inl ⟨a, c, ha, hc, Prod.ext h1 h2⟩)
  · exact key _ (htold x hx).1 _ (htold x hx).2 (.inr (.inl hx))
/-- the least classes are one alone -/
theorem same_places (h : PInv rows told p) (hc : Closed rows told fun x => p.getD x 0) {q : Nat → Nat} (hq : Closed rows told q) (hle : ∀ i, i < rows.length → q i ≤ i) (hs : ∀ f : Nat → Nat, Closed rows told f → ∀ i, i < rows.length → f (q i) = f i) :
    ∀ i, i < rows.length → q i = p.getD i 0 := by
  intro i hi
  obtain ⟨x, hx⟩ : ∃ x, p[i]? = some x := ⟨_, List.getElem?_eq_getElem (by rw [h.len]; exact hi)⟩
  have e : p.getD i 0 = x := by simp [List.getD, hx]
  have h1 := h.sound q hq i x hx
  have hxi := h.le i x hx
  have h2 := hs _ hc i hi
  have hqi : q i < rows.length := Nat.lt_of_le_of_lt (hle i hi) hi
  obtain ⟨y, hy⟩ : ∃ y, p[q i]? = some y := ⟨_, List.getElem?_eq_getElem (by rw [h.len]; exact hqi)⟩
  have e2 : p.getD (q i) 0 = y := by simp [List.getD, hy]
  have hyq := h.le _ _ hy
  have h3 : y = x := by rw [← e2, ← e]; exact h2
  have h4 := hle x (Nat.lt_of_le_of_lt hxi hi)
  rw [e]; omega
end
end Mine
end
local macro_rules | `(tactic| omega) => `(tactic| first | assumption | exact Mine.o1 (by assumption) | exact Mine.o2 (by assumption) (by assumption) | exact Mine.o3 (by assumption) (by assumption) (by assumption) | exact Mine.o4 (by assumption) | exact Mine.o5 (by assumption) (by assumption) | exact Mine.o6 (by assumption) (by assumption) (by assumption) | exact Mine.o7 (by assumption) (by assumption) (by assumption) (by assumption) | exact Mine.o8 (by assumption) (by assumption) | exact Mine.o9 (by assumption) (by assumption) | exact Mine.o10 (by assumption) (by assumption) (by assumption) | exact Mine.o11 (by assumption) (by assumption) | exact Mine.o12 (by assumption) (by assumption) | exact Mine.o13 (by assumption) (by assumption) | exact Mine.o14 (by assumption) (by assumption) | exact Mine.o15 (by assumption) (by assumption) | exact Mine.o16 (by assumption) | exact Mine.o17 (by assumption) | exact Mine.o18 | exact Mine.o22 (by assumption) (by assumption) | exact Mine.o28 (by assumption) | exact Mine.o29 (by assumption) (by assumption) | exact Mine.o30 (by assumption) (by assumption) (by assumption) | exact Nat.le_trans (by assumption) (by assumption) | exact Nat.lt_trans (by assumption) (by assumption) | exact Nat.lt_of_lt_of_le (by assumption) (by assumption) | exact Nat.lt_of_le_of_lt (by assumption) (by assumption) | exact Mine.q1 (by assumption) (by assumption) (by decide) | exact Mine.q2 (by assumption) (by assumption) (by assumption) (by decide) | exact Mine.q3 (by assumption) (by assumption) (by assumption) (by assumption) (by decide) | exact Mine.q4 (by assumption) (by assumption) (by assumption) (by decide) | exact Mine.q5 (by assumption) (by assumption) (by decide) | exact Mine.q6 (by assumption) (by assumption) (by assumption) (by decide) | exact Mine.q7 (by assumption) (by assumption) (by assumption) (by assumption) (by decide) | exact Mine.q8 (by assumption) (by assumption) (by assumption) (by decide) | exact Mine.q8' (by assumption) (by assumption) (by assumption) (by decide) | exact Mine.q9 (by assumption) | exact Mine.q10 (by assumption) (by assumption) (by assumption) (by decide) | exact Mine.q11 (by assumption) | exact Mine.q12 (by assumption) (by assumption) (by assumption) (by assumption) (by decide) | exact Mine.q13 (by assumption) (by assumption) | exact Mine.q14 (by assumption) (by assumption) (by assumption) (by decide) | exact Mine.q15 (by assumption) (by assumption) (by decide) | exact Mine.q17 (by assumption) (by assumption) (by assumption) (by decide) | exact Mine.q19 (by assumption) (by decide) | exact Mine.q20 (by assumption) (by assumption) (by decide) | exact Nat.le_trans (by assumption) (by decide) | exact Nat.lt_of_lt_of_le (by assumption) (by decide) | fail)
section
open PySem PySem.W PyProof.Rows PySem.Calls PySem.Spec Builtin
set_option maxRecDepth 100000
set_option linter.unusedVariables false
namespace Mine

/-! the unions -/
structure RU (b : Heap) (o : Own) (M : Mem) (S : St) : Prop where
  inst : FI b o M.un cUnions [("merged", .ref M.um), ("lots", .ref M.ul), ("above", .ref M.ua)]
  ua : OLN b o .ua M.ua S.par
  ul : ∃ vs, OL b o .ul M.ul vs ∧ vs.length = S.lots.length ∧ ∀ i n, S.lots[i]? = some n → ∃ a us, vs[i]? = some (.ref a) ∧ OL b o (.lot i) a us ∧ us.length = n
  um : ∃ vs, OL b o .um M.um vs ∧ vs.length = S.mc
theorem RU.move {T : Role → Prop} {b b₁ : Heap} {o o₁ : Own} {M : Mem} {S : St} (h : RU b o M S) (m : Mv T b o b₁ o₁) (hT : ∀ r, T r → r.d ≠ 0) : RU b₁ o₁ M S where
  inst := h.inst.move m
  ua := h.ua.move m fun t => hT _ t rfl
  ul := let ⟨vs, l, n, k⟩ := h.ul; ⟨vs, l.move m fun t => hT _ t rfl, n, fun i n e => let ⟨a, us, p, q, r⟩ := k i n e; ⟨a, us, p, q.move m fun t => hT _ t rfl, r⟩⟩
  um := let ⟨vs, l, n⟩ := h.um; ⟨vs, l.move m fun t => hT _ t rfl, n⟩
theorem RU.ext {b b₁ : Heap} {o : Own} {M : Mem} {S : St} (h : RU b o M S) (e : Ext b b₁) : RU b₁ o M S := h.move (T := fun _ => False) (.ext e) fun _ h => h.elim

section
variable {w : World} {G b : Heap} {A : Around} {n : Nat} {o : Own} {M : Mem} {S : St}
theorem un_size (W : Wld (KK w) G) (hA : AOk (n + 1) A) (R : RU b o M S) (hz : S.par.length ≤ lim) : DT w G A (.call (.ref 251) ⟨[.ref M.un], []⟩) b fun v b₁ => b = b₁ ∧ ∃ t, v = .int (Int.ofNat S.par.length) t := by
  obtain ⟨vs, L, N⟩ := R.ua.ls
  refine call_def (binds := [("self", .ref M.un)]) W (fn_un_size w) hA (fun _ _ _ _ _ => rfl) rfl fun L' hid env O => ?_
  exact t_cons (t_ret (e_len W O rfl (b_len w).1 (e_fld W O rfl rfl rfl R.inst.inst (f_un_above w) rfl rfl ⟨_, _, rfl, L, by have := N.length; have := lim_size; omega, fun t => ⟨rfl, t, by rw [N.length]⟩⟩) (b_len w).2))
inductive FindJ (b : Heap) (un : Addr) (par : List Nat) (a : Nat) (n : Nat) (b' : Heap) (m' : Locs) : Prop
  | mk (h1 : b = b') (h2 : m' "self" = some (.ref un)) (t : Tok) (h3 : m' "a" = some (.int (Int.ofNat n) t)) (h4 : n < par.length) (h5 : root par n = root par a)
theorem un_find (W : Wld (KK w) G) (hA : AOk (n + 1) A) (R : RU b o M S) {a : Nat} {t : Tok} (hz : S.par.length ≤ lim) (ha : a < S.par.length) (hle : ∀ i p : Nat, S.par[i]? = some p → p ≤ i) :
    DT w G A (.call (.ref 258) ⟨[.ref M.un, .int (Int.ofNat a) t], []⟩) b fun v b₁ => b = b₁ ∧ ∃ t, v = .int (Int.ofNat (root S.par a)) t := by
  obtain ⟨vs, L, N⟩ := R.ua.ls
  refine call_def (binds := [("self", .ref M.un), ("a", .int (Int.ofNat a) t)]) W (fn_un_find w) hA (fun _ _ _ _ _ => rfl) rfl fun L' hid env O => ?_
  have sub : ∀ (m : Locs) (x : Nat) (t : Tok) (pos1 pos2 pos3 pos4 : Pos) (P : Value → Heap → Prop) (y : Nat), m "self" = some (.ref M.un) → m "a" = some (.int (Int.ofNat x) t) → S.par[x]? = some y → (∀ t, P (.int (Int.ofNat y) t) b) →
      ET w G (A.deeper env) (Fr (scS (inS 12 3)) L' hid) (eval (.Subscript (.Attribute (.Name "self" pos1) "above" pos2) (.Name "a" pos3) pos4) env) b m P := by
    intro m x t pos1 pos2 pos3 pos4 P y h1 h2 h3 k
    obtain ⟨tk, e⟩ := N.get h3
    refine e_sub (ops := fun o i => [o, i]) ?_
    refine e_field W (e_local O rfl rfl h1 ⟨M.un, cUnions, _, _, rfl, R.inst.inst, f_un_above w, rfl, rfl, ?_⟩)
    exact e_local O rfl rfl h2 ⟨L.sub, c_getItem_list L (Int.natCast_nonneg _) (by have := N.length; have := lim_size; omega) (by simpa using e) (k _) _ _⟩
  refine t_cons (t_while (FindJ b M.un S.par a) ?_ a ⟨rfl, rfl, t, rfl, ha, rfl⟩)
  rintro x b' m' ⟨rfl, h1, t, h2, hx, hr⟩
  obtain ⟨y, hy⟩ : ∃ y, S.par[x]? = some y := ⟨S.par[x], List.getElem?_eq_getElem hx⟩
  have hyx := hle x y hy
  have hg : S.par.getD x x = y := by simp [List.getD, hy]
  refine i_cmp (sub _ x t _ _ _ _ _ y h1 h2 hy fun tk => e_local O rfl rfl h2 (c_ne_int ⟨_, rfl, fun c => ?_, fun c => ?_⟩ _ _))
  · have hne : y ≠ x := by intro e; subst e; simp at c
    refine t_cons (t_assign (sub _ x t _ _ _ _ _ y h1 h2 hy fun tk => s_local O rfl rfl (t_nil ⟨y, by omega, rfl, h1, tk, rfl, Nat.lt_of_le_of_lt hyx hx, ?_⟩)))
    rw [← hr]
    conv => rhs; unfold root
    rw [hg, dif_pos (by omega)]
  · have he : y = x := by by_cases e : y = x; exact e; simp [bne] at c; omega
    refine t_cons (t_ret (e_local O rfl rfl h2 ⟨rfl, t, ?_⟩))
    rw [← hr]
    unfold root
    rw [hg, dif_neg (by omega)]

/-- a maker's state -/
def St.made (S : St) : St := { S with par := S.par ++ [S.par.length], lots := S.lots ++ [1] }
theorem un_make (W : Wld (KK w) G) (hA : AOk (n + 1) A) (k : Ok G b o) (R : RU b o M S) (hz : S.par.length ≤ lim) (hl : S.lots.length = S.par.length) :
    DT w G A (.call (.ref 244) ⟨[.ref M.un], []⟩) b fun v b₁ => (∃ i t, v = .int i t) ∧ ∃ o₁, Mv (fun r => r.d = 0) b o b₁ o₁ ∧ RU b₁ o₁ M S.made := by
  obtain ⟨vs, L, N⟩ := R.ua.ol
  have hlen := N.length
  have lz := lim_size
  refine call_defQ (binds := [("self", .ref M.un)]) W (fn_un_make w) hA (fun _ _ _ _ _ => rfl) rfl fun Q hQ L' hid env O => ?_
  refine t_cons (t_expr O (e_lmeth PySem.F.slot_list_append PySem.F.type_list_append (e_fld W O rfl rfl rfl R.inst.inst (f_un_above w) rfl rfl ⟨_, _, rfl, L.ls, e_spl_cons (e_len W O rfl (b_len w).1 (e_fld W O rfl rfl rfl R.inst.inst (f_un_above w) rfl rfl ⟨_, _, rfl, L.ls, by omega, fun t => ?_⟩) (b_len w).2)⟩)))
  refine e_spl_nil (o_append k L (by omega) (fun b₁ m₁ L₁ => ⟨nr_none, ?_⟩) _ _)
  have k₁ := k.move m₁
  have I₁ := R.inst.move m₁
  obtain ⟨ws, J, hJ, hlots⟩ := R.ul
  have J₁ := J.move m₁ (by simp)
  refine t_cons (t_expr O (e_lmeth PySem.F.slot_list_append PySem.F.type_list_append (e_fld W O rfl rfl rfl I₁.inst (f_un_lots w) rfl rfl ⟨_, _, rfl, J₁.ls, e_spl_cons (e_list (e_spl_cons (e_len W O rfl (b_len w).1 (e_fld W O rfl rfl rfl I₁.inst (f_un_lots w) rfl rfl ⟨_, _, rfl, J₁.ls, by omega, fun t => ?_⟩) (b_len w).2)))⟩)))
  refine e_spl_nil (c_newList (by simp [sizeLine]) (fun c b₂ e₂ n₂ l₂ => ?_) _ _)
  obtain ⟨oc, hoc⟩ := l₂.live
  have mg : Mv (fun r => r.d = 0) b₁ o b₂ (give o c (.lot S.lots.length)) := .give e₂ n₂ hoc
  have k₂ := k₁.move mg
  have J₂ : OL b₂ (give o c (.lot S.lots.length)) .ul M.ul ws := J₁.move (T := fun _ => False) (.give e₂ n₂ hoc) id
  refine e_spl_nil (o_append k₂ J₂ (by omega) (fun b₃ m₃ L₃ => ⟨nr_none, ?_⟩) _ _)
  have m₀ : Mv (fun r => r.d = 0) b o b₁ o := m₁.weak fun r h => by rw [h]; rfl
  have m₃' : Mv (fun r => r.d = 0) b₂ (give o c (.lot S.lots.length)) b₃ (give o c (.lot S.lots.length)) := m₃.weak fun r h => by rw [h]; rfl
  have mm := (m₀.trans mg).trans m₃'
  have U₁ := (L₁.move (T := fun _ => False) (.give e₂ n₂ hoc) id).move m₃ (by simp)
  refine t_cons (t_ret (e_binop (e_len W O rfl (b_len w).1 (e_fld W O rfl rfl rfl ((I₁.move mg).move m₃').inst (f_un_above w) rfl rfl ⟨_, _, rfl, U₁.ls, by simp; omega, fun t => e_int fun t' => c_sub_int (fun t => hQ _ _ ⟨⟨_, _, rfl⟩, _, mm, ?_⟩) _ _⟩) (b_len w).2)))
  refine ⟨(I₁.move mg).move m₃', ⟨⟨_, U₁.ls, ?_⟩, U₁.own⟩, ⟨_, L₃, ?_, ?_⟩, ?_⟩
  · rw [show Int.ofNat vs.length = Int.ofNat S.par.length by rw [hlen]]; exact N.append (.one _ _)
  · simp [St.made, hJ]
  · intro i q hq
    by_cases hi : i < S.lots.length
    · have hq' : S.lots[i]? = some q := by rw [← hq]; simp [St.made, List.getElem?_append_left hi]
      obtain ⟨a, us, h1, h2, h3⟩ := hlots i q hq'
      refine ⟨a, us, ?_, ((h2.move m₁ (by simp)).move (T := fun _ => False) (.give e₂ n₂ hoc) id).move m₃ (by simp), h3⟩
      rw [List.getElem?_append_left (by rw [hJ]; exact hi)]; exact h1
    · have : i = S.lots.length := by
        have := (List.getElem?_eq_some_iff.mp hq).1
        simp [St.made] at this; omega
      subst this
      have hq1 : q = 1 := by simpa [St.made] using hq.symm
      subst hq1
      refine ⟨c, _, by rw [← hJ]; simp, ⟨(OL.move (r := .lot S.lots.length) ⟨l₂, give_self ..⟩ m₃ (by simp)).ls, give_self ..⟩, rfl⟩
  · obtain ⟨us, Lm, hm⟩ := R.um
    exact ⟨us, ((Lm.move m₁ (by simp)).move (T := fun _ => False) (.give e₂ n₂ hoc) id).move m₃ (by simp), hm⟩

/-- two roots put together -/
def St.uni (S : St) (kept gone : Nat) : St := { S with par := S.par.set gone kept, lots := S.lots.set kept (S.lots.getD kept 0 + S.lots.getD gone 0), mc := S.mc + 1 }
theorem un_merge (W : Wld (KK w) G) (hA : AOk (n + 2) A) (k : Ok G b o) (R : RU b o M S) (hz : S.par.length ≤ lim) (hl : S.lots.length = S.par.length) (hlb : ∀ i q : Nat, S.lots[i]? = some q → q ≤ lim) (hm : S.mc ≤ lim) (hle : ∀ i p : Nat, S.par[i]? = some p → p ≤ i)
    {x y : Nat} {t u : Tok} (hx : x < S.par.length) (hy : y < S.par.length) :
    DT w G A (.call (.ref 265) ⟨[.ref M.un, .int (Int.ofNat x) t, .int (Int.ofNat y) u], []⟩) b fun v b₁ => Mv (fun r => r.d = 0) b o b₁ o ∧
      ((root S.par x = root S.par y ∧ v = .none ∧ RU b₁ o M S) ∨ (root S.par x ≠ root S.par y ∧ RU b₁ o M (S.uni (min (root S.par x) (root S.par y)) (max (root S.par x) (root S.par y))) ∧
        ∃ a t1 t2, v = .ref a ∧ o a = none ∧ Tp b₁ a [.int (Int.ofNat (min (root S.par x) (root S.par y))) t1, .int (Int.ofNat (max (root S.par x) (root S.par y))) t2])) := by
  have lz := lim_size
  have hp := root_le S.par x
  have hq := root_le S.par y
  generalize hpx : root S.par x = p at hp ⊢
  generalize hqy : root S.par y = q at hq ⊢
  refine call_defQ (binds := [("self", .ref M.un), ("a", .int (Int.ofNat x) t), ("b", .int (Int.ofNat y) u)]) W (fn_un_merge w) hA (fun _ _ _ _ _ => rfl) rfl fun Q hQ L' hid env O => ?_
  have hA' := hA.deeper env
  refine t_cons (t_assign_tuple (l := [_, _]) (e_call (e_builtin W O rfl (b_sorted w).1 (b_sorted w).2 (by decide) (e_callWith keeps3_builtin (e_spl_cons (e_list (e_spl_cons (e_mth W O rfl rfl rfl R.inst.inst (m_un_find w) rfl (e_spl_cons (e_local O rfl rfl rfl (e_spl_nil ?_)))))))))))
  refine CT.of_DT ((un_find W hA' R hz hx hle).mono ?_)
  rintro _ _ ⟨rfl, t1, rfl⟩
  refine e_spl_cons (e_mth W O rfl rfl rfl R.inst.inst (m_un_find w) rfl (e_spl_cons (e_local O rfl rfl rfl (e_spl_nil ?_))))
  refine CT.of_DT ((un_find W hA' R hz hy hle).mono ?_)
  rintro _ _ ⟨rfl, t2, rfl⟩
  rw [hpx, hqy]
  refine e_spl_nil (c_newList (by simp [sizeLine]) (fun la b₁ e₁ n₁ l₁ => ?_) _ _)
  refine e_spl_nil (c_sorted2 l₁ (fun lb b₂ t3 t4 e₂ n₂ l₂ => ?_) _ _)
  rw [ofNat_min, ofNat_max] at l₂
  generalize hkp : min p q = kp at l₂ hQ
  generalize hgn : max p q = gn at l₂ hQ
  refine c_unpack_list hA'.hd l₂ rfl (a_cons (s_name (s_local O rfl rfl (a_cons (s_name (s_local O rfl rfl (a_nil ?_))))))) _ _
  have R₂ := (R.ext e₁).ext e₂
  have k₂ := (k.ext e₁).ext e₂
  have m₂ : Mv (fun r => r.d = 0) b o b₂ o := .ext (e₁.trans e₂)
  refine t_cons (t_if (i_cmp (e_local O rfl rfl rfl (e_local O rfl rfl rfl (c_eq_int ⟨_, rfl, fun c => ?_, fun c => ?_⟩ _ _)))))
  · refine t_cons (t_ret (e_none (hQ _ _ ⟨m₂, .inl ⟨?_, rfl, R₂⟩⟩)))
    exact Decidable.byContradiction fun hne => absurd (Int.ofNat.inj (eq_of_beq c)) (Nat.ne_of_lt (hkp ▸ hgn ▸ min_lt_max hne))
  · have hne : p ≠ q := fun e => by
      have h : kp = gn := by rw [← hkp, ← hgn, e, Nat.min_self, Nat.max_self]
      rw [h] at c; simp at c
    have hkl : kp < gn := hkp ▸ hgn ▸ min_lt_max hne
    have hgl : gn < S.par.length := hgn ▸ Nat.max_lt.mpr ⟨Nat.lt_of_le_of_lt hp hx, Nat.lt_of_le_of_lt hq hy⟩
    refine t_nil ?_
    obtain ⟨vs, L, N⟩ := R₂.ua.ol
    have hlen := N.length
    refine t_cons (t_setitem (e_local O rfl rfl rfl (e_fld W O rfl rfl rfl R₂.inst.inst (f_un_above w) rfl rfl (e_local O rfl rfl rfl (o_setItem k₂ L (by omega) (by omega) (fun b₃ m₃ L₃ => ?_) _ _)))))
    have k₃ := k₂.move m₃
    have I₃ := R₂.inst.move m₃
    obtain ⟨ws, J, hJ, hlots⟩ := R₂.ul
    have J₃ := J.move m₃ (by simp)
    have kl : kp < S.lots.length := hl.symm ▸ Nat.lt_trans hkl hgl
    have gl : gn < S.lots.length := hl.symm ▸ hgl
    obtain ⟨ka, kus, hk1, hk2, hk3⟩ := hlots kp _ (List.getElem?_eq_getElem kl)
    obtain ⟨ga, gus, hg1, hg2, hg3⟩ := hlots gn _ (List.getElem?_eq_getElem gl)
    have bk := hlb kp _ (List.getElem?_eq_getElem kl)
    have bg := hlb gn _ (List.getElem?_eq_getElem gl)
    have hk2' := hk2.move m₃ (by simp)
    have hg2' := hg2.move m₃ (by simp)
    refine t_cons (t_expr O (e_lmeth PySem.F.slot_list_extend PySem.F.type_list_extend (e_sub (ops := fun o i => [o, i]) (e_fld W O rfl rfl rfl I₃.inst (f_un_lots w) rfl rfl (e_local O rfl rfl rfl ⟨J₃.ls.sub, c_getItem_list J₃.ls (Int.natCast_nonneg _) (o3 hJ hl hz) hk1 ⟨ka, kus, rfl, hk2'.ls, ?_⟩ _ _⟩)))))
    refine e_spl_cons (e_sub (ops := fun o i => [o, i]) (e_fld W O rfl rfl rfl I₃.inst (f_un_lots w) rfl rfl (e_local O rfl rfl rfl ⟨J₃.ls.sub, c_getItem_list J₃.ls (Int.natCast_nonneg _) (o3 hJ hl hz) hg1 (e_spl_nil ?_) _ _⟩)))
    refine o_extend k₃ hk2' hg2'.ls (o7 hk3 hg3 bk bg) (fun b₄ m₄ L₄ => ⟨nr_none, ?_⟩) _ _
    have k₄ := k₃.move m₄
    have I₄ := I₃.move m₄
    obtain ⟨us, Lm, hm'⟩ := R₂.um
    have Lm₄ := (Lm.move m₃ (by simp)).move m₄ (by simp)
    refine t_cons (t_expr O (e_lmeth PySem.F.slot_list_append PySem.F.type_list_append (e_fld W O rfl rfl rfl I₄.inst (f_un_merged w) rfl rfl ⟨_, _, rfl, Lm₄.ls, e_spl_cons (e_tuple (e_spl_cons (e_local O rfl rfl rfl (e_spl_cons (e_local O rfl rfl rfl (e_spl_nil ?_))))))⟩)))
    refine c_newTuple (by simp [sizeLine]) (fun ta b₅ e₅ n₅ l₅ => ?_) _ _
    refine e_spl_nil (o_append (k₄.ext e₅) (Lm₄.move (T := fun _ => False) (.ext e₅) id) (by omega) (fun b₆ m₆ L₆ => ⟨nr_none, ?_⟩) _ _)
    refine t_cons (t_ret (e_tuple (e_spl_cons (e_local O rfl rfl rfl (e_spl_cons (e_local O rfl rfl rfl (e_spl_nil (c_newTuple (by simp [sizeLine]) (fun tb b₇ e₇ n₇ l₇ => ?_) _ _))))))))
    have w₃ : Mv (fun r => r.d = 0) b₂ o b₃ o := m₃.weak fun r h => by rw [h]; rfl
    have w₄ : Mv (fun r => r.d = 0) b₃ o b₄ o := m₄.weak fun r h => by rw [h]; rfl
    have w₅ : Mv (fun r => r.d = 0) b₄ o b₅ o := .ext e₅
    have w₆ : Mv (fun r => r.d = 0) b₅ o b₆ o := m₆.weak fun r h => by rw [h]; rfl
    have w₇ : Mv (fun r => r.d = 0) b₆ o b₇ o := .ext e₇
    have k₆ := (k₄.ext e₅).move m₆
    have mv : ∀ {r : Role} {a : Addr} {zs : List Value}, OL b₄ o r a zs → r ≠ .um → OL b₇ o r a zs := fun h hr =>
      ((h.move (T := fun _ => False) (.ext e₅) id).move m₆ hr).move (T := fun _ => False) (.ext e₇) id
    refine hQ _ _ ⟨m₂.trans (w₃.trans (w₄.trans (w₅.trans (w₆.trans w₇)))), .inr ⟨hne, ⟨(((I₄.move w₅).move w₆).move w₇), ?_, ?_, ?_⟩, tb, _, _, rfl, k₆.own_new n₇, l₇⟩⟩
    · have q := mv (L₃.move m₄ (by simp)) (by simp)
      exact ⟨⟨_, q.ls, N.set _ _ _⟩, q.own⟩
    · refine ⟨ws, mv (J₃.move m₄ (by simp)) (by simp), by simp [St.uni, hJ], fun i z hz' => ?_⟩
      by_cases hi : i = kp
      · subst i
        refine ⟨ka, kus ++ gus, hk1, mv L₄ (by simp), ?_⟩
        have : z = S.lots.getD kp 0 + S.lots.getD gn 0 := by
          simp [St.uni, kl] at hz'; rw [← hz']; simp [List.getElem?_eq_getElem kl]
        rw [this, List.length_append, hk3, hg3]
        rw [show S.lots.getD kp 0 = S.lots[kp]'kl by simp [List.getD, List.getElem?_eq_getElem kl], show S.lots.getD gn 0 = S.lots[gn]'gl by simp [List.getD, List.getElem?_eq_getElem gl]]
      · have hz2 : S.lots[i]? = some z := by
          rw [← hz']; simp [St.uni, List.getElem?_set_ne (Ne.symm hi)]
        obtain ⟨a, us', h1, h2, h3⟩ := hlots i z hz2
        exact ⟨a, us', h1, mv ((h2.move m₃ (by simp)).move m₄ fun q => hi (Role.lot.inj q)) (by simp), h3⟩
    · exact ⟨_, L₆.move (T := fun _ => False) (.ext e₇) id, by simp [St.uni, hm']⟩
end
end Mine
end
section
open PySem PySem.W PyProof.Rows PySem.Calls PySem.Spec Builtin
set_option maxRecDepth 100000
set_option linter.unusedVariables false
namespace Mine

/-! the bank -/
def numOf (nodes : List (Str × List Nat)) (q : Str × List Nat) : Option Nat := nodes.findIdx? fun r => decide (r = q)
structure RB (w : World) (b : Heap) (o : Own) (M : Mem) (S : St) : Prop where
  inst : FI b o M.bk cBank [("depths", .ref M.ld), ("weights", .ref M.lw), ("numbers", .ref M.dn), ("nodes", .ref M.ln)]
  ln : ∃ vs, OL b o .ln M.ln vs ∧ vs.length = S.nodes.length ∧ ∀ (i : Nat) (q : Str × List Nat), S.nodes[i]? = some q → ∃ a, vs[i]? = some (.ref a) ∧ FR b o a q
  dn : OT w b o .dn M.dn (numOf S.nodes) S.nodes.length
  lw : ∃ vs, OL b o .lw M.lw vs ∧ Ints vs ∧ vs.length = S.nodes.length
  ld : ∃ vs, OL b o .ld M.ld vs ∧ Ints vs ∧ vs.length = S.nodes.length
section
variable {w : World}
theorem RB.move {T : Role → Prop} {b b₁ : Heap} {o o₁ : Own} {M : Mem} {S : St} (h : RB w b o M S) (m : Mv T b o b₁ o₁) (hT : ∀ r, T r → r.d ≠ 1) : RB w b₁ o₁ M S where
  inst := h.inst.move m
  ln := let ⟨vs, l, n, k⟩ := h.ln; ⟨vs, l.move m fun t => hT _ t rfl, n, fun i q e => let ⟨a, p, r⟩ := k i q e; ⟨a, p, r.move m⟩⟩
  dn := h.dn.move m fun t => hT _ t rfl
  lw := let ⟨vs, l, n⟩ := h.lw; ⟨vs, l.move m fun t => hT _ t rfl, n⟩
  ld := let ⟨vs, l, n⟩ := h.ld; ⟨vs, l.move m fun t => hT _ t rfl, n⟩
theorem RB.ext {b b₁ : Heap} {o : Own} {M : Mem} {S : St} (h : RB w b o M S) (e : Ext b b₁) : RB w b₁ o M S := h.move (T := fun _ => False) (.ext e) fun _ h => h.elim
end

section
variable {w : World} {G b : Heap} {A : Around} {n : Nat} {o : Own} {M : Mem} {S : St}
theorem bk_size (W : Wld (KK w) G) (hA : AOk (n + 1) A) (R : RB w b o M S) (hz : S.nodes.length ≤ lim) : DT w G A (.call (.ref 100) ⟨[.ref M.bk], []⟩) b fun v b₁ => b = b₁ ∧ ∃ t, v = .int (Int.ofNat S.nodes.length) t := by
  obtain ⟨vs, L, N, _⟩ := R.ln
  have lz := lim_size
  refine call_def (binds := [("self", .ref M.bk)]) W (fn_bank_size w) hA (fun _ _ _ _ _ => rfl) rfl fun L' hid env O => ?_
  exact t_cons (t_ret (e_len W O rfl (b_len w).1 (e_fld W O rfl rfl rfl R.inst.inst (f_bank_nodes w) rfl rfl ⟨_, _, rfl, L.ls, by omega, fun t => ⟨rfl, t, by rw [N]⟩⟩) (b_len w).2))
theorem bk_op (W : Wld (KK w) G) (hA : AOk (n + 1) A) (R : RB w b o M S) (hz : S.nodes.length ≤ lim) {i : Nat} {q : Str × List Nat} {t : Tok} (hq : S.nodes[i]? = some q) (hk : q.2.length ≤ lim) :
    DT w G A (.call (.ref 138) ⟨[.ref M.bk, .int (Int.ofNat i) t], []⟩) b fun v b₁ => b = b₁ ∧ ∃ t, v = .str q.1 t := by
  obtain ⟨vs, L, N, K⟩ := R.ln
  have lz := lim_size
  obtain ⟨a, h1, ⟨t2, us, h2, h3⟩, _⟩ := K i q hq
  have hl := h3.length
  refine call_def (binds := [("self", .ref M.bk), ("n", .int (Int.ofNat i) t)]) W (fn_bank_op w) hA (fun _ _ _ _ _ => rfl) rfl fun L' hid env O => ?_
  refine t_cons (t_ret (e_sub (ops := fun o i => [o, i]) (e_sub (ops := fun o i => [o, i]) (e_fld W O rfl rfl rfl R.inst.inst (f_bank_nodes w) rfl rfl (e_local O rfl rfl rfl ⟨L.ls.sub, c_getItem_list L.ls (Int.natCast_nonneg _) (by omega) h1 ?_ _ _⟩)))))
  exact e_int fun t3 => ⟨h2.sub, c_getItem_tuple (i := 0) h2 (by simp; omega) rfl ⟨rfl, t2, rfl⟩ _ _⟩
theorem bk_kids (W : Wld (KK w) G) (hA : AOk (n + 1) A) (k : Ok G b o) (R : RB w b o M S) (hz : S.nodes.length ≤ lim) {i : Nat} {q : Str × List Nat} {t : Tok} (hq : S.nodes[i]? = some q) (hk : q.2.length ≤ lim) :
    DT w G A (.call (.ref 145) ⟨[.ref M.bk, .int (Int.ofNat i) t], []⟩) b fun v b₁ => Ext b b₁ ∧ ∃ a vs, v = .ref a ∧ b.get? a = none ∧ Tp b₁ a vs ∧ Nums vs q.2 := by
  obtain ⟨vs, L, N, K⟩ := R.ln
  have lz := lim_size
  obtain ⟨a, h1, ⟨t2, us, h2, h3⟩, _⟩ := K i q hq
  have hl := h3.length
  refine call_def (binds := [("self", .ref M.bk), ("n", .int (Int.ofNat i) t)]) W (fn_bank_kids w) hA (fun _ _ _ _ _ => rfl) rfl fun L' hid env O => ?_
  refine t_cons (t_ret (e_sub (ops := fun o i => [i, o]) (e_sub (ops := fun o i => [o, i]) (e_fld W O rfl rfl rfl R.inst.inst (f_bank_nodes w) rfl rfl (e_local O rfl rfl rfl ⟨L.ls.sub, c_getItem_list L.ls (Int.natCast_nonneg _) (by omega) h1 ?_ _ _⟩)))))
  refine e_slice_from (e_int fun t3 sl b₁ e₁ hs => ?_)
  exact ⟨(h2.ext e₁).sub, c_slice_tuple (h2.ext e₁) hs (by omega) (fun c b₂ e₂ n₂ l₂ => ⟨e₁.trans e₂, c, us, rfl, e₁.none n₂, l₂, h3⟩) _ _⟩
theorem bk_require (W : Wld (KK w) G) (hA : AOk (n + 3) A) {op : Str} {t : Tok} (h : goodOp op) : DT w G A (.call (.ref 112) ⟨[.ref M.bk, .str op t], []⟩) b fun v b₁ => v = .none ∧ Ext b b₁ := by
  obtain ⟨c, hc, _, _, _, hne⟩ := h.facts
  refine call_def (binds := [("self", .ref M.bk), ("op", .str op t)]) W (fn_bank_require w) hA (fun _ _ _ _ _ => rfl) rfl fun L' hid env O => ?_
  have hA' := hA.deeper env
  refine t_cons (t_if (i_boolop (i_or (i_not (i_val (e_call (e_global W O rfl (g_is_op w) (e_callWith (keeps3_K W (k_is_op w)) (e_spl_cons (e_local O rfl rfl rfl (e_spl_nil (CT.of_DT ((is_op_ W hA' h).mono ?_) _ _)))))))))))) 
  rintro _ b₁ ⟨rfl, e₁⟩
  refine ⟨true, rfl, (fun q => by cases q), fun _ => i_or (i_cmp (e_sub (ops := fun o i => [o, i]) (e_local O rfl rfl rfl (e_int fun t3 => ⟨sub_str, c_getItem_str (c := c) (by decide) (by rw [hc]; rfl) (fun t4 => e_str fun t5 => c_eq_str ⟨_, rfl, fun q => ?_, fun _ => i_or_nil ⟨(fun q => by cases q), fun _ => t_nil (t_nil ⟨rfl, e₁⟩)⟩⟩ _ _) _ _⟩))))⟩
  exfalso
  have h0 : ("?" : Str).cps.toList = [63] := by decide
  rw [h0] at q
  exact hne (by simpa using q)
end
end Mine
end
section
open PySem PySem.W PyProof.Rows PySem.Calls PySem.Spec Builtin
set_option maxRecDepth 100000
set_option linter.unusedVariables false
namespace Mine
theorem numOf_push {nodes : List (Str × List Nat)} {q : Str × List Nat} (h : numOf nodes q = none) (y : Str × List Nat) : numOf (nodes ++ [q]) y = if y = q then some nodes.length else numOf nodes y := by
  unfold numOf at h ⊢
  rw [List.findIdx?_append]
  by_cases hy : y = q
  · subst hy; rw [h]; simp
  · have hq : ¬ q = y := fun e => hy e.symm
    rw [if_neg hy]; simp [hq]
theorem IntsAre.ints {vs : List Value} {ns : List Int} (h : IntsAre vs ns) : Ints vs := by
  induction h with
  | nil => intro v hv; cases hv
  | cons n t _ ih => intro v hv; rcases List.mem_cons.mp hv with rfl | hv; exact ⟨n, t, rfl⟩; exact ih v hv
theorem Nums.ints {vs : List Value} {ns : List Nat} (h : Nums vs ns) : Ints vs := IntsAre.ints h
def St.node (S : St) (q : Str × List Nat) : St := { S with nodes := S.nodes ++ [q] }
section
variable {w : World} {G b : Heap} {A : Around} {n : Nat} {f : Fram} {m : Locs} {env : Env} {ns : List (Str × NameKind)}
inductive TakeC (b₂ : Heap) (i : Nat) (ys : List Value) (b' : Heap) : Prop
  | mk (h1 : b₂ = b') (h2 : ys.length = i) (h3 : Ints ys)
theorem take_comp (W : Wld (KK w) G) (hA : AOk (n + 1) A) (O : EnvOk env f ns) {attr : Str} {scope : Scope} {cl : List (Str × Addr)} {p1 p2 p3 p4 p5 p6 p7 p8 p9 pos : Pos} {kk : Nat} {P : Value → Heap → Prop}
    (hcl : closOf f.cl scope.names [] = some cl) (hcell : (scope.names.all fun x => x.2 != .cell) = true) (hkind : scope.kind = .function) (hx : scope.names.lookup ("kid" : Str) = some .local) (hxc : cl.lookup ("kid" : Str) = none)
    (hnames : (scope.names.all fun x => x.2 != .local || scope.names.lookup x.1 == some .local) = true) (hin : ∀ p ∈ cl, f.cl.lookup p.1 = some p.2)
    {c0 bk nd la C : Addr} (hself : (compNs ns scope.names).lookup ("self" : Str) = some .cell) (hc0 : cl.lookup ("self" : Str) = some c0) (hm : m "self" = some (.ref bk)) (hnl : ns.lookup ("node" : Str) = some .local) (hnc : f.cl.lookup ("node" : Str) = none) (hmn : m "node" = some (.ref nd))
    {op : Str} {t : Tok} {kvs vs : List Value} {ks : List Nat} {lst : List (Str × Value)} (l : Tp b nd (.str op t :: kvs)) (N : Nums kvs ks) (I : Inst b bk C lst) (hf : ClsFld (KK w) C attr) (hlk : lst.lookup attr = some (.ref la)) (L : Ls b la vs) (hI : Ints vs)
    (hb : ∀ x ∈ ks, x < vs.length) (hz : vs.length ≤ sizeLine) (hk : ks.length + 1 ≤ sizeLine)
    (k : ∀ c b₁ us, Ext b b₁ → b.get? c = none → Ls b₁ c us → Ints us → us.length = ks.length → P (.ref c) b₁)
    (hb1 : ∀ env : Env, attributeBase (.Name "self" p1) attr env (eval (.Name "self" p1) env) = eval (.Name "self" p1) env := by intro _; rfl) :
    ET w G A f (eval (.ListComp (.Subscript (.Attribute (.Name "self" p1) attr p2) (.Name "kid" p3) p4) [⟨.Name "kid" p5, .Subscript (.Name "node" p6) (.Slice (some (.Constant (.int 1) kk p7)) none none p8) p9, [], 0⟩] scope pos) env) b m P := by
  have hkl := N.length
  refine e_comp O hcl hcell hkind hx hxc hnames hin (e_sub (ops := fun o i => [i, o]) (e_local O hnl hnc hmn (e_slice_from (e_int fun t1 sl b₁ e₁ hs => ⟨(l.ext e₁).sub, c_slice_tuple (l.ext e₁) hs (by omega) (fun sa b₂ e₂ n₂ l₂ => ?_) _ _⟩))))
  have e₁₂ := e₁.trans e₂
  refine ⟨_, _, _, itv_tuple hA.hd l₂, by omega, TakeC b₂, ⟨rfl, rfl, by intro v hv; cases hv⟩, (fun i ys b' j c hc o ho => by obtain ⟨rfl, _, _⟩ := j; exact ho), ?_, ?_⟩
  · rintro i ys b' v C' hid env' hi' ⟨rfl, hy1, hy2⟩ pv O'
    obtain ⟨x, t2, rfl, hx'⟩ : ∃ x t2, v = .int (Int.ofNat x) t2 ∧ x < vs.length := by
      have hlt : i < ks.length := by rw [← hkl]; exact hi'
      obtain ⟨t2, e⟩ := N.get (List.getElem?_eq_getElem hlt)
      rw [e] at pv
      exact ⟨_, t2, (Option.some.inj pv).symm, hb _ (List.getElem_mem hlt)⟩
    have hs' : (if ("self" : Str) = "kid" then some (Value.int (Int.ofNat x) t2) else if (cl.lookup ("self" : Str)).isSome = true then m "self" else none) = some (.ref bk) := by
      rw [if_neg (by decide), hc0, Option.isSome_some, if_pos rfl]; exact hm
    refine e_sub (ops := fun o i => [o, i]) (e_fldc W O' hself hc0 hs' (I.ext e₁₂) hf hlk rfl (e_local O' (compNs_local hx) hxc (if_pos rfl) ⟨(L.ext e₁₂).sub, ?_⟩) (by decide) (hb1 _))
    refine c_getItem_list (L.ext e₁₂) (Int.natCast_nonneg _) hz (v := vs[x]) (by simp [hx']) ⟨rfl, by simp [hy1], fun v hv => ?_⟩ _ _
    rcases List.mem_append.mp hv with hv | hv
    · exact hy2 v hv
    · rw [List.mem_singleton.mp hv]; exact hI _ (List.getElem_mem hx')
  · rintro D ys b' b₃ ⟨rfl, hy1, hy2⟩ e₃ nD l
    exact k D b₃ ys (e₁₂.trans e₃) (e₁₂.none nD) l hy2 (by rw [hy1, hkl])
end

section
variable {w : World} {G b : Heap} {A : Around} {n : Nat} {o : Own} {M : Mem} {S : St}
inductive TakeJ (b₅ : Heap) (x nd : Addr) (i : Nat) (b' : Heap) (m' : Locs) : Prop
  | mk (h1 : b₅ = b') (h2 : m' "self" = some (.ref x)) (h3 : m' "node" = some (.ref nd))
theorem bk_take (W : Wld (KK w) G) (hA : AOk (n + 5) A) (k : Ok G b o) (R : RB w b o M S) (hz : S.nodes.length ≤ lim) {op : Str} {t : Tok} (h : goodOp op) {ka : Addr} {kvs : List Value} {ks : List Nat} (L : LT b ka kvs) (N : Nums kvs ks) (hk : ks.length ≤ lim) (hb : ∀ x ∈ ks, x < S.nodes.length) :
    DT w G A (.call (.ref 105) ⟨[.ref M.bk, .str op t, .ref ka], []⟩) b fun v b₁ => Mv (fun r => r.d = 1) b o b₁ o ∧
      match numOf S.nodes (op, ks) with | some i => (∃ t, v = .int (Int.ofNat i) t) ∧ RB w b₁ o M S | none => (∃ t, v = .int (Int.ofNat S.nodes.length) t) ∧ RB w b₁ o M (S.node (op, ks)) := by
  have lz := lim_size
  have hkl := N.length
  refine call_defQ (binds := [("self", .ref M.bk), ("op", .str op t), ("kids", .ref ka)]) W (fn_bank_take w) hA (fun _ _ _ _ _ => rfl) rfl fun Q hQ L' hid env O => ?_
  have hA' := hA.deeper env
  refine t_cons (t_assign (e_node W O rfl (b_tuple w).1 (b_tuple w).2 (e_local O rfl rfl rfl fun ta b₁ e₁ n₁ l₁ => e_local O rfl rfl rfl ⟨ka, kvs, rfl, L.ext e₁, by omega, l₁, fun b₂ nd e₂ hnd l₂ => ?_⟩)))
  have e₁₂ : Ext b b₂ := e₁.trans e₂
  have nb : b.get? nd = none := hnd.elim (fun h => e₁.none h) fun h => h ▸ n₁
  have k₂ := k.ext e₁₂
  have R₂ := R.ext e₁₂
  have on : o nd = none := k.own_new nb
  have fr : FR b₂ o nd (op, ks) := ⟨⟨t, kvs, l₂, N⟩, on⟩
  refine s_local O rfl rfl ?_
  refine t_cons (t_if (i_cmp (e_local O rfl rfl rfl (e_fldc W O rfl rfl rfl R₂.inst.inst (f_bank_numbers w) rfl rfl (c_td_in hA' R₂.dn.td fr.row ⟨_, rfl, fun c => ?_, fun c => ?_⟩ _ _)))))
  · obtain ⟨i, hi⟩ := Option.isSome_iff_exists.mp c
    refine t_cons (t_ret (e_sub (ops := fun o i => [o, i]) (e_fldc W O rfl rfl rfl R₂.inst.inst (f_bank_numbers w) rfl rfl (e_local O rfl rfl rfl ⟨?_, c_td_get hA' R₂.dn.td fr.row hi (fun t => ?_) _ _⟩))))
    · exact R₂.dn.td.sub
    · exact hQ _ _ ⟨.ext e₁₂, by rw [hi]; exact ⟨⟨t, rfl⟩, R₂⟩⟩
  · have hi : numOf S.nodes (op, ks) = none := by simpa using c
    obtain ⟨vs, Ln, hN, hnodes⟩ := R₂.ln
    refine t_nil (t_cons (t_expr O (e_mthc W O rfl rfl rfl R₂.inst.inst (m_bank_require w) rfl (e_spl_cons (e_local O rfl rfl rfl (e_spl_nil (CT.of_DT ((bk_require (n := n) W (M := M) (hA'.mono (by first | exact lo rfl | omega)) h).mono ?_))))))))
    rintro _ b₃ ⟨rfl, e₃⟩
    refine ⟨nr_none, ?_⟩
    have R₃ := R₂.ext e₃
    have l₃ := l₂.ext e₃
    refine t_cons (t_for (e_sub (ops := fun o i => [i, o]) (e_local O rfl rfl rfl (e_slice_from (e_int fun t1 sl b₄ e₄ hs => ⟨(l₃.ext e₄).sub, c_slice_tuple (l₃.ext e₄) hs (by omega) (fun sa b₅ e₅ n₅ l₅ => ?_) _ _⟩)))))
    have R₅ := (R₃.ext e₄).ext e₅
    have l₅' := (l₃.ext e₄).ext e₅
    refine ⟨_, _, _, itv_tuple hA'.hd l₅, TakeJ b₅ M.bk nd, ⟨rfl, rfl, rfl⟩, (fun i b' m' j c hc o ho => by obtain ⟨rfl, _, _⟩ := j; exact ho), ?_, ?_⟩
    · rintro i b' m' v l hi' ⟨rfl, hs1, hs2⟩ pv
      have Om := O.more l
      obtain ⟨x, t2, rfl, hx⟩ : ∃ x t2, v = .int (Int.ofNat x) t2 ∧ x < S.nodes.length := by
        have hlt : i < ks.length := by rw [← hkl]; exact hi'
        obtain ⟨t2, e⟩ := N.get (List.getElem?_eq_getElem hlt)
        rw [e] at pv
        exact ⟨_, t2, (Option.some.inj pv).symm, hb _ (List.getElem_mem hlt)⟩
      obtain ⟨vs5, Ln5, hN5, _⟩ := R₅.ln
      refine s_name (s_local Om rfl rfl ?_)
      refine t_cons (t_if (i_not (i_chain2 (e_int fun t3 => e_local Om rfl rfl (if_pos rfl) (c_le_int ⟨_, rfl, fun c1 => ?_, fun c1 => ?_⟩ _ _)))))
      · refine e_len W Om rfl (b_len w).1 (e_fldc W Om rfl rfl hs1 R₅.inst.inst (f_bank_nodes w) rfl rfl ⟨_, _, rfl, Ln5.ls, by omega, fun t4 => ?_⟩) (b_len w).2
        refine c_lt_int ⟨_, rfl, fun c2 => ?_, fun _ => t_nil (t_nil ⟨rfl, hs1, hs2⟩)⟩ _ _
        simp at c2; omega
      · simp at c1
    · rintro b' m' ⟨rfl, hs1, hs2⟩
      obtain ⟨vs5, Ln5, hN5, hn5⟩ := R₅.ln
      have k₅ : Ok G b₅ o := (((k₂.ext e₃).ext e₄).ext e₅)
      have e₂₅ : Ext b₂ b₅ := (e₃.trans e₄).trans e₅
      have fr₅ : FR b₅ o nd (op, ks) := fr.move (T := fun _ => False) (.ext e₂₅)
      refine t_cons (t_setitem (e_len W O rfl (b_len w).1 (e_fldc W O rfl rfl hs1 R₅.inst.inst (f_bank_nodes w) rfl rfl ⟨_, _, rfl, Ln5.ls, by omega, fun t4 => ?_⟩) (b_len w).2))
      rw [hN5]
      refine e_fldc W O rfl rfl hs1 R₅.inst.inst (f_bank_numbers w) rfl rfl (e_local O rfl rfl hs2 (o_td_set k₅ hA' R₅.dn fr₅ hi (by omega) (fun b₆ m₆ D₆ => ?_) _ _))
      have k₆ := k₅.move m₆
      have I₆ := R₅.inst.move m₆
      have Ln6 := Ln5.move m₆ (by simp)
      have fr₆ := fr₅.move m₆
      refine t_cons (t_expr O (e_lmeth PySem.F.slot_list_append PySem.F.type_list_append (e_fldc W O rfl rfl hs1 I₆.inst (f_bank_nodes w) rfl rfl ⟨_, _, rfl, Ln6.ls, e_spl_cons (e_local O rfl rfl hs2 (e_spl_nil (o_append k₆ Ln6 (by omega) (fun b₇ m₇ Ln7 => ⟨nr_none, ?_⟩) _ _)))⟩)))
      have k₇ := k₆.move m₇
      have I₇ := I₆.move m₇
      have fr₇ := fr₆.move m₇
      obtain ⟨t7, kvs7, l₇, N₇⟩ := fr₇.row
      have hkl7 := N₇.length
      obtain ⟨ws, Lw, hW, hWl⟩ := R₅.lw
      have Lw7 := (Lw.move m₆ (by simp)).move m₇ (by simp)
      refine t_cons (t_expr O (e_lmeth PySem.F.slot_list_append PySem.F.type_list_append (e_fldc W O rfl rfl hs1 I₇.inst (f_bank_weights w) rfl rfl ⟨_, _, rfl, Lw7.ls, e_spl_cons (e_binop (e_int fun t8 => e_call (e_builtin W O rfl (b_sum w).1 (b_sum w).2 (by decide) (e_callWith keeps3_builtin (e_spl_cons ?_)))))⟩)))
      refine take_comp W hA' O rfl rfl rfl rfl rfl rfl (fun p hp => by rw [List.mem_singleton.mp hp]; rfl) rfl rfl hs1 rfl rfl hs2 l₇ N₇ I₇.inst (f_bank_weights w) rfl Lw7.ls hW (fun x hx => by rw [hWl]; exact hb x hx) (by omega) (by show ks.length + 1 ≤ _; omega) fun c₈ b₈ us e₈ n₈ l₈ i₈ z₈ => ?_
      refine e_spl_nil (c_sum hA'.hd l₈ i₈ (fun i₉ t₉ => c_add_int (fun t10 => ?_) _ _) _ _)
      have k₈ := k₇.ext e₈
      have Lw8 := Lw7.move (T := fun _ => False) (.ext e₈) id
      refine e_spl_nil (o_append k₈ Lw8 (by omega) (fun b₉ m₉ Lw9 => ⟨nr_none, ?_⟩) _ _)
      have k₉ := k₈.move m₉
      have mv89 : Mv (fun q => q = .lw) b₇ o b₉ o := (Mv.ext e₈).trans m₉
      have I₉ := I₇.move mv89
      have fr₉ := fr₇.move mv89
      obtain ⟨t9, kvs9, l₉, N₉⟩ := fr₉.row
      obtain ⟨ds, Ld, hD, hDl⟩ := R₅.ld
      have Ld9 := ((Ld.move m₆ (by simp)).move m₇ (by simp)).move mv89 (by simp)
      refine t_cons (t_expr O (e_lmeth PySem.F.slot_list_append PySem.F.type_list_append (e_fldc W O rfl rfl hs1 I₉.inst (f_bank_depths w) rfl rfl ⟨_, _, rfl, Ld9.ls, e_spl_cons (e_binop (e_int fun t11 => e_call (e_builtin W O rfl (b_max w).1 (b_max w).2 (by decide) (e_callWith keeps3_builtin (e_spl_cons (e_binop ?_))))))⟩)))
      refine take_comp W hA' O rfl rfl rfl rfl rfl rfl (fun p hp => by rw [List.mem_singleton.mp hp]; rfl) rfl rfl hs1 rfl rfl hs2 l₉ N₉ I₉.inst (f_bank_depths w) rfl Ld9.ls hD (fun x hx => by rw [hDl]; exact hb x hx) (by omega) (by show ks.length + 1 ≤ _; omega) fun ca ba ua ea na la ia za => ?_
      have za' : ua.length = ks.length := za
      refine e_list (e_spl_cons (e_int fun t12 => e_spl_nil (c_newList (by simp [sizeLine]) (fun cb bb eb nb lb => c_add_list (la.ext eb) lb (by simp; omega) (fun cc bc ec nc lc => ?_) _ _) _ _)))
      refine e_spl_nil (c_max hA'.hd lc (fun v hv => ?_) (by simp) (fun i13 t13 => c_add_int (fun t14 => ?_) _ _) _ _)
      · rcases List.mem_append.mp hv with hv | hv
        · exact ia v hv
        · rw [List.mem_singleton.mp hv]; exact ⟨_, _, rfl⟩
      have e9c := (ea.trans eb).trans ec
      have kc := k₉.ext e9c
      have Ldc := Ld9.move (T := fun _ => False) (.ext e9c) id
      refine e_spl_nil (o_append kc Ldc (by omega) (fun bd md Ldd => ⟨nr_none, ?_⟩) _ _)
      have mvcd : Mv (fun q => q = .ld) b₉ o bd o := (Mv.ext e9c).trans md
      have Lnd := (Ln7.move mv89 (by simp)).move mvcd (by simp)
      refine t_cons (t_ret (e_binop (e_len W O rfl (b_len w).1 (e_fldc W O rfl rfl hs1 (I₉.move mvcd).inst (f_bank_nodes w) rfl rfl ⟨_, _, rfl, Lnd.ls, by simp; omega, fun t15 => e_int fun t16 => c_sub_int (fun t17 => ?_) _ _⟩) (b_len w).2)))
      have w5 : Mv (fun r => r.d = 1) b o b₅ o := .ext (e₁₂.trans e₂₅)
      have w6 : Mv (fun r => r.d = 1) b₅ o b₆ o := m₆.weak fun r h => by rw [h]; rfl
      have w7 : Mv (fun r => r.d = 1) b₆ o b₇ o := m₇.weak fun r h => by rw [h]; rfl
      have w9 : Mv (fun r => r.d = 1) b₇ o b₉ o := mv89.weak fun r h => by rw [h]; rfl
      have wd : Mv (fun r => r.d = 1) b₉ o bd o := mvcd.weak fun r h => by rw [h]; rfl
      have w69 : Mv (fun r => r.d = 1) b₅ o bd o := w6.trans (w7.trans (w9.trans wd))
      refine hQ _ _ ⟨w5.trans w69, ?_⟩
      rw [hi]
      refine ⟨⟨t17, ?_⟩, I₉.move mvcd, ⟨_, Lnd, by simp [St.node, hN5], fun i q hq => ?_⟩, ?_, ⟨_, Lw9.move mvcd (by simp), fun v hv => ?_, by simp [St.node, hWl]⟩, ⟨_, Ldd, fun v hv => ?_, by simp [St.node, hDl]⟩⟩
      · congr 1
        simp [hN5]
      · by_cases hi : i < S.nodes.length
        · have hq' : S.nodes[i]? = some q := by rw [← hq]; simp [St.node, List.getElem?_append_left hi]
          obtain ⟨a, h1, h2⟩ := hn5 i q hq'
          exact ⟨a, by rw [List.getElem?_append_left (by rw [hN5]; exact hi)]; exact h1, h2.move w69⟩
        · have hi' : i = S.nodes.length := by
            have := (List.getElem?_eq_some_iff.mp hq).1
            simp [St.node] at this; omega
          subst hi'
          have hq1 : q = (op, ks) := by simpa [St.node] using hq.symm
          subst hq1
          exact ⟨nd, by rw [← hN5]; simp, fr₅.move w69⟩
      · have D9 := ((D₆.move m₇ (by simp)).move mv89 (by simp)).move mvcd (by simp)
        have hf : numOf (S.node (op, ks)).nodes = fun y => if y = (op, ks) then some S.nodes.length else numOf S.nodes y := funext fun y => numOf_push hi y
        rw [hf]
        simpa [St.node] using D9
      · rcases List.mem_append.mp hv with hv | hv
        · exact hW v hv
        · rw [List.mem_singleton.mp hv]; exact ⟨_, _, rfl⟩
      · rcases List.mem_append.mp hv with hv | hv
        · exact hD v hv
        · rw [List.mem_singleton.mp hv]; exact ⟨_, _, rfl⟩
end
end Mine
end
section
open PySem PySem.W PyProof.Rows PySem.Calls PySem.Spec Builtin
set_option maxRecDepth 100000
set_option linter.unusedVariables false
namespace Mine

/-! the heap -/
structure RH (w : World) (b : Heap) (o : Own) (M : Mem) (S : St) : Prop where
  inst : FI b o M.h cHeap [("backs", .int 0 M.tk), ("waiting", .ref M.hw), ("above", .ref M.ha), ("known", .ref M.hk), ("forest", .ref M.hf), ("edges", .ref M.he), ("unions", .ref M.un), ("bank", .ref M.bk)]
  he : ∃ vs, OL b o .he M.he vs ∧ vs.length = S.ec
  hf : ∃ vs, OL b o .hf M.hf vs ∧ vs.length = S.fc
  hk : OT w b o .hk M.hk S.known S.nk
  ha : ∃ F, OD (intKind PG w) b o .ha M.ha F S.na ∧ ∀ r, match S.abv r with | none => F (Int.ofNat r) = none | some us => ∃ a, F (Int.ofNat r) = some (.ref a) ∧ OLN b o (.abv r) a us
  hw : OLN b o .hw M.hw S.wait
structure RA (w : World) (b : Heap) (o : Own) (M : Mem) (S : St) : Prop where
  u : RU b o M S
  k : RB w b o M S
  h : RH w b o M S
section
variable {w : World} {T : Role → Prop} {b b₁ : Heap} {o o₁ : Own} {M : Mem} {S : St}
theorem abv_move {F : Int → Option Value} {abv : Nat → Option (List Nat)} (h : ∀ r, match abv r with | none => F (Int.ofNat r) = none | some us => ∃ a, F (Int.ofNat r) = some (.ref a) ∧ OLN b o (.abv r) a us) (m : Mv T b o b₁ o₁) (hT : ∀ r, ¬ T (.abv r)) :
    ∀ r, match abv r with | none => F (Int.ofNat r) = none | some us => ∃ a, F (Int.ofNat r) = some (.ref a) ∧ OLN b₁ o₁ (.abv r) a us := fun r => by
  have := h r
  cases e : abv r with
  | none => rw [e] at this; exact this
  | some us => rw [e] at this; obtain ⟨a, h1, h2⟩ := this; exact ⟨a, h1, h2.move m (hT r)⟩
theorem RH.move (h : RH w b o M S) (m : Mv T b o b₁ o₁) (hT : ∀ r, T r → r.d ≠ 2) : RH w b₁ o₁ M S where
  inst := h.inst.move m
  he := let ⟨vs, l, n⟩ := h.he; ⟨vs, l.move m fun t => hT _ t rfl, n⟩
  hf := let ⟨vs, l, n⟩ := h.hf; ⟨vs, l.move m fun t => hT _ t rfl, n⟩
  hk := h.hk.move m fun t => hT _ t rfl
  ha := let ⟨F, d, k⟩ := h.ha; ⟨F, d.move m fun t => hT _ t rfl, abv_move k m fun r t => hT _ t rfl⟩
  hw := h.hw.move m fun t => hT _ t rfl
theorem RH.ext (h : RH w b o M S) (e : Ext b b₁) : RH w b₁ o M S := h.move (T := fun _ => False) (.ext e) fun _ h => h.elim
theorem RA.move (h : RA w b o M S) (m : Mv T b o b₁ o₁) (hT : ∀ r, T r → r.d = 3) : RA w b₁ o₁ M S :=
  ⟨h.u.move m fun r t => by rw [hT r t]; decide, h.k.move m fun r t => by rw [hT r t]; decide, h.h.move m fun r t => by rw [hT r t]; decide⟩
theorem RA.ext (h : RA w b o M S) (e : Ext b b₁) : RA w b₁ o M S := h.move (T := fun _ => False) (.ext e) fun _ h => h.elim
end
/-- a heap's own roles -/
abbrev Hp (r : Role) : Prop := r.d < 3

/-- bounds and shape -/
structure Fit (S : St) : Prop where
  n : S.nodes.length ≤ lim
  par : S.par.length = S.nodes.length
  le : ∀ i p : Nat, S.par[i]? = some p → p ≤ i
  kids : ∀ (i : Nat) (q : Str × List Nat), S.nodes[i]? = some q → q.2.length ≤ lim ∧ ∀ x ∈ q.2, x < i
  lots : S.lots.length = S.par.length
  lot : ∀ i q : Nat, S.lots[i]? = some q → q ≤ lim
  mc : S.mc ≤ lim
  known : ∀ (q : Str × List Nat) (i : Nat), S.known q = some i → i < S.nodes.length
theorem Fit.plen {S : St} (x : Fit S) : S.par.length ≤ lim := x.par ▸ x.n

section
variable {w : World} {G b : Heap} {A : Around} {n : Nat} {o : Own} {M : Mem} {S : St} {f : Fram} {m : Locs} {env : Env} {ns : List (Str × NameKind)}
theorem hp_size (W : Wld (KK w) G) (hA : AOk (n + 2) A) (R : RA w b o M S) (X : Fit S) : DT w G A (.call (.ref 326) ⟨[.ref M.h], []⟩) b fun v b₁ => b = b₁ ∧ ∃ t, v = .int (Int.ofNat S.nodes.length) t := by
  refine call_def (binds := [("self", .ref M.h)]) W (fn_heap_size w) hA (fun _ _ _ _ _ => rfl) rfl fun L' hid env O => ?_
  have hA' := hA.deeper env
  refine t_cons (t_ret (e_method W (e_fld W O rfl rfl rfl R.h.inst.inst (f_heap_bank w) rfl rfl ⟨M.bk, cBank, _, _, rfl, R.k.inst.inst, m_bank_size w, rfl, e_spl_nil (CT.of_DT ((bk_size W hA' R.k X.n).mono ?_) _ _)⟩)))
  rintro _ _ ⟨rfl, t, rfl⟩
  exact ⟨rfl, t, rfl⟩
theorem hp_find (W : Wld (KK w) G) (hA : AOk (n + 2) A) (R : RA w b o M S) (X : Fit S) {a : Nat} {t : Tok} (ha : a < S.nodes.length) : DT w G A (.call (.ref 355) ⟨[.ref M.h, .int (Int.ofNat a) t], []⟩) b fun v b₁ => b = b₁ ∧ ∃ t, v = .int (Int.ofNat (root S.par a)) t := by
  refine call_def (binds := [("self", .ref M.h), ("n", .int (Int.ofNat a) t)]) W (fn_heap_find w) hA (fun _ _ _ _ _ => rfl) rfl fun L' hid env O => ?_
  have hA' := hA.deeper env
  refine t_cons (t_ret (e_method W (e_fld W O rfl rfl rfl R.h.inst.inst (f_heap_unions w) rfl rfl ⟨M.un, cUnions, _, _, rfl, R.u.inst.inst, m_un_find w, rfl, e_spl_cons (e_local O rfl rfl rfl (e_spl_nil (CT.of_DT ((un_find W hA' R.u X.plen (by rw [X.par]; exact ha) X.le).mono ?_) _ _)))⟩)))
  rintro _ _ ⟨rfl, t, rfl⟩
  exact ⟨rfl, t, rfl⟩
inductive FindC (b : Heap) (ks : List Nat) (f : Nat → Nat) (i : Nat) (ys : List Value) (b' : Heap) : Prop
  | mk (h1 : b = b') (h2 : Nums ys ((ks.take i).map f))
/-- [self.find(x) for x in e] -/
theorem find_comp (W : Wld (KK w) G) (hA : AOk (n + 3) A) (O : EnvOk env f ns) {x : Str} {iter : PySem.Expr} {scope : Scope} {cl : List (Str × Addr)} {p1 p2 p3 p4 p5 pos : Pos} {pl : Env → Sem Bool} {P : Value → Heap → Prop}
    (hcl : closOf f.cl scope.names [] = some cl) (hcell : (scope.names.all fun x => x.2 != .cell) = true) (hkind : scope.kind = .function) (hx : scope.names.lookup x = some .local) (hxc : cl.lookup x = none)
    (hnames : (scope.names.all fun x => x.2 != .local || scope.names.lookup x.1 == some .local) = true) (hin : ∀ p ∈ cl, f.cl.lookup p.1 = some p.2)
    {c0 : Addr} (hself : (compNs ns scope.names).lookup ("self" : Str) = some .cell) (hc0 : cl.lookup ("self" : Str) = some c0) (hm : m "self" = some (.ref M.h)) (hxs : ("self" : Str) ≠ x) (X : Fit S)
    (k : ET w G A f (eval iter env) b m fun v b₁ => ∃ a vs ks, v = .ref a ∧ LT b₁ a vs ∧ Nums vs ks ∧ (∀ x ∈ ks, x < S.nodes.length) ∧ ks.length ≤ lim ∧ RA w b₁ o M S ∧
      ∀ c b₂ us, Ext b₁ b₂ → b₁.get? c = none → Ls b₂ c us → Nums us (ks.map (root S.par)) → P (.ref c) b₂)
    (hs : ∀ x, foldedSetIterable iter env x = pure x := by intro _; rfl)
    (hd : (x == ("__debug__" : Str)) = false := by decide)
    (he : ∀ env : Env, eval (.Call (.Attribute (.Name "self" p1) "find" p2) [.Name x p3] [] p4) env = (do
      let ov ← eval (.Name "self" p1) env
      standAt p2.atName
      let (f, first) ← holding [ov] (getMethod ov "find" (pl env))
      callWith p4 f first (backTo p4 (starEach [.Name x p3] env)) (backToKw p4 (keywordEach [] env))) := by intro _; rfl) :
    ET w G A f (eval (.ListComp (.Call (.Attribute (.Name "self" p1) "find" p2) [.Name x p3] [] p4) [⟨.Name x p5, iter, [], 0⟩] scope pos) env) b m P := by
  have lz := lim_size
  refine e_comp O hcl hcell hkind hx hxc hnames hin (k.mono fun v b₁ q => ?_) hs
  obtain ⟨a, vs, ks, rfl, L, N, hb, hk, R₁, q⟩ := q
  have hkl := N.length
  have it : ItV w G A b₁ (.ref a) vs.length (fun i v => vs[i]? = some v) [a] := L.elim (fun l => itv_list hA.hd l) fun l => itv_tuple hA.hd l
  refine ⟨_, _, _, it, by omega, FindC b₁ ks (root S.par), ⟨rfl, by rw [List.take_zero]; exact .nil⟩, (fun i ys b' j c hc o ho => by obtain ⟨rfl, _⟩ := j; exact ho), ?_, ?_⟩
  · rintro i ys b' v C' hid env' hi' ⟨rfl, hy⟩ pv O'
    have hlt : i < ks.length := by rw [← hkl]; exact hi'
    obtain ⟨t2, e⟩ := N.get (List.getElem?_eq_getElem hlt)
    rw [e] at pv
    cases pv
    have hs' : (if ("self" : Str) = x then some (Value.int (Int.ofNat ks[i]) t2) else if (cl.lookup ("self" : Str)).isSome = true then m "self" else none) = some (.ref M.h) := by
      rw [if_neg hxs, hc0, Option.isSome_some, if_pos rfl]; exact hm
    refine e_mthc W O' hself hc0 hs' R₁.h.inst.inst (m_heap_find w) rfl (e_spl_cons (e_local O' (compNs_local hx) hxc (if_pos rfl) (e_spl_nil (CT.of_DT ((hp_find (n := n) W (hA.mono (by first | exact lo rfl | omega)) R₁ X (hb _ (List.getElem_mem hlt))).mono ?_))) hd)) (by decide) (he _)
    rintro _ _ ⟨rfl, t, rfl⟩
    refine ⟨rfl, ?_⟩
    rw [List.take_add_one, List.getElem?_eq_getElem hlt, Option.toList_some, List.map_append]
    exact hy.append (.one _ _)
  · rintro D ys b' b₃ ⟨rfl, hy⟩ e₃ nD l
    refine q D b₃ ys e₃ nD l ?_
    rw [List.take_of_length_le (by omega)] at hy
    exact hy

/-- a node's key, by the classes of its kids -/
def St.key (S : St) (q : Str × List Nat) : Str × List Nat := (q.1, q.2.map (root S.par))
theorem hp_node (W : Wld (KK w) G) (hA : AOk (n + 4) A) (k : Ok G b o) (R : RA w b o M S) (X : Fit S) {i : Nat} {q : Str × List Nat} {t : Tok} (hq : S.nodes[i]? = some q) :
    DT w G A (.call (.ref 331) ⟨[.ref M.h, .int (Int.ofNat i) t], []⟩) b fun v b₁ => Ext b b₁ ∧ ∃ a, v = .ref a ∧ b.get? a = none ∧ FR b₁ o a (S.key q) := by
  have hkd := X.kids i q hq
  have hi : i < S.nodes.length := (List.getElem?_eq_some_iff.mp hq).1
  refine call_def (binds := [("self", .ref M.h), ("n", .int (Int.ofNat i) t)]) W (fn_heap_node w) hA (fun _ _ _ _ _ => rfl) rfl fun L' hid env O => ?_
  have hA' := hA.deeper env
  refine t_cons (t_ret (e_node W O rfl (b_tuple w).1 (b_tuple w).2 (e_method W (e_fldc W O rfl rfl rfl R.h.inst.inst (f_heap_bank w) rfl rfl ⟨M.bk, cBank, _, _, rfl, R.k.inst.inst, m_bank_op w, rfl, e_spl_cons (e_local O rfl rfl rfl (e_spl_nil (CT.of_DT ((bk_op W hA' R.k X.n hq hkd.1).mono ?_) _ _)))⟩))))
  rintro _ _ ⟨rfl, t1, rfl⟩ ta b₂ e₂ n₂ l₂
  have R₂ := R.ext e₂
  refine find_comp (n := n) (o := o) W (hA'.mono (by first | exact lo rfl | omega)) O rfl rfl rfl rfl rfl rfl (fun p hp => by rw [List.mem_singleton.mp hp]; rfl) rfl rfl rfl (by decide) X (e_method W (e_fldc W O rfl rfl rfl R₂.h.inst.inst (f_heap_bank w) rfl rfl ⟨M.bk, cBank, _, _, rfl, R₂.k.inst.inst, m_bank_kids w, rfl, e_spl_cons (e_local O rfl rfl rfl (e_spl_nil (CT.of_DT ((bk_kids W hA' (k.ext e₂) R₂.k X.n hq hkd.1).mono ?_) _ _)))⟩))
  rintro _ b₃ ⟨e₃, a, vs, rfl, n₃, l₃, N₃⟩
  refine ⟨a, vs, q.2, rfl, .inr l₃, N₃, fun x hx => Nat.lt_trans (hkd.2 x hx) hi, hkd.1, R₂.ext e₃, fun c b₄ us e₄ n₄ l₄ N₄ => ⟨c, us, rfl, .inl l₄, by have := N₄.length; rw [List.length_map] at this; have := hkd.1; omega, (l₂.ext e₃).ext e₄, fun b₅ d e₅ hd l₅ => ?_⟩⟩
  have e₂₅ : Ext b₂ b₅ := (e₃.trans e₄).trans e₅
  have nd : b.get? d = none := hd.elim (fun h => e₂.none (e₃.none (e₄.none h))) fun h => h ▸ n₂
  exact ⟨e₂.trans e₂₅, d, rfl, nd, ⟨t1, us, l₅, N₄⟩, k.own_new nd⟩

theorem hp_seek (W : Wld (KK w) G) (hA : AOk (n + 4) A) (k : Ok G b o) (R : RA w b o M S) (X : Fit S) {op : Str} {t : Tok} {ka : Addr} {kvs : List Value} {ks : List Nat} (L : LT b ka kvs) (N : Nums kvs ks) (hk : ks.length ≤ lim) (hb : ∀ x ∈ ks, x < S.nodes.length) :
    DT w G A (.call (.ref 423) ⟨[.ref M.h, .str op t, .ref ka], []⟩) b fun v b₁ => Ext b b₁ ∧ match S.known (S.key (op, ks)) with | some i => ∃ t, v = .int (Int.ofNat (root S.par i)) t | none => ∃ t, v = .int (-1) t := by
  refine call_def (binds := [("self", .ref M.h), ("op", .str op t), ("classes", .ref ka)]) W (fn_heap_seek w) hA (fun _ _ _ _ _ => rfl) rfl fun L' hid env O => ?_
  have hA' := hA.deeper env
  refine t_cons (t_assign (e_dmeth PySem.F.slot_dict_get PySem.F.type_dict_get (e_fldc W O rfl rfl rfl R.h.inst.inst (f_heap_known w) rfl rfl ⟨M.hk, rfl, R.h.hk.td.exact, e_spl_cons (e_node W O rfl (b_tuple w).1 (b_tuple w).2 (e_local O rfl rfl rfl fun ta b₂ e₂ n₂ l₂ => ?_))⟩)))
  have R₂ := R.ext e₂
  refine find_comp (n := n) (o := o) W (hA'.mono (by first | exact lo rfl | omega)) O rfl rfl rfl rfl rfl rfl (fun p hp => by rw [List.mem_singleton.mp hp]; rfl) rfl rfl rfl (by decide) X (e_local O rfl rfl rfl ⟨ka, kvs, ks, rfl, L.ext e₂, N, hb, hk, R₂, fun c b₄ us e₄ n₄ l₄ N₄ => ⟨c, us, rfl, .inl l₄, by have := N₄.length; rw [List.length_map] at this; omega, l₂.ext e₄, fun b₅ d e₅ hd l₅ => ?_⟩⟩)
  have e₅' : Ext b b₅ := e₂.trans (e₄.trans e₅)
  have R₅ := R.ext e₅'
  have row : Row b₅ d (S.key (op, ks)) := ⟨t, us, l₅, N₄⟩
  refine e_spl_cons (e_negc fun t1 => e_spl_nil (c_td_getd (n := n) (hA'.mono (by first | exact lo rfl | omega)) R₅.h.hk.td row ?_ _ _))
  cases hT : S.known (S.key (op, ks)) with
  | none =>
    refine s_local O rfl rfl (t_cons (t_ret (e_ifexp (i_cmp (e_local O rfl rfl (if_pos rfl) (e_int fun t2 => c_lt_int ⟨_, rfl, fun c => e_negc fun t3 => ⟨e₅', t3, rfl⟩, fun c => ?_⟩ _ _))))))
    simp at c
  | some i =>
    have hi := X.known _ _ hT
    intro t4
    refine s_local O rfl rfl (t_cons (t_ret (e_ifexp (i_cmp (e_local O rfl rfl (if_pos rfl) (e_int fun t2 => c_lt_int ⟨_, rfl, fun c => ?_, fun _ => ?_⟩ _ _))))))
    · simp at c; omega
    · refine e_mthc W O rfl rfl rfl R₅.h.inst.inst (m_heap_find w) rfl (e_spl_cons (e_local O rfl rfl (if_pos rfl) (e_spl_nil (CT.of_DT ((hp_find (n := n) W (hA'.mono (by first | exact lo rfl | omega)) R₅ X hi).mono ?_)))))
      rintro _ _ ⟨rfl, t, rfl⟩
      exact ⟨e₅', t, rfl⟩
end
end Mine
end
section
open PySem PySem.W PyProof.Rows PySem.Calls PySem.Spec Builtin
set_option maxRecDepth 100000
set_option linter.unusedVariables false
namespace Mine

structure Fit2 (S : St) : Prop where
  ab : ∀ r : Nat, S.par[r]? = some r → ∃ us, S.abv r = some us
  abl : ∀ (r : Nat) (us : List Nat), S.abv r = some us → us.length ≤ lim
  wait : S.wait.length ≤ lim
  ec : S.ec ≤ lim
  fc : S.fc ≤ lim
  na : S.na ≤ lim
  nk : S.nk ≤ lim
theorem root_fix {par : List Nat} (hle : ∀ i p : Nat, par[i]? = some p → p ≤ i) {a : Nat} (ha : a < par.length) : par[root par a]? = some (root par a) := by
  induction a using Nat.strongRecOn with
  | _ a ih =>
    unfold root
    split
    · rename_i h; exact ih _ h (by omega)
    · rename_i h
      have e : par[a]? = some par[a] := List.getElem?_eq_getElem ha
      have := hle a _ e
      have hd : par.getD a a = par[a] := by simp [List.getD, e]
      rw [hd] at h
      rw [e]; congr 1; omega
def St.join (S : St) (a b : Nat) : St :=
  if root S.par a = root S.par b then { S with ec := S.ec + 1 } else
    { S.uni (min (root S.par a) (root S.par b)) (max (root S.par a) (root S.par b)) with
      ec := S.ec + 1, fc := S.fc + 1, wait := S.wait ++ (S.abv (max (root S.par a) (root S.par b))).getD [],
      abv := fun r => if r = min (root S.par a) (root S.par b) then some ((S.abv (min (root S.par a) (root S.par b))).getD [] ++ (S.abv (max (root S.par a) (root S.par b))).getD []) else
        if r = max (root S.par a) (root S.par b) then none else S.abv r }
theorem St.join_eq {S : St} {x y : Nat} (h : root S.par x = root S.par y) : S.join x y = { S with ec := S.ec + 1 } := if_pos h
theorem St.join_ne {S : St} {x y kp gn : Nat} {ku gu : List Nat} (hne : root S.par x ≠ root S.par y) (h1 : min (root S.par x) (root S.par y) = kp) (h2 : max (root S.par x) (root S.par y) = gn) (hku : S.abv kp = some ku) (hgu : S.abv gn = some gu) :
    S.join x y = { S.uni kp gn with ec := S.ec + 1, fc := S.fc + 1, wait := S.wait ++ gu, abv := fun r => if r = kp then some (ku ++ gu) else if r = gn then none else S.abv r } := by
  unfold St.join
  rw [if_neg hne, h1, h2, hku, hgu, Option.getD_some, Option.getD_some]
section
variable {w : World} {G b : Heap} {A : Around} {n : Nat} {o : Own} {M : Mem} {S : St} {f : Fram} {m : Locs} {env : Env} {ns : List (Str × NameKind)}
theorem hp_join (W : Wld (KK w) G) (hA : AOk (n + 4) A) (k : Ok G b o) (R : RA w b o M S) (X : Fit S) (Y : Fit2 S) {x y : Nat} {t u : Tok} {rv : Value} (hx : x < S.nodes.length) (hy : y < S.nodes.length) :
    DT w G A (.call (.ref 376) ⟨[.ref M.h, .int (Int.ofNat x) t, .int (Int.ofNat y) u, rv], []⟩) b fun v b₁ => (∃ c, v = .bool c) ∧ ∃ o₁, Mv Hp b o b₁ o₁ ∧ RA w b₁ o₁ M (S.join x y) := by
  have lz := lim_size
  have hpl := X.plen
  refine call_defQ (binds := [("self", .ref M.h), ("a", .int (Int.ofNat x) t), ("b", .int (Int.ofNat y) u), ("reason", rv)]) W (fn_heap_join w) hA (fun _ _ _ _ _ => rfl) rfl fun Q hQ L' hid env O => ?_
  have hA' := hA.deeper env
  obtain ⟨es, Le, hE⟩ := R.h.he
  have Ye := Y.ec
  refine t_cons (t_expr O (e_lmeth PySem.F.slot_list_append PySem.F.type_list_append (e_fld W O rfl rfl rfl R.h.inst.inst (f_heap_edges w) rfl rfl ⟨_, _, rfl, Le.ls, e_spl_cons (e_tuple (e_spl_cons (e_local O rfl rfl rfl (e_spl_cons (e_local O rfl rfl rfl (e_spl_cons (e_local O rfl rfl rfl (e_spl_nil ?_))))))))⟩)))
  refine c_newTuple (by simp [sizeLine]) (fun ta b₁ e₁ n₁ l₁ => e_spl_nil (o_append (k.ext e₁) (Le.move (T := fun _ => False) (.ext e₁) id) (by omega) (fun b₂ m₂ Le2 => ⟨nr_none, ?_⟩) _ _)) _ _
  have m02 : Mv (fun q => q = .he) b o b₂ o := (Mv.ext e₁).trans m₂
  have w02 : Mv Hp b o b₂ o := m02.weak fun r h => by rw [h]; decide
  have k₂ := k.move m02
  have U₂ := R.u.move m02 fun r h => by rw [h]; decide
  have K₂ := R.k.move m02 fun r h => by rw [h]; decide
  have I₂ := R.h.inst.move m02
  refine t_cons (t_assign (e_method W (e_fld W O rfl rfl rfl I₂.inst (f_heap_unions w) rfl rfl ⟨M.un, cUnions, _, _, rfl, U₂.inst.inst, m_un_merge w, rfl, e_spl_cons (e_local O rfl rfl rfl (e_spl_cons (e_local O rfl rfl rfl (e_spl_nil (CT.of_DT ((un_merge (n := n) W (hA'.mono (by first | exact lo rfl | omega)) k₂ U₂ hpl X.lots X.lot X.mc X.le (by rw [X.par]; exact hx) (by rw [X.par]; exact hy)).mono ?_) _ _)))))⟩)))
  rintro v b₃ ⟨m₃, hv⟩
  have w03 : Mv Hp b o b₃ o := w02.trans (m₃.weak fun r h => by show r.d < 3; omega)
  have k₃ := k.move w03
  have m03' : ∀ {T : Role → Prop}, (∀ r : Role, r.d = 0 → T r) → T .he → Mv T b o b₃ o := fun h1 h2 => (m02.weak fun r h => h ▸ h2).trans (m₃.weak fun r h => h1 r h)
  have K₃ := R.k.move (m03' (T := fun r => r.d ≠ 1) (fun r h => by omega) (by decide)) fun r h => h
  have I₃ := R.h.inst.move w03
  have Le3 := Le2.move m₃ (by decide)
  have mvh : Mv (fun r => r.d = 0 ∨ r = .he) b o b₃ o := m03' (fun r h => .inl h) (.inr rfl)
  obtain ⟨fs, Lf, hF⟩ := R.h.hf
  have Lf3 := Lf.move mvh (by decide)
  have hk3 := R.h.hk.move mvh (by decide)
  obtain ⟨F, D, hab⟩ := R.h.ha
  have D3 := D.move mvh (by decide)
  have hab3 := abv_move hab mvh (fun r => by simp [Role.d])
  have hw3 := R.h.hw.move mvh (by decide)
  refine s_local O rfl rfl (t_cons (t_if (i_cmp (e_local O rfl rfl (if_pos rfl) (e_none ?_)))))
  rcases hv with ⟨heq, rfl, U₃⟩ | ⟨hne, U₃, a, t1, t2, rfl, ha, l₃⟩
  · refine c_is_none ⟨true, rfl, fun _ => t_cons (t_ret (e_bool (hQ _ _ ⟨⟨_, rfl⟩, o, w03, ?_⟩))), (fun c => by cases c)⟩ _ _
    rw [St.join_eq heq]
    exact ⟨⟨U₃.inst, U₃.ua, U₃.ul, U₃.um⟩, ⟨K₃.inst, K₃.ln, K₃.dn, K₃.lw, K₃.ld⟩, ⟨I₃, ⟨_, Le3, by simp [hE]⟩, ⟨_, Lf3, hF⟩, hk3, ⟨F, D3, hab3⟩, hw3⟩⟩
  · refine c_is_none ⟨false, rfl, (fun c => by cases c), fun _ => t_nil ?_⟩ _ _
    have hpx := root_fix X.le (a := x) (by rw [X.par]; exact hx)
    have hqy := root_fix X.le (a := y) (by rw [X.par]; exact hy)
    have hkp : S.par[min (root S.par x) (root S.par y)]? = some (min (root S.par x) (root S.par y)) := by
      rcases Nat.le_total (root S.par x) (root S.par y) with h | h
      · rw [Nat.min_eq_left h]; exact hpx
      · rw [Nat.min_eq_right h]; exact hqy
    have hgn : S.par[max (root S.par x) (root S.par y)]? = some (max (root S.par x) (root S.par y)) := by
      rcases Nat.le_total (root S.par x) (root S.par y) with h | h
      · rw [Nat.max_eq_right h]; exact hqy
      · rw [Nat.max_eq_left h]; exact hpx
    have hlt : min (root S.par x) (root S.par y) ≠ max (root S.par x) (root S.par y) := Nat.ne_of_lt (min_lt_max hne)
    generalize hkq : min (root S.par x) (root S.par y) = kp at U₃ l₃ hkp hlt
    generalize hgq : max (root S.par x) (root S.par y) = gn at U₃ l₃ hgn hlt
    obtain ⟨ku, hku⟩ := Y.ab kp hkp
    obtain ⟨gu, hgu⟩ := Y.ab gn hgn
    have bku := Y.abl _ _ hku
    have bgu := Y.abl _ _ hgu
    have hk1 := hab3 kp
    rw [hku] at hk1
    obtain ⟨ka, hFk, Lk⟩ := hk1
    have hg1 := hab3 gn
    rw [hgu] at hg1
    obtain ⟨ga, hFg, Lg⟩ := hg1
    refine t_cons (t_assign_tuple (l := [_, _]) (e_local O rfl rfl (if_pos rfl) (c_unpack_tuple hA'.hd l₃ rfl (a_cons (s_name (s_local O rfl rfl (a_cons (s_name (s_local O rfl rfl (a_nil ?_))))))) _ _)))
    have Yf := Y.fc
    have Yw := Y.wait
    refine t_cons (t_expr O (e_lmeth PySem.F.slot_list_append PySem.F.type_list_append (e_fld W O rfl rfl rfl I₃.inst (f_heap_forest w) rfl rfl ⟨_, _, rfl, Lf3.ls, e_spl_cons (e_binop (e_len W O rfl (b_len w).1 (e_fld W O rfl rfl rfl I₃.inst (f_heap_edges w) rfl rfl ⟨_, _, rfl, Le3.ls, by simp; omega, fun t5 => e_int fun t6 => c_sub_int (fun t7 => ?_) _ _⟩) (b_len w).2))⟩)))
    refine e_spl_nil (o_append k₃ Lf3 (by omega) (fun b₄ m₄ Lf4 => ⟨nr_none, ?_⟩) _ _)
    have k₄ := k₃.move m₄
    have I₄ := I₃.move m₄
    have D4 := D3.move m₄ (by decide)
    have Lg4 := Lg.move m₄ (by simp)
    obtain ⟨ws, Lw4, hwN⟩ := (hw3.move m₄ (by decide)).ol
    obtain ⟨gs, Lg4', hgN⟩ := Lg4.ol
    have hwl := hwN.length
    have hgl := hgN.length
    refine t_cons (t_expr O (e_lmeth PySem.F.slot_list_extend PySem.F.type_list_extend (e_fld W O rfl rfl rfl I₄.inst (f_heap_waiting w) rfl rfl ⟨_, _, rfl, Lw4.ls, e_spl_cons (e_sub (ops := fun o i => [o, i]) (e_fld W O rfl rfl rfl I₄.inst (f_heap_above w) rfl rfl (e_local O rfl rfl rfl ⟨D4.kd.sub, c_kd_get (k := Int.ofNat gn) D4.kd (by simp [intKind, Value.isInt]) hFg ?_ _ _⟩)))⟩)))
    refine e_spl_nil (o_extend k₄ Lw4 Lg4'.ls (by omega) (fun b₅ m₅ Lw5 => ⟨nr_none, ?_⟩) _ _)
    have k₅ := k₄.move m₅
    have I₅ := I₄.move m₅
    have D5 := D4.move m₅ (by decide)
    have Lg5 := Lg4'.move m₅ (by simp)
    obtain ⟨kvs, Lk5, hkN⟩ := ((Lk.move m₄ (by simp)).move m₅ (by simp)).ol
    have hkl := hkN.length
    refine t_cons (t_setitem (e_binop (e_sub (ops := fun o i => [o, i]) (e_fld W O rfl rfl rfl I₅.inst (f_heap_above w) rfl rfl (e_local O rfl rfl rfl ⟨D5.kd.sub, c_kd_get (k := Int.ofNat kp) D5.kd (by simp [intKind, Value.isInt]) hFk ?_ _ _⟩)))))
    have Yn := Y.na
    refine e_dmeth PySem.F.slot_dict_pop PySem.F.type_dict_pop (e_fld W O rfl rfl rfl I₅.inst (f_heap_above w) rfl rfl ⟨M.ha, rfl, D5.kd.exact, e_spl_cons (e_local O rfl rfl rfl (e_spl_nil (o_kd_pop (k := Int.ofNat gn) k₅ D5 (by simp [intKind, Value.isInt]) rfl hFg (by omega) (fun b₆ m₆ D6 => ?_) _ _)))⟩)
    have k₆ := k₅.move m₆
    have I₆ := I₅.move m₆
    have Lk6 := Lk5.move m₆ (by simp)
    have Lg6 := Lg5.move m₆ (by simp)
    refine c_add_list Lk6.ls Lg6.ls (by omega) (fun c b₇ e₇ n₇ l₇ => ?_) _ _
    obtain ⟨oc, hoc⟩ := l₇.live
    have m₇ : Mv Hp b₆ o b₇ (give o c (.abv kp)) := .give e₇ n₇ hoc
    have m₇' : Mv (fun _ => False) b₆ o b₇ (give o c (.abv kp)) := .give e₇ n₇ hoc
    have k₇ := k₆.move m₇
    have I₇ := I₆.move m₇
    have D7 := D6.move m₇' id
    refine e_fld W O rfl rfl rfl I₇.inst (f_heap_above w) rfl rfl (e_local O rfl rfl rfl (o_kd_set (k := Int.ofNat kp) k₇ D7 (by simp [intKind, Value.isInt]) (by omega) (fun b₈ m₈ D8 => ?_) _ _))
    have wk : ∀ {r : Role} {b b₁ : Heap} {o : Own}, Mv (fun q => q = r) b o b₁ o → r.d < 3 → Mv Hp b o b₁ o := fun m h => m.weak fun q e => by rw [e]; exact h
    have w48 : Mv Hp b₃ o b₈ (give o c (.abv kp)) := (wk m₄ (by decide)).trans ((wk m₅ (by decide)).trans ((wk m₆ (by decide)).trans (m₇.trans (wk m₈ (by decide)))))
    have v48 : Mv (fun q => q = .hf ∨ q = .hw ∨ q = .ha) b₃ o b₈ (give o c (.abv kp)) :=
      (m₄.weak fun _ h => .inl h).trans ((m₅.weak fun _ h => .inr (.inl h)).trans ((m₆.weak fun _ h => .inr (.inr h)).trans ((m₇'.weak fun _ h => h.elim).trans (m₈.weak fun _ h => .inr (.inr h)))))
    refine t_cons (t_ret (e_bool (hQ _ _ ⟨⟨_, rfl⟩, give o c (.abv kp), w03.trans w48, ?_⟩)))
    rw [St.join_ne hne hkq hgq hku hgu]
    have U8 := U₃.move v48 fun r h => by rcases h with h | h | h <;> rw [h] <;> decide
    have K8 := K₃.move v48 fun r h => by rcases h with h | h | h <;> rw [h] <;> decide
    refine ⟨⟨U8.inst, U8.ua, U8.ul, U8.um⟩, ⟨K8.inst, K8.ln, K8.dn, K8.lw, K8.ld⟩, ⟨I₃.move w48, ⟨_, Le3.move v48 (by simp), by simp [hE]⟩, ⟨_, ((((Lf4.move m₅ (by decide)).move m₆ (by decide)).move m₇' id).move m₈ (by decide)), by simp [hF]⟩, hk3.move v48 (by simp), ⟨fun z => if z = Int.ofNat kp then some (.ref c) else if z = Int.ofNat gn then none else F z, ?_, ?_⟩, ?_⟩⟩
    · refine ⟨?_, D8.own⟩
      have := D8.kd
      have hn : (if Int.ofNat kp = Int.ofNat gn then none else F (Int.ofNat kp)).isSome = true := by
        rw [if_neg (by intro q; exact hlt (Int.ofNat.inj q)), hFk]; rfl
      rw [if_pos hn] at this
      exact this
    · intro r
      show match (if r = kp then some (ku ++ gu) else if r = gn then none else S.abv r) with
        | none => (if Int.ofNat r = Int.ofNat kp then some (Value.ref c) else if Int.ofNat r = Int.ofNat gn then none else F (Int.ofNat r)) = none
        | some us => ∃ a, (if Int.ofNat r = Int.ofNat kp then some (Value.ref c) else if Int.ofNat r = Int.ofNat gn then none else F (Int.ofNat r)) = some (Value.ref a) ∧ OLN b₈ (give o c (.abv kp)) (.abv r) a us
      by_cases h1 : r = kp
      · subst r
        rw [if_pos rfl]
        refine ⟨c, if_pos rfl, ?_⟩
        have q : OL b₇ (give o c (.abv kp)) (.abv kp) c (kvs ++ gs) := ⟨l₇, give_self ..⟩
        have q8 := q.move m₈ (by simp)
        exact ⟨⟨_, q8.ls, hkN.append hgN⟩, q8.own⟩
      · rw [if_neg h1]
        have h1' : ¬ Int.ofNat r = Int.ofNat kp := fun q => h1 (Int.ofNat.inj q)
        rw [if_neg h1']
        by_cases h2 : r = gn
        · subst r; rw [if_pos rfl]; exact if_pos rfl
        · rw [if_neg h2]
          have h2' : ¬ Int.ofNat r = Int.ofNat gn := fun q => h2 (Int.ofNat.inj q)
          rw [if_neg h2']
          exact abv_move hab3 v48 (fun r => by simp) r
    · have q := ((Lw5.move m₆ (by decide)).move m₇' id).move m₈ (by decide)
      exact ⟨⟨_, q.ls, hwN.append hgN⟩, q.own⟩
end
end Mine
end
section
open PySem PySem.W PyProof.Rows PySem.Calls PySem.Spec Builtin
set_option maxRecDepth 100000
set_option linter.unusedVariables false
namespace Mine
def St.learn (S : St) (x : Nat) (q : Str × List Nat) : St := { S with known := fun y => if y = S.key q then some x else S.known y, nk := S.nk + 1 }
def St.look (S : St) (x : Nat) : St := match S.nodes[x]? with
  | none => S
  | some q => match S.known (S.key q) with
    | none => S.learn x q
    | some j => if root S.par j = root S.par x then S else S.join j x
theorem Fit.learn {S : St} (X : Fit S) {x : Nat} {q : Str × List Nat} (hx : x < S.nodes.length) : Fit (S.learn x q) :=
  ⟨X.n, X.par, X.le, X.kids, X.lots, X.lot, X.mc, fun y i h => by
    by_cases hy : y = S.key q
    · have : (if y = S.key q then some x else S.known y) = some i := h
      rw [if_pos hy] at this; cases this; exact hx
    · have : (if y = S.key q then some x else S.known y) = some i := h
      rw [if_neg hy] at this; exact X.known y i this⟩
section
variable {w : World} {G b : Heap} {A : Around} {n : Nat} {o : Own} {M : Mem} {S : St} {f : Fram} {m : Locs} {env : Env} {ns : List (Str × NameKind)}
theorem hp_look (W : Wld (KK w) G) (hA : AOk (n + 5) A) (k : Ok G b o) (R : RA w b o M S) (X : Fit S) (Y : Fit2 S) {x : Nat} {t : Tok} (hx : x < S.nodes.length) :
    DT w G A (.call (.ref 348) ⟨[.ref M.h, .int (Int.ofNat x) t], []⟩) b fun v b₁ => v = .none ∧ ∃ o₁, Mv Hp b o b₁ o₁ ∧ RA w b₁ o₁ M (S.look x) := by
  have lz := lim_size
  have Yk := Y.nk
  obtain ⟨q, hq⟩ : ∃ q, S.nodes[x]? = some q := ⟨_, List.getElem?_eq_getElem hx⟩
  have hlook : S.look x = match S.known (S.key q) with | none => S.learn x q | some j => if root S.par j = root S.par x then S else S.join j x := by unfold St.look; rw [hq]
  rw [hlook]
  refine call_defQ (binds := [("self", .ref M.h), ("n", .int (Int.ofNat x) t)]) W (fn_heap_look_at w) hA (fun _ _ _ _ _ => rfl) rfl fun Q hQ L' hid env O => ?_
  have hA' := hA.deeper env
  refine t_cons (t_assign (e_dmeth PySem.F.slot_dict_setdefault PySem.F.type_dict_setdefault (e_fld W O rfl rfl rfl R.h.inst.inst (f_heap_known w) rfl rfl ⟨M.hk, rfl, R.h.hk.td.exact, e_spl_cons (e_mth W O rfl rfl rfl R.h.inst.inst (m_heap_node w) rfl (e_spl_cons (e_local O rfl rfl rfl (e_spl_nil (CT.of_DT ((hp_node (n := n) W hA' k R X hq).mono ?_))))))⟩)))
  rintro _ b₁ ⟨e₁, a, rfl, na, fr⟩
  have R₁ := R.ext e₁
  have k₁ := k.ext e₁
  -- the test and the join behind it
  have tail : ∀ (b₂ : Heap) (S₂ : St) (j : Nat) (t2 : Tok) (m' : Locs) (St' : St), (∀ b₁ o₁, Mv Hp b o b₁ o₁ → RA w b₁ o₁ M St' → Q .none b₁) → Mv Hp b o b₂ o → RA w b₂ o M S₂ → Fit S₂ → (root S₂.par j ≠ root S₂.par x → Fit2 S₂) → S₂.nodes = S.nodes → j < S.nodes.length → (if root S₂.par j = root S₂.par x then S₂ else S₂.join j x) = St' →
      m' "self" = some (.ref M.h) → m' "n" = some (.int (Int.ofNat x) t) → m' "other" = some (.int (Int.ofNat j) t2) →
      TT w G (A.deeper env) (Fr (scS (inS 14 5)) L' hid) (execs ((bodyS (inS 14 5)).drop 1) env) b₂ m' (Back Q) := by
    intro b₂ S₂ j t2 m' St' hP hm R₂ X₂ Y₂ hn hj hS h1 h2 h3
    refine t_cons (t_if (i_cmp (e_mth W O rfl rfl h1 R₂.h.inst.inst (m_heap_find w) rfl (e_spl_cons (e_local O rfl rfl h3 (e_spl_nil (CT.of_DT ((hp_find (n := n) W (hA'.mono (by first | exact lo rfl | omega)) R₂ X₂ (by rw [hn]; exact hj)).mono ?_))))))))
    rintro _ _ ⟨rfl, t3, rfl⟩
    refine e_mth W O rfl rfl h1 R₂.h.inst.inst (m_heap_find w) rfl (e_spl_cons (e_local O rfl rfl h2 (e_spl_nil (CT.of_DT ((hp_find (n := n) W (hA'.mono (by first | exact lo rfl | omega)) R₂ X₂ (by rw [hn]; exact hx)).mono ?_)))))
    rintro _ _ ⟨rfl, t4, rfl⟩
    refine c_ne_int ⟨_, rfl, fun c => ?_, fun c => ?_⟩ _ _
    · have hne : root S₂.par j ≠ root S₂.par x := fun q => by rw [q] at c; simp at c
      rw [if_neg hne] at hS
      refine t_cons (t_expr O (e_mth W O rfl rfl h1 R₂.h.inst.inst (m_heap_join w) rfl (e_spl_cons (e_local O rfl rfl h3 (e_spl_cons (e_local O rfl rfl h2 (e_spl_cons (e_tuple (e_spl_cons (e_str fun t5 => e_spl_nil ?_)))))))))) 
      refine c_newTuple (by simp [sizeLine]) (fun ta b₃ e₃ n₃ l₃ => e_spl_nil (CT.of_DT ((hp_join (n := n) W (hA'.mono (by first | exact lo rfl | omega)) ((k.move hm).ext e₃) (R₂.ext e₃) X₂ (Y₂ hne) (by rw [hn]; exact hj) (by rw [hn]; exact hx)).mono ?_))) _ _
      rintro _ b₄ ⟨⟨c', rfl⟩, o₄, m₄, R₄⟩
      exact ⟨nr_bool, t_nil (t_nil (hP _ o₄ (hm.trans ((Mv.ext e₃).trans m₄)) (hS ▸ R₄)))⟩
    · have heq : root S₂.par j = root S₂.par x := by
        have : (Int.ofNat (root S₂.par j) != Int.ofNat (root S₂.par x)) = false := c
        simp at this; omega
      rw [if_pos heq] at hS
      exact t_nil (t_nil (hP _ o hm (hS ▸ R₂)))
  refine e_spl_cons (e_local O rfl rfl rfl (e_spl_nil (o_td_setdefault (n := n) k₁ (hA'.mono (by first | exact lo rfl | omega)) R₁.h.hk fr (by omega) (fun j t2 hj => ?_) (fun hT b₂ m₂ D₂ => ?_) _ _)))
  · rw [hj] at hQ
    refine s_local O rfl rfl (tail b₁ S j t2 _ _ (fun _ o₁ m r => hQ _ _ ⟨rfl, o₁, m, r⟩) (.ext e₁) R₁ X (fun _ => Y) rfl (X.known _ _ hj) rfl rfl rfl (if_pos rfl))
  · rw [hT] at hQ
    have w₂ : Mv Hp b o b₂ o := (Mv.ext e₁).trans (m₂.weak fun r h => by rw [h]; decide)
    have hd : ∀ r : Role, (fun q => q = Role.hk) r → r.d ≠ 0 ∧ r.d ≠ 1 := fun r h => by have h' : r = Role.hk := h; rw [h']; decide
    have U₂ := R₁.u.move m₂ fun r h => (hd r h).1
    have K₂ := R₁.k.move m₂ fun r h => (hd r h).2
    obtain ⟨es, Le, hE⟩ := R₁.h.he
    obtain ⟨fs, Lf, hF⟩ := R₁.h.hf
    obtain ⟨F, D, hab⟩ := R₁.h.ha
    have R₂ : RA w b₂ o M (S.learn x q) := ⟨⟨U₂.inst, U₂.ua, U₂.ul, U₂.um⟩, ⟨K₂.inst, K₂.ln, K₂.dn, K₂.lw, K₂.ld⟩,
      ⟨R₁.h.inst.move m₂, ⟨_, Le.move m₂ (by simp), hE⟩, ⟨_, Lf.move m₂ (by simp), hF⟩, D₂, ⟨F, D.move m₂ (by simp), abv_move hab m₂ fun r => by simp⟩, R₁.h.hw.move m₂ (by simp)⟩⟩
    exact s_local O rfl rfl (tail b₂ (S.learn x q) x t _ _ (fun _ o₁ m r => hQ _ _ ⟨rfl, o₁, m, r⟩) w₂ R₂ (X.learn hx) (fun h => (h rfl).elim) rfl hx (if_pos rfl) rfl rfl (if_pos rfl))
theorem hp_merge (W : Wld (KK w) G) (hA : AOk (n + 5) A) (k : Ok G b o) (R : RA w b o M S) (X : Fit S) (Y : Fit2 S) {x y : Nat} {t u : Tok} {rv : Value} (hx : x < S.nodes.length) (hy : y < S.nodes.length) :
    DT w G A (.call (.ref 369) ⟨[.ref M.h, .int (Int.ofNat x) t, .int (Int.ofNat y) u, rv], []⟩) b fun v b₁ => (∃ c, v = .bool c) ∧ ∃ o₁, Mv Hp b o b₁ o₁ ∧ RA w b₁ o₁ M (S.join x y) := by
  refine call_def (binds := [("self", .ref M.h), ("a", .int (Int.ofNat x) t), ("b", .int (Int.ofNat y) u), ("reason", rv)]) W (fn_heap_merge w) hA (fun _ _ _ _ _ => rfl) rfl fun L' hid env O => ?_
  have hA' := hA.deeper env
  refine t_cons (t_ret (e_mth W O rfl rfl rfl R.h.inst.inst (m_heap_join w) rfl (e_spl_cons (e_local O rfl rfl rfl (e_spl_cons (e_local O rfl rfl rfl (e_spl_cons (e_local O rfl rfl rfl (e_spl_nil (CT.of_DT ((hp_join (n := n) W hA' k R X Y hx hy).mono ?_)))))))))))
  rintro _ b₁ ⟨⟨c, rfl⟩, h⟩
  exact ⟨⟨c, rfl⟩, h⟩
/-- one node off the waiting list -/
def St.off (S : St) (xs : List Nat) : St := { S with wait := xs }
inductive SettleJ (w : World) (M : Mem) (b : Heap) (o : Own) (J : Nat → St → Prop) (i : Nat) (b' : Heap) (m' : Locs) : Prop
  | mk (h1 : m' "self" = some (.ref M.h)) (o' : Own) (S' : St) (h2 : Mv Hp b o b' o') (h3 : RA w b' o' M S') (h4 : J i S')
theorem hp_settle (W : Wld (KK w) G) (hA : AOk (n + 6) A) (J : Nat → St → Prop) (hJ : ∀ i S, J i S → Fit S ∧ Fit2 S ∧ (∀ x ∈ S.wait, x < S.nodes.length) ∧ ∀ xs x, S.wait = xs ++ [x] → ∃ j, j < i ∧ J j ((S.off xs).look x)) {i : Nat}
    (k : Ok G b o) (R : RA w b o M S) (h0 : J i S) :
    DT w G A (.call (.ref 383) ⟨[.ref M.h], []⟩) b fun v b₁ => v = .none ∧ ∃ o₁ S₁ j, Mv Hp b o b₁ o₁ ∧ RA w b₁ o₁ M S₁ ∧ J j S₁ ∧ S₁.wait = [] := by
  have lz := lim_size
  refine call_defQ (binds := [("self", .ref M.h)]) W (fn_heap_settle w) hA (fun _ _ _ _ _ => rfl) rfl fun Q hQ L' hid env O => ?_
  have hA' := hA.deeper env
  refine t_cons (t_while (SettleJ w M b o J) ?_ i ⟨rfl, o, S, .refl, R, h0⟩)
  rintro i b' m' ⟨h1, o', S', hm, R', j⟩
  obtain ⟨X, Y, hw, hs⟩ := hJ i S' j
  obtain ⟨ws, Lw, hN⟩ := R'.h.hw.ol
  have hwl := hN.length
  have Yw := Y.wait
  have k' := k.move hm
  refine i_cmp (e_len W O rfl (b_len w).1 (e_fld W O rfl rfl h1 R'.h.inst.inst (f_heap_waiting w) rfl rfl ⟨_, _, rfl, Lw.ls, by omega, fun t => e_int fun t1 => c_gt_int ⟨_, rfl, fun c => ?_, fun c => ?_⟩ _ _⟩) (b_len w).2)
  · obtain ⟨xs, x, hxs⟩ : ∃ xs x, S'.wait = xs ++ [x] := by
      have : S'.wait ≠ [] := fun q => by rw [q] at hwl; rw [hwl] at c; simp at c
      exact ⟨_, _, (List.dropLast_concat_getLast this).symm⟩
    obtain ⟨j', hj', Jn⟩ := hs xs x hxs
    obtain ⟨ws', t2, hws, hN'⟩ : ∃ ws' t2, ws = ws' ++ [.int (Int.ofNat x) t2] ∧ Nums ws' xs := by
      rw [hxs] at hN hwl
      rw [List.length_append, List.length_singleton] at hwl
      have hne : ws ≠ [] := fun q => by rw [q] at hwl; simp at hwl
      obtain ⟨t2, e⟩ := hN.get (i := xs.length) (n := x) (by simp)
      refine ⟨ws.dropLast, t2, ?_, ?_⟩
      · have hl : ws.getLast hne = .int (Int.ofNat x) t2 := by
          rw [List.getLast_eq_getElem]
          have : ws[ws.length - 1]? = some (.int (Int.ofNat x) t2) := by rw [hwl]; exact e
          exact Option.some.inj ((List.getElem?_eq_getElem _).symm.trans this)
        rw [← hl]; exact (List.dropLast_concat_getLast hne).symm
      · have : Nums (ws.take xs.length) ((xs ++ [x]).take xs.length) := by
          show IntsAre _ (List.map _ _)
          rw [List.map_take]; exact IntsAre.take hN _
        rw [List.take_append_of_le_length (Nat.le_refl _), List.take_length] at this
        rwa [List.dropLast_eq_take, hwl, Nat.add_sub_cancel]
    subst hws
    have hxn : x < S'.nodes.length := hw x (by rw [hxs]; simp)
    refine t_cons (t_expr O (e_mth W O rfl rfl h1 R'.h.inst.inst (m_heap_look_at w) rfl (e_spl_cons (e_lmeth PySem.F.slot_list_pop PySem.F.type_list_pop (e_fld W O rfl rfl h1 R'.h.inst.inst (f_heap_waiting w) rfl rfl ⟨_, _, rfl, Lw.ls, e_spl_nil (o_pop k' Lw (by rw [List.length_append, List.length_singleton] at hwl; omega) (fun b₂ m₂ Lw2 => ?_) _ _)⟩)))))
    have w₂ : Mv Hp b' o' b₂ o' := m₂.weak fun r h => by rw [h]; decide
    have hd : ∀ r : Role, (fun q => q = Role.hw) r → r.d ≠ 0 ∧ r.d ≠ 1 := fun r h => by have h' : r = Role.hw := h; rw [h']; decide
    have U₂ := R'.u.move m₂ fun r h => (hd r h).1
    have K₂ := R'.k.move m₂ fun r h => (hd r h).2
    obtain ⟨es, Le, hE⟩ := R'.h.he
    obtain ⟨fs, Lf, hF⟩ := R'.h.hf
    obtain ⟨F, D, hab⟩ := R'.h.ha
    have R₂ : RA w b₂ o' M (S'.off xs) := ⟨⟨U₂.inst, U₂.ua, U₂.ul, U₂.um⟩, ⟨K₂.inst, K₂.ln, K₂.dn, K₂.lw, K₂.ld⟩,
      ⟨R'.h.inst.move m₂, ⟨_, Le.move m₂ (by simp), hE⟩, ⟨_, Lf.move m₂ (by simp), hF⟩, R'.h.hk.move m₂ (by simp), ⟨F, D.move m₂ (by simp), abv_move hab m₂ fun r => by simp⟩, ⟨⟨_, Lw2.ls, hN'⟩, Lw2.own⟩⟩⟩
    have X₂ : Fit (S'.off xs) := ⟨X.n, X.par, X.le, X.kids, X.lots, X.lot, X.mc, X.known⟩
    have Y₂ : Fit2 (S'.off xs) := ⟨Y.ab, Y.abl, by show xs.length ≤ lim; rw [hxs, List.length_append, List.length_singleton] at Yw; omega, Y.ec, Y.fc, Y.na, Y.nk⟩
    refine e_spl_nil (CT.of_DT ((hp_look (n := n) W hA' (k'.move w₂) R₂ X₂ Y₂ hxn).mono ?_))
    rintro _ b₃ ⟨rfl, o₃, m₃, R₃⟩
    exact ⟨nr_none, t_nil ⟨j', hj', h1, o₃, _, hm.trans (w₂.trans m₃), R₃, Jn⟩⟩
  · have hnil : S'.wait = [] := by
      have := of_decide_eq_false c
      have h0 : ws.length = 0 := by simp only [Int.ofNat_eq_natCast] at this; omega
      rw [hwl] at h0
      exact List.length_eq_zero_iff.mp h0
    exact t_nil (hQ _ _ ⟨rfl, o', S', i, hm, R', j, hnil⟩)
end
end Mine
end
section
open PySem PySem.W PyProof.Rows PySem.Calls PySem.Spec Builtin
set_option maxRecDepth 100000
set_option linter.unusedVariables false
namespace Mine
/-- a new node, without users yet -/
def St.bare (S : St) (q : Str × List Nat) : St := { (S.node q).made with abv := fun r => if r = S.nodes.length then some [] else S.abv r, na := S.na + 1 }
/-- a new node stands among its kids' users -/
def St.used (S : St) (n : Nat) (cs : List Nat) : St := { S with abv := fun r => if r ∈ cs then some ((S.abv r).getD [] ++ [n]) else S.abv r }
def St.pre (S : St) (q : Str × List Nat) : St := (S.bare q).used S.nodes.length (q.2.map (root (S.bare q).par))
def St.add (S : St) (q : Str × List Nat) : St := match numOf S.nodes q with | some _ => S | none => (S.pre q).look S.nodes.length
def St.num (S : St) (q : Str × List Nat) : Nat := match numOf S.nodes q with | some i => i | none => S.nodes.length
theorem nat_of_int {vs : List Value} {ms : List Int} (h : IntsAre vs ms) {ns : List Nat} (hm : ∀ z, z ∈ ms → z ∈ ns.map Int.ofNat) : ∃ rs, Nums vs rs ∧ ms = rs.map Int.ofNat := by
  induction h with
  | nil => exact ⟨[], .nil, rfl⟩
  | cons n t _ ih =>
    obtain ⟨rs, h1, h2⟩ := ih fun z hz => hm z (List.mem_cons_of_mem _ hz)
    obtain ⟨x, _, hx⟩ := List.mem_map.mp (hm n (List.mem_cons_self ..))
    subst hx
    exact ⟨x :: rs, .cons _ _ h1, by rw [h2]; rfl⟩
theorem root_append (par : List Nat) (l : List Nat) {x : Nat} (h : x < par.length) : root (par ++ l) x = root par x := by
  induction x using Nat.strongRecOn with
  | _ x ih =>
    have e : (par ++ l).getD x x = par.getD x x := by simp [List.getD, List.getElem?_append_left h]
    unfold root
    rw [e]
    split
    · rename_i h'; exact ih _ h' (by omega)
    · rfl
theorem LT.move {T : Role → Prop} {b b₁ : Heap} {o o₁ : Own} {a : Addr} {vs : List Value} (x : LT b a vs) (h : o a = none) (m : Mv T b o b₁ o₁) : LT b₁ a vs ∧ o₁ a = none := by
  rcases x with ⟨n, x⟩ | ⟨n, x⟩
  · have k := m.old a _ x; exact ⟨.inl ⟨n, k.2.2 (by simp [h])⟩, k.1.trans h⟩
  · have k := m.old a _ x; exact ⟨.inr ⟨n, k.2.2 (by simp [h])⟩, k.1.trans h⟩
theorem OD.mono {w : World} {K : Type} [DecidableEq K] {knd : KeyKind PG w K} {b : Heap} {o : Own} {r : Role} {d : Addr} {f : K → Option Value} {n n' : Nat} (x : OD knd b o r d f n) (h : n ≤ n') : OD knd b o r d f n' :=
  ⟨⟨let ⟨kvs, a, l, c⟩ := x.kd.ex; ⟨kvs, a, Nat.le_trans l h, c⟩, x.kd.nm⟩, x.own⟩
section
variable {w : World} {G b : Heap} {A : Around} {n : Nat} {o : Own} {M : Mem} {S : St} {f : Fram} {m : Locs} {env : Env} {ns : List (Str × NameKind)}
inductive AddI (b₈ : Heap) (o₅ : Own) (h : Addr) (N : Nat) (t1 : Tok) (f : Nat → Option (List Nat)) (F' : Int → Option Value) (rs : List Nat) (i : Nat) (b' : Heap) (m' : Locs) : Prop
  | mk (h1 : Mv (fun r => ∃ j, r = .abv j) b₈ o₅ b' o₅) (h2 : m' "self" = some (.ref h)) (h3 : m' "n" = some (.int (Int.ofNat N) t1))
    (h4 : ∀ r, match f r with | none => F' (Int.ofNat r) = none | some us => ∃ a, F' (Int.ofNat r) = some (.ref a) ∧ OLN b' o₅ (.abv r) a (if r ∈ rs.take i then us ++ [N] else us))
theorem hp_add (W : Wld (KK w) G) (hA : AOk (n + 7) A) (k : Ok G b o) (R : RA w b o M S) (X : Fit S) (hna : S.na ≤ lim) {op : Str} {t : Tok} (hop : goodOp op) {ka : Addr} {kvs : List Value} {ks : List Nat} (L : LT b ka kvs) (hLo : o ka = none) (N : Nums kvs ks) (hk2 : ks.length ≤ 2) (hb : ∀ x ∈ ks, x < S.nodes.length)
    (hX : numOf S.nodes (op, ks) = none → Fit (S.pre (op, ks)) ∧ Fit2 (S.pre (op, ks)) ∧ ∀ x ∈ ks, ∃ us, S.abv (root S.par x) = some us ∧ us.length ≤ lim) :
    DT w G A (.call (.ref 336) ⟨[.ref M.h, .str op t, .ref ka], []⟩) b fun v b₁ => (∃ t, v = .int (Int.ofNat (S.num (op, ks))) t) ∧ ∃ o₁, Mv Hp b o b₁ o₁ ∧ RA w b₁ o₁ M (S.add (op, ks)) := by
  have lz := lim_size
  have hl2 : ks.length ≤ lim := Nat.le_trans hk2 (by decide)
  unfold St.add St.num
  refine call_defQ (binds := [("self", .ref M.h), ("op", .str op t), ("numbers", .ref ka)]) W (fn_heap_add w) hA (fun _ _ _ _ _ => rfl) rfl fun Q hQ L' hid env O => ?_
  have hA' := hA.deeper env
  refine t_cons (t_assign (e_method W (e_fldc W O rfl rfl rfl R.h.inst.inst (f_heap_bank w) rfl rfl ⟨M.bk, cBank, _, _, rfl, R.k.inst.inst, m_bank_take w, rfl, e_spl_cons (e_local O rfl rfl rfl (e_spl_cons (e_local O rfl rfl rfl (e_spl_nil (CT.of_DT ((bk_take (n := n) W (hA'.mono (by first | exact lo rfl | omega)) k R.k X.n hop L N hl2 hb).mono ?_) _ _)))))⟩)))
  rintro v b₁ ⟨m₁, hv⟩
  have w₁ : Mv Hp b o b₁ o := m₁.weak fun r h => by show r.d < 3; omega
  have k₁ := k.move w₁
  have U₁ := R.u.move m₁ fun r h => by omega
  have H₁ := R.h.move m₁ fun r h => by omega
  cases hn : numOf S.nodes (op, ks) with
  | some i =>
    rw [hn] at hv hQ
    obtain ⟨⟨t1, rfl⟩, K₁⟩ := hv
    have hi : i < S.nodes.length := (List.findIdx?_eq_some_iff_getElem.mp hn).1
    refine s_local O rfl rfl (t_cons (t_if (i_cmp (e_local O rfl rfl (if_pos rfl) (e_method W (e_fldc W O rfl rfl rfl H₁.inst.inst (f_heap_unions w) rfl rfl ⟨M.un, cUnions, _, _, rfl, U₁.inst.inst, m_un_size w, rfl, e_spl_nil (CT.of_DT ((un_size (n := n) W (hA'.mono (by first | exact lo rfl | omega)) U₁ X.plen).mono ?_) _ _)⟩))))))
    rintro _ _ ⟨rfl, t2, rfl⟩
    refine c_lt_int ⟨_, rfl, fun c => ?_, fun c => ?_⟩ _ _
    · exact t_cons (t_ret (e_local O rfl rfl (if_pos rfl) (hQ _ _ ⟨⟨t1, rfl⟩, o, w₁, U₁, K₁, H₁⟩)))
    · have := of_decide_eq_false c
      rw [X.par] at this
      simp only [Int.ofNat_eq_natCast] at this
      omega
  | none =>
    rw [hn] at hv hQ
    obtain ⟨⟨t1, rfl⟩, K₁⟩ := hv
    obtain ⟨X3, Y3, hus⟩ := hX hn
    refine s_local O rfl rfl (t_cons (t_if (i_cmp (e_local O rfl rfl (if_pos rfl) (e_method W (e_fldc W O rfl rfl rfl H₁.inst.inst (f_heap_unions w) rfl rfl ⟨M.un, cUnions, _, _, rfl, U₁.inst.inst, m_un_size w, rfl, e_spl_nil (CT.of_DT ((un_size (n := n) W (hA'.mono (by first | exact lo rfl | omega)) U₁ X.plen).mono ?_) _ _)⟩))))))
    rintro _ _ ⟨rfl, t2, rfl⟩
    refine c_lt_int ⟨_, rfl, fun c => ?_, fun c => t_nil ?_⟩ _ _
    · have := of_decide_eq_true c
      rw [X.par] at this
      simp only [Int.ofNat_eq_natCast] at this
      omega
    refine t_cons (t_expr O (e_method W (e_fldc W O rfl rfl rfl H₁.inst.inst (f_heap_unions w) rfl rfl ⟨M.un, cUnions, _, _, rfl, U₁.inst.inst, m_un_make w, rfl, e_spl_nil (CT.of_DT ((un_make (n := n) W (hA'.mono (by first | exact lo rfl | omega)) k₁ U₁ X.plen X.lots).mono ?_) _ _)⟩)))
    rintro _ b₃ ⟨⟨i3, t3, rfl⟩, o₃, m₃, U₃⟩
    refine ⟨nr_int, ?_⟩
    have w₃ : Mv Hp b₁ o b₃ o₃ := m₃.weak fun r h => by show r.d < 3; omega
    have k₃ := k₁.move w₃
    have K₃ := K₁.move m₃ fun r h => by omega
    have H₃ := H₁.move m₃ fun r h => by omega
    obtain ⟨F, D, hab⟩ := H₃.ha
    refine t_cons (t_setitem (e_list (e_spl_nil (c_newList (by simp) (fun la b₄ e₄ n₄ l₄ => ?_) _ _))))
    obtain ⟨oc, hoc⟩ := l₄.live
    have m₄ : Mv (fun _ => False) b₃ o₃ b₄ (give o₃ la (.abv S.nodes.length)) := .give e₄ n₄ hoc
    have w₄ : Mv Hp b₃ o₃ b₄ (give o₃ la (.abv S.nodes.length)) := m₄.weak fun _ h => h.elim
    have k₄ := k₃.move w₄
    have I₄ := H₃.inst.move m₄
    have D4 := D.move m₄ id
    refine e_fldc W O rfl rfl rfl I₄.inst (f_heap_above w) rfl rfl (e_local O rfl rfl (if_pos rfl) (o_kd_set (k := Int.ofNat S.nodes.length) k₄ D4 (by simp [intKind, Value.isInt]) (by omega) (fun b₅ m₅ D5 => ?_) _ _))
    have w₅ : Mv Hp b₄ (give o₃ la (.abv S.nodes.length)) b₅ (give o₃ la (.abv S.nodes.length)) := m₅.weak fun r h => by rw [h]; decide
    have k₅ := k₄.move w₅
    have w15 : Mv Hp b o b₅ (give o₃ la (.abv S.nodes.length)) := w₁.trans (w₃.trans (w₄.trans w₅))
    obtain ⟨es, Le, hE⟩ := H₃.he
    obtain ⟨fs, Lf, hF⟩ := H₃.hf
    have hd : ∀ r : Role, (fun q => q = Role.ha) r → r.d ≠ 0 ∧ r.d ≠ 1 := fun r h => by have h' : r = Role.ha := h; rw [h']; decide
    have U₅ := (U₃.move m₄ fun _ h => h.elim).move m₅ fun r h => (hd r h).1
    have K₅ := (K₃.move m₄ fun _ h => h.elim).move m₅ fun r h => (hd r h).2
    let F' : Int → Option Value := fun z => if z = Int.ofNat S.nodes.length then some (.ref la) else F z
    have D5' : OD (intKind PG w) b₅ (give o₃ la (.abv S.nodes.length)) .ha M.ha F' (S.na + 1) := D5.mono (by split <;> omega)
    have hab5 : ∀ r, match (S.bare (op, ks)).abv r with | none => F' (Int.ofNat r) = none | some us => ∃ a, F' (Int.ofNat r) = some (.ref a) ∧ OLN b₅ (give o₃ la (.abv S.nodes.length)) (.abv r) a us := by
      intro r
      show match (if r = S.nodes.length then some [] else S.abv r) with | none => (if Int.ofNat r = Int.ofNat S.nodes.length then some (Value.ref la) else F (Int.ofNat r)) = none | some us => ∃ a, (if Int.ofNat r = Int.ofNat S.nodes.length then some (Value.ref la) else F (Int.ofNat r)) = some (.ref a) ∧ OLN b₅ (give o₃ la (.abv S.nodes.length)) (.abv r) a us
      by_cases hr : r = S.nodes.length
      · subst hr
        rw [if_pos rfl, if_pos rfl]
        have q : OL b₄ (give o₃ la (.abv S.nodes.length)) (.abv S.nodes.length) la [] := ⟨l₄, give_self ..⟩
        have q5 := q.move m₅ (by simp)
        exact ⟨la, rfl, ⟨_, q5.ls, .nil⟩, q5.own⟩
      · rw [if_neg hr, if_neg fun q => hr (Int.ofNat.inj q)]
        exact abv_move (abv_move hab m₄ fun r h => h) m₅ (fun r => by simp) r
    have R₅ : RA w b₅ (give o₃ la (.abv S.nodes.length)) M (S.bare (op, ks)) := ⟨⟨U₅.inst, U₅.ua, U₅.ul, U₅.um⟩, ⟨K₅.inst, K₅.ln, K₅.dn, K₅.lw, K₅.ld⟩,
      ⟨I₄.move m₅, ⟨_, (Le.move m₄ id).move m₅ (by simp), hE⟩, ⟨_, (Lf.move m₄ id).move m₅ (by simp), hF⟩, (H₃.hk.move m₄ id).move m₅ (by simp), ⟨F', D5', hab5⟩, (H₃.hw.move m₄ id).move m₅ (by simp)⟩⟩
    have X5 : Fit (S.bare (op, ks)) := ⟨X3.n, X3.par, X3.le, X3.kids, X3.lots, X3.lot, X3.mc, X3.known⟩
    have hnl : (S.bare (op, ks)).nodes.length = S.nodes.length + 1 := by simp [St.bare, St.node, St.made]
    obtain ⟨L5, hL5⟩ := L.move hLo w15
    generalize hown : give o₃ la (.abv S.nodes.length) = o₅ at k₅ R₅ hab5 D5' w15 L5 hL5
    refine t_cons (t_for (e_call (e_builtin W O rfl (b_sorted w).1 (b_sorted w).2 (by decide) (e_callWith keeps3_builtin (e_spl_cons (e_call (e_builtin W O rfl (b_set w).1 (b_set w).2 (by decide) (e_callWith keeps3_type (e_spl_cons ?_)))))))))
    refine find_comp (n := n) (o := o₅) W (hA'.mono (by first | exact lo rfl | omega)) O rfl rfl rfl rfl rfl rfl (fun p hp => by rw [List.mem_singleton.mp hp]; rfl) rfl rfl rfl (by decide) X5 (e_local O rfl rfl rfl ⟨ka, kvs, ks, rfl, L5, N, fun x hx => by rw [hnl]; exact Nat.lt_succ_of_lt (hb x hx), hl2, R₅, fun c₆ b₆ us₆ e₆ n₆ l₆ N₆ => ?_⟩)
    have hroots : ks.map (root (S.bare (op, ks)).par) = ks.map (root S.par) := List.map_congr_left fun x hx => root_append _ _ (by show x < S.par.length; rw [X.par]; exact hb x hx)
    refine e_spl_nil (c_set hA'.hd l₆ N₆ (by simpa using hk2) (fun c₇ b₇ ms e₇ n₇ s₇ hmem => ?_) _ _)
    refine e_spl_nil (c_sorted_set hA'.hd s₇ (fun c₈ b₈ vs₈ ms₈ e₈ n₈ l₈ N₈ hperm => ?_) _ _)
    have hnd : ms₈.Nodup := hperm.nodup_iff.mpr s₇.nd
    obtain ⟨rs, NR, hms⟩ := nat_of_int N₈ (ns := ks.map (root (S.bare (op, ks)).par)) fun z hz => (hmem z).mp (hperm.mem_iff.mp hz)
    have hrs : ∀ z, z ∈ rs ↔ z ∈ ks.map (root S.par) := fun z => by
      rw [← hroots]
      have h1 : z ∈ rs ↔ Int.ofNat z ∈ ms₈ := by
        rw [hms]
        constructor
        · intro h; exact List.mem_map_of_mem h
        · intro h; obtain ⟨y, hy, e⟩ := List.mem_map.mp h; cases e; exact hy
      rw [h1, hperm.mem_iff, hmem]
      constructor
      · intro h; obtain ⟨y, hy, e⟩ := List.mem_map.mp h; cases e; exact hy
      · intro h; exact List.mem_map_of_mem h
    have hrn : rs.Nodup := by
      rw [hms] at hnd
      exact List.Pairwise.of_map Int.ofNat (fun a b (h : Int.ofNat a ≠ Int.ofNat b) e => h (congrArg _ e)) hnd
    have e58 : Ext b₅ b₈ := (e₆.trans e₇).trans e₈
    have k₈ := k₅.ext e58
    have R₈ := R₅.ext e58
    have oc8 : o₅ c₈ = none := (k₅.ext (e₆.trans e₇)).own_new n₈
    have hlen8 := NR.length
    have hab8 := abv_move (T := fun _ => False) hab5 (.ext e58) fun r h => h
    have D8 : OD (intKind PG w) b₈ o₅ .ha M.ha F' (S.na + 1) := D5'.move (T := fun _ => False) (.ext e58) id
    refine ⟨_, _, _, itv_list hA'.hd l₈, AddI b₈ o₅ M.h S.nodes.length t1 (S.bare (op, ks)).abv F' rs, ⟨.refl, rfl, if_pos rfl, ?_⟩, ?_, ?_, ?_⟩
    · intro r
      have := hab8 r
      cases e : (S.bare (op, ks)).abv r with
      | none => rw [e] at this; exact this
      | some us => rw [e] at this; rw [List.take_zero]; simpa using this
    · rintro i b' m' ⟨hm, _⟩ c hc y hy
      rw [List.mem_singleton.mp hc] at hy ⊢
      exact hm.keep (by simp [oc8]) y hy
    · rintro i b' m' v l hi' ⟨hm, h1, h2, h3⟩ pv
      have Om := O.more l
      have hlt : i < rs.length := by rw [← hlen8]; exact hi'
      obtain ⟨t9, e9⟩ := NR.get (List.getElem?_eq_getElem hlt)
      rw [e9] at pv
      cases pv
      generalize hc9 : rs[i] = c9
      have hc9m : c9 ∈ rs := hc9 ▸ List.getElem_mem hlt
      obtain ⟨x, hx, hxc⟩ := List.mem_map.mp ((hrs c9).mp hc9m)
      obtain ⟨us9, hus9, hul9⟩ := hus x hx
      rw [hxc] at hus9
      have hc9n : c9 ≠ S.nodes.length := by
        have h1 := root_le S.par x
        have h2 := hb x hx
        omega
      have hbare : (S.bare (op, ks)).abv c9 = some us9 := by show (if c9 = S.nodes.length then some [] else S.abv c9) = _; rw [if_neg hc9n]; exact hus9
      have hnot : c9 ∉ rs.take i := by
        intro q
        have := hrn
        rw [← List.take_append_drop i rs] at this
        have h3 := (List.nodup_append.mp this).2.2 c9 q c9 (by rw [List.drop_eq_getElem_cons hlt, hc9]; simp)
        exact h3 rfl
      have hc := h3 c9
      rw [hbare] at hc
      obtain ⟨a9, hF9, O9⟩ := hc
      rw [if_neg hnot] at O9
      obtain ⟨v9, L9, N9⟩ := O9.ol
      have k' := k₈.move hm
      have I' := R₈.h.inst.move hm
      have D' := D8.move hm (by simp)
      have hv9 := N9.length
      refine s_name (s_local Om rfl rfl ?_)
      refine TT.hide (J := fun fl bb mm => fl = .next ∧ AddI b₈ o₅ M.h S.nodes.length t1 (S.bare (op, ks)).abv F' rs (i + 1) bb mm) (by rintro _ _ _ ⟨rfl, h⟩; exact h) fun Q1 hN1 => ?_
      refine t_cons (t_expr Om (e_lmeth PySem.F.slot_list_append PySem.F.type_list_append (e_sub (ops := fun o i => [o, i]) (e_fldc W Om rfl rfl h1 I'.inst (f_heap_above w) rfl rfl (e_local Om rfl rfl (if_pos rfl) ⟨D'.kd.sub, c_kd_get (k := Int.ofNat c9) D'.kd (by simp [intKind, Value.isInt]) hF9 ⟨a9, v9, rfl, L9.ls, ?_⟩ _ _⟩)))))
      refine e_spl_cons (e_local Om rfl rfl h2 (e_spl_nil (o_append k' L9 (by omega) (fun b₉ m₉ L9' => ⟨nr_none, ?_⟩) _ _)))
      refine t_nil (hN1 _ _ _ ⟨rfl, hm.trans (m₉.weak fun r h => ⟨_, h⟩), h1, h2, fun r => ?_⟩)
      have htake : rs.take (i + 1) = rs.take i ++ [c9] := by rw [List.take_add_one, List.getElem?_eq_getElem hlt, hc9]; rfl
      by_cases hr : r = c9
      · subst r
        rw [hbare]
        refine ⟨a9, hF9, ?_⟩
        rw [if_pos (by rw [htake]; simp)]
        exact ⟨⟨_, L9'.ls, N9.append (.one _ _)⟩, L9'.own⟩
      · have := h3 r
        cases e : (S.bare (op, ks)).abv r with
        | none => rw [e] at this; exact this
        | some us =>
          rw [e] at this
          obtain ⟨a, hFa, Oa⟩ := this
          refine ⟨a, hFa, ?_⟩
          have : (r ∈ rs.take (i + 1)) ↔ r ∈ rs.take i := by rw [htake]; simp [hr]
          simp only [this]
          exact Oa.move m₉ fun q => hr (Role.abv.inj q)
    · rintro b' m' ⟨hm, h1, h2, h3⟩
      have hTd : ∀ r : Role, (∃ j, r = .abv j) → r.d = 2 := fun r ⟨j, h⟩ => by rw [h]; rfl
      have wm : Mv Hp b₈ o₅ b' o₅ := hm.weak fun r h => by have := hTd r h; show r.d < 3; omega
      have k' := k₈.move wm
      have U' := R₈.u.move hm fun r h => by have := hTd r h; omega
      have K' := R₈.k.move hm fun r h => by have := hTd r h; omega
      obtain ⟨es, Le, hE⟩ := R₈.h.he
      obtain ⟨fs, Lf, hF⟩ := R₈.h.hf
      have hlen : vs₈.length = rs.length := hlen8
      rw [hlen, List.take_length] at h3
      have R' : RA w b' o₅ M (S.pre (op, ks)) := ⟨⟨U'.inst, U'.ua, U'.ul, U'.um⟩, ⟨K'.inst, K'.ln, K'.dn, K'.lw, K'.ld⟩,
        ⟨R₈.h.inst.move hm, ⟨_, Le.move hm (by simp), hE⟩, ⟨_, Lf.move hm (by simp), hF⟩, R₈.h.hk.move hm (by simp), ⟨F', D8.move hm (by simp), fun r => ?_⟩, R₈.h.hw.move hm (by simp)⟩⟩
      · refine t_cons (t_expr O (e_mthc W O rfl rfl h1 R'.h.inst.inst (m_heap_look_at w) rfl (e_spl_cons (e_local O rfl rfl h2 (e_spl_nil (CT.of_DT ((hp_look (n := n) W (hA'.mono (by first | exact lo rfl | omega)) k' R' X3 Y3 (by show S.nodes.length < (S.bare (op, ks)).nodes.length; rw [hnl]; exact Nat.lt_succ_self _)).mono ?_)))))))
        rintro _ b₉ ⟨rfl, o₉, m₉, R₉⟩
        refine ⟨nr_none, t_cons (t_ret (e_local O rfl rfl h2 (hQ _ _ ⟨⟨t1, rfl⟩, o₉, ?_, R₉⟩)))⟩
        exact w15.trans ((Mv.ext e58).trans (wm.trans m₉))
      · have := h3 r
        show match (if r ∈ ks.map (root (S.bare (op, ks)).par) then some (((S.bare (op, ks)).abv r).getD [] ++ [S.nodes.length]) else (S.bare (op, ks)).abv r) with | none => F' (Int.ofNat r) = none | some us => ∃ a, F' (Int.ofNat r) = some (.ref a) ∧ OLN b' o₅ (.abv r) a us
        rw [hroots]
        by_cases hr : r ∈ rs
        · have hr' := (hrs r).mp hr
          rw [if_pos hr']
          obtain ⟨x, hx, hxc⟩ := List.mem_map.mp hr'
          obtain ⟨us9, hus9, _⟩ := hus x hx
          rw [hxc] at hus9
          have hrn' : r ≠ S.nodes.length := by
            have h1 := root_le S.par x
            have h2 := hb x hx
            omega
          have hbare : (S.bare (op, ks)).abv r = some us9 := by show (if r = S.nodes.length then some [] else S.abv r) = _; rw [if_neg hrn']; exact hus9
          rw [hbare] at this ⊢
          obtain ⟨a, h4, h5⟩ := this
          rw [if_pos hr] at h5
          exact ⟨a, h4, h5⟩
        · rw [if_neg fun q => hr ((hrs r).mpr q)]
          cases e : (S.bare (op, ks)).abv r with
          | none => rw [e] at this; exact this
          | some us => rw [e] at this; obtain ⟨a, h4, h5⟩ := this; rw [if_neg hr] at h5; exact ⟨a, h4, h5⟩
end
end Mine
end
section
open PySem PySem.W PyProof.Rows PySem.Calls PySem.Spec Builtin
set_option maxRecDepth 100000
set_option linter.unusedVariables false
namespace Mine

/-! makers -/
abbrev Sk (dx : Addr) (b b' : Heap) : Prop := ∀ c y, c ≠ dx → b.get? c = some y → b'.get? c = some y
abbrev F0 (_ : Role) : Prop := False
section
variable {w : World} {G b b' b₀ : Heap} {A : Around} {n : Nat} {o o₀ : Own} {dx : Addr}
theorem Mv.skip (m : Mv F0 b₀ o₀ b o) (n₀ : b₀.get? dx = none) (hd : o dx = none) (h : Sk dx b b') : Mv F0 b₀ o₀ b' o := by
  refine ⟨fun d x e => ?_, fun d r e => ?_⟩
  · have hne : d ≠ dx := fun q => by rw [q, n₀] at e; cases e
    obtain ⟨p, ⟨y, q⟩, s⟩ := m.old d x e
    exact ⟨p, ⟨y, h d y hne q⟩, fun k => h d x hne (s k)⟩
  · have hne : d ≠ dx := fun q => by rw [q, hd] at e; cases e
    rcases m.new d r e with q | ⟨q, y, z⟩
    · exact .inl q
    · exact .inr ⟨q, y, h d y hne z⟩
theorem OL.skip {r : Role} {a : Addr} {vs : List Value} (x : OL b o r a vs) (hd : o dx = none) (h : Sk dx b b') : OL b' o r a vs :=
  ⟨x.ls.at (fun y => h a y fun q => by have := x.own; rw [q, hd] at this; cases this), x.own⟩
structure OE (b : Heap) (o : Own) (r : Role) (d : Addr) : Prop where
  ob : b.get? d = some { cls := .type "dict", data := .dict #[] }
  nm : (d == sysModules) = false
  own : o d = some r
theorem OE.skip {r : Role} {a : Addr} (x : OE b o r a) (hd : o dx = none) (h : Sk dx b b') : OE b' o r a :=
  ⟨h a _ (fun q => by have := x.own; rw [q, hd] at this; cases this) x.ob, x.nm, x.own⟩
theorem OE.move {T : Role → Prop} {o₁ : Own} {r : Role} {a : Addr} (x : OE b o r a) (m : Mv T b o b' o₁) (hr : ¬ T r) : OE b' o₁ r a :=
  let k := m.old a _ x.ob; ⟨k.2.2 fun r' e => by rw [x.own] at e; cases e; exact hr, x.nm, k.1.trans x.own⟩
/-- an instance, and where its dict lies -/
structure FD (b : Heap) (o : Own) (x dx C : Addr) (l : List (Str × Value)) : Prop where
  i : InstD b x dx C l
  x : o x = none
  d : o dx = none
theorem FD.fi {x C : Addr} {l : List (Str × Value)} (h : FD b o x dx C l) : FI b o x C l := ⟨dx, h.i, h.x, h.d⟩
theorem FD.move {T : Role → Prop} {o₁ : Own} {x C : Addr} {l : List (Str × Value)} (h : FD b o x dx C l) (m : Mv T b o b' o₁) : FD b' o₁ x dx C l := by
  obtain ⟨es, n, h1, h2, h3⟩ := h.i
  have k1 := m.old x _ h1
  have k2 := m.old dx _ h2
  exact ⟨⟨es, n, k1.2.2 (by simp [h.x]), k2.2.2 (by simp [h.d]), h3⟩, k1.1.trans h.x, k2.1.trans h.d⟩
theorem FD.skip {x C d' : Addr} {l : List (Str × Value)} (h : FD b o x d' C l) (hx : x ≠ dx) (hd : d' ≠ dx) (s : Sk dx b b') : FD b' o x d' C l := by
  obtain ⟨es, n, h1, h2, h3⟩ := h.i
  exact ⟨⟨es, n, s _ _ hx h1, s _ _ hd h2, h3⟩, h.x, h.d⟩
/-- an instance that is being made, over what stood before -/
structure Mk (G b₀ : Heap) (o₀ : Own) (b : Heap) (o : Own) (x dx C : Addr) (l : List (Str × Value)) : Prop where
  fd : FD b o x dx C l
  ne : dx ≠ x
  n : b₀.get? dx = none
  ok : Ok G b₀ o₀
  mv : Mv F0 b₀ o₀ b o
theorem Mk.k {x C : Addr} {l : List (Str × Value)} (h : Mk G b₀ o₀ b o x dx C l) : Ok G b o := h.ok.move h.mv
theorem Mk.move {x C : Addr} {l : List (Str × Value)} {o' : Own} (h : Mk G b₀ o₀ b o x dx C l) (m : Mv F0 b o b' o') : Mk G b₀ o₀ b' o' x dx C l := ⟨h.fd.move m, h.ne, h.n, h.ok, h.mv.trans m⟩
theorem Mk.g {x C : Addr} {l : List (Str × Value)} (h : Mk G b₀ o₀ b o x dx C l) : G.get? dx = none := h.ok.new h.n
variable {f : Fram} {m : Locs} {env : Env} {ns : List (Str × NameKind)} {K : Frag}
inductive MkOk (G b₀ : Heap) (o₀ : Own) (x dx C : Addr) (l : List (Str × Value)) (nm : Str) (m : Locs) (P : Flow → Heap → Locs → Prop) (v : Value) (b₁ : Heap) : Prop
  | mk (o₁ : Own) (h : Mk G b₀ o₀ b₁ o₁ x dx C l) (hz : l.length ≤ 100) (q : ∀ b₂, Sk dx b₁ b₂ → o₁ dx = none → Mk G b₀ o₀ b₂ o₁ x dx C ((nm, v) :: l) → P .next b₂ m)
/-- self.nm = v -/
theorem mk_set (W : Wld K G) (O : EnvOk env f ns) {x C : Addr} {l : List (Str × Value)} {nm : Str} {value : PySem.Expr} {p1 p2 pos : Pos} {P : Flow → Heap → Locs → Prop} (H : Mk G b₀ o₀ b o x dx C l) (c : ClsFld K C nm)
    (hk : ns.lookup ("self" : Str) = some .local) (hc : f.cl.lookup ("self" : Str) = none) (hm : m "self" = some (.ref x))
    (k : ET w G A f (eval value env) b m (MkOk G b₀ o₀ x dx C l nm m P))
    (hs : swapsWith value (some (.Attribute (.Name "self" p1) nm p2)) pos.line env = pure false := by rfl) : TT w G A f (exec (.Assign [.Attribute (.Name "self" p1) nm p2] value pos) env) b m P := by
  refine t_setattr (k.mono fun v b₁ q => ?_) hs
  obtain ⟨o₁, h, hz, q⟩ := q
  refine e_local O hk hc hm (c_setAttr W h.fd.i c h.g h.ne hz (fun b₂ s i => q b₂ s h.fd.d ?_) _ _)
  refine ⟨⟨i, h.fd.x, h.fd.d⟩, h.ne, h.n, h.ok, h.mv.skip h.n h.fd.d s⟩
inductive BkNew (G b₀ : Heap) (o₀ : Own) (x dx : Addr) (v : Value) (b₁ : Heap) : Prop
  | mk (h : v = .none) (o₁ : Own) (ln dn lw ld : Addr) (h1 : Mk G b₀ o₀ b₁ o₁ x dx cBank [("depths", .ref ld), ("weights", .ref lw), ("numbers", .ref dn), ("nodes", .ref ln)]) (h2 : OL b₁ o₁ .ln ln []) (h3 : OE b₁ o₁ .dn dn) (h4 : OL b₁ o₁ .lw lw []) (h5 : OL b₁ o₁ .ld ld [])
inductive UnNew (G b₀ : Heap) (o₀ : Own) (x dx : Addr) (v : Value) (b₁ : Heap) : Prop
  | mk (h : v = .none) (o₁ : Own) (ua ul um : Addr) (h1 : Mk G b₀ o₀ b₁ o₁ x dx cUnions [("merged", .ref um), ("lots", .ref ul), ("above", .ref ua)]) (h2 : OL b₁ o₁ .ua ua []) (h3 : OL b₁ o₁ .ul ul []) (h4 : OL b₁ o₁ .um um [])
theorem bk_init (W : Wld (KK w) G) (hA : AOk (n + 1) A) {x : Addr} (h : Mk G b₀ o₀ b o x dx cBank []) :
    DT w G A (.call (.ref 93) ⟨[.ref x], []⟩) b (BkNew G b₀ o₀ x dx) := by
  refine call_def (binds := [("self", .ref x)]) W (fn_bank_init w) hA (fun _ _ _ _ _ => rfl) rfl fun L' hid env O => ?_
  refine t_cons (mk_set W O h (f_bank_nodes w) rfl rfl rfl (e_list (e_spl_nil (c_newList (by simp) (fun ln b₁ e₁ n₁ l₁ => ?_) _ _))))
  obtain ⟨c₁, hc₁⟩ := l₁.live
  have h₁ := h.move (Mv.give (r := .ln) e₁ n₁ hc₁)
  refine ⟨_, h₁, by simp, fun b₂ s₂ d₂ h₂ => ?_⟩
  have L₂ := (OL.mk (r := .ln) l₁ (give_self o ln .ln)).skip d₂ s₂
  refine t_cons (mk_set W O h₂ (f_bank_numbers w) rfl rfl rfl (e_dict0 W.nolimit fun dn b₃ e₃ n₃ nm₃ l₃ => ?_))
  have g₃ : Mv F0 b₂ (give o ln .ln) b₃ (give (give o ln .ln) dn .dn) := Mv.give (r := .dn) e₃ n₃ l₃
  have h₃ := h₂.move g₃
  refine ⟨_, h₃, by simp, fun b₄ s₄ d₄ h₄ => ?_⟩
  have L₄ := (L₂.move g₃ id).skip d₄ s₄
  have D₄ := (OE.mk (r := .dn) l₃ nm₃ (give_self _ dn .dn)).skip d₄ s₄
  refine t_cons (mk_set W O h₄ (f_bank_weights w) rfl rfl rfl (e_list (e_spl_nil (c_newList (by simp) (fun lw b₅ e₅ n₅ l₅ => ?_) _ _))))
  obtain ⟨c₅, hc₅⟩ := l₅.live
  have g₅ : Mv F0 b₄ (give (give o ln .ln) dn .dn) b₅ (give (give (give o ln .ln) dn .dn) lw .lw) := Mv.give (r := .lw) e₅ n₅ hc₅
  have h₅ := h₄.move g₅
  refine ⟨_, h₅, by simp, fun b₆ s₆ d₆ h₆ => ?_⟩
  have L₆ := (L₄.move g₅ id).skip d₆ s₆
  have D₆ := (D₄.move g₅ id).skip d₆ s₆
  have E₆ := (OL.mk (r := .lw) l₅ (give_self _ lw .lw)).skip d₆ s₆
  refine t_cons (mk_set W O h₆ (f_bank_depths w) rfl rfl rfl (e_list (e_spl_nil (c_newList (by simp) (fun ld b₇ e₇ n₇ l₇ => ?_) _ _))))
  obtain ⟨c₇, hc₇⟩ := l₇.live
  have g₇ : Mv F0 b₆ (give (give (give o ln .ln) dn .dn) lw .lw) b₇ (give (give (give (give o ln .ln) dn .dn) lw .lw) ld .ld) := Mv.give (r := .ld) e₇ n₇ hc₇
  have h₇ := h₆.move g₇
  refine ⟨_, h₇, by simp, fun b₈ s₈ d₈ h₈ => ?_⟩
  exact t_nil ⟨rfl, _, ln, dn, lw, ld, h₈, (L₆.move g₇ id).skip d₈ s₈, (D₆.move g₇ id).skip d₈ s₈, (E₆.move g₇ id).skip d₈ s₈, (OL.mk (r := .ld) l₇ (give_self _ ld .ld)).skip d₈ s₈⟩
theorem un_init (W : Wld (KK w) G) (hA : AOk (n + 1) A) {x : Addr} (h : Mk G b₀ o₀ b o x dx cUnions []) :
    DT w G A (.call (.ref 237) ⟨[.ref x], []⟩) b (UnNew G b₀ o₀ x dx) := by
  refine call_def (binds := [("self", .ref x)]) W (fn_un_init w) hA (fun _ _ _ _ _ => rfl) rfl fun L' hid env O => ?_
  refine t_cons (mk_set W O h (f_un_above w) rfl rfl rfl (e_list (e_spl_nil (c_newList (by simp) (fun ua b₁ e₁ n₁ l₁ => ?_) _ _))))
  obtain ⟨c₁, hc₁⟩ := l₁.live
  have h₁ := h.move (Mv.give (r := .ua) e₁ n₁ hc₁)
  refine ⟨_, h₁, by simp, fun b₂ s₂ d₂ h₂ => ?_⟩
  have L₂ := (OL.mk (r := .ua) l₁ (give_self o ua .ua)).skip d₂ s₂
  refine t_cons (mk_set W O h₂ (f_un_lots w) rfl rfl rfl (e_list (e_spl_nil (c_newList (by simp) (fun ul b₅ e₅ n₅ l₅ => ?_) _ _))))
  obtain ⟨c₅, hc₅⟩ := l₅.live
  have g₅ : Mv F0 b₂ (give o ua .ua) b₅ (give (give o ua .ua) ul .ul) := Mv.give e₅ n₅ hc₅
  have h₅ := h₂.move g₅
  refine ⟨_, h₅, by simp, fun b₆ s₆ d₆ h₆ => ?_⟩
  have L₆ := (L₂.move g₅ id).skip d₆ s₆
  have E₆ := (OL.mk (r := .ul) l₅ (give_self _ ul .ul)).skip d₆ s₆
  refine t_cons (mk_set W O h₆ (f_un_merged w) rfl rfl rfl (e_list (e_spl_nil (c_newList (by simp) (fun um b₇ e₇ n₇ l₇ => ?_) _ _))))
  obtain ⟨c₇, hc₇⟩ := l₇.live
  have g₇ : Mv F0 b₆ (give (give o ua .ua) ul .ul) b₇ (give (give (give o ua .ua) ul .ul) um .um) := Mv.give e₇ n₇ hc₇
  have h₇ := h₆.move g₇
  refine ⟨_, h₇, by simp, fun b₈ s₈ d₈ h₈ => ?_⟩
  exact t_nil ⟨rfl, _, ua, ul, um, h₈, (L₆.move g₇ id).skip d₈ s₈, (E₆.move g₇ id).skip d₈ s₈, (OL.mk (r := .um) l₇ (give_self _ um .um)).skip d₈ s₈⟩
/-- Bank(), Unions(), behind a heap's own make -/
theorem mk_start (k : Ok G b o) {x dx C : Addr} {b₁ : Heap} (e : Ext b b₁) (nx : b.get? x = none) (nd : b.get? dx = none) (ne : dx ≠ x) (i : InstD b₁ x dx C []) : Mk G b o b₁ o x dx C [] :=
  ⟨⟨i, k.own_new nx, k.own_new nd⟩, ne, nd, k, .ext e⟩
end
/-- nothing yet -/
def St.zero : St := { nodes := [], par := [], lots := [], mc := 0, known := fun _ => none, nk := 0, abv := fun _ => none, na := 0, wait := [], ec := 0, fc := 0 }
theorem FD.ne {b b₁ : Heap} {o : Own} {x dx C : Addr} {l : List (Str × Value)} (h : FD b o x dx C l) {c : Addr} (n : b.get? c = none) : c ≠ dx := fun q => by
  obtain ⟨es, k, h1, h2, h3⟩ := h.i
  rw [q, h2] at n; cases n
/-- a bank and its lists, new -/
structure NB (b : Heap) (o : Own) (x dx ln dn lw ld : Addr) : Prop where
  fd : FD b o x dx cBank [("depths", .ref ld), ("weights", .ref lw), ("numbers", .ref dn), ("nodes", .ref ln)]
  ln : OL b o .ln ln []
  dn : OE b o .dn dn
  lw : OL b o .lw lw []
  ld : OL b o .ld ld []
structure NU (b : Heap) (o : Own) (x dx ua ul um : Addr) : Prop where
  fd : FD b o x dx cUnions [("merged", .ref um), ("lots", .ref ul), ("above", .ref ua)]
  ua : OL b o .ua ua []
  ul : OL b o .ul ul []
  um : OL b o .um um []
section
variable {w : World} {G b b' b₀ : Heap} {A : Around} {n : Nat} {o o₀ o' : Own} {dx : Addr}
theorem NB.move {x d ln dn lw ld : Addr} (h : NB b o x d ln dn lw ld) (m : Mv F0 b o b' o') : NB b' o' x d ln dn lw ld := ⟨h.fd.move m, h.ln.move m id, h.dn.move m id, h.lw.move m id, h.ld.move m id⟩
theorem NU.move {x d ua ul um : Addr} (h : NU b o x d ua ul um) (m : Mv F0 b o b' o') : NU b' o' x d ua ul um := ⟨h.fd.move m, h.ua.move m id, h.ul.move m id, h.um.move m id⟩
theorem NB.skip {x d ln dn lw ld : Addr} (h : NB b o x d ln dn lw ld) (h1 : x ≠ dx) (h2 : d ≠ dx) (hd : o dx = none) (s : Sk dx b b') : NB b' o x d ln dn lw ld := ⟨h.fd.skip h1 h2 s, h.ln.skip hd s, h.dn.skip hd s, h.lw.skip hd s, h.ld.skip hd s⟩
theorem NU.skip {x d ua ul um : Addr} (h : NU b o x d ua ul um) (h1 : x ≠ dx) (h2 : d ≠ dx) (hd : o dx = none) (s : Sk dx b b') : NU b' o x d ua ul um := ⟨h.fd.skip h1 h2 s, h.ua.skip hd s, h.ul.skip hd s, h.um.skip hd s⟩
theorem hp_init (W : Wld (KK w) G) (hA : AOk (n + 4) A) {x : Addr} (h : Mk G b₀ o₀ b o x dx cHeap []) :
    DT w G A (.call (.ref 319) ⟨[.ref x], []⟩) b fun v b₁ => v = .none ∧ ∃ o₁ M, M.h = x ∧ Mv F0 b₀ o₀ b₁ o₁ ∧ RA w b₁ o₁ M St.zero := by
  refine call_defQ (binds := [("self", .ref x)]) W (fn_heap_init w) hA (fun _ _ _ _ _ => rfl) rfl fun Q hQ L' hid env O => ?_
  have hA' := hA.deeper env
  refine t_cons (mk_set W O h (f_heap_bank w) rfl rfl rfl (e_call (e_global W O rfl (g_Bank w) (e_callWith (keeps3_K W (mk_bank w).2.2.2) (e_spl_nil (call_class W (mk_bank w).1 (mk_bank w).2.1 (mk_bank w).2.2.1 (fun b₁ bx bd e₁ n₁ n₂ ne₁ i₁ => ?_) _ _))))))
  refine (bk_init (n := n) W (AOk.under_make (n := n + 1) (hA'.mono (by first | exact lo rfl | omega)) _ _) (mk_start h.k e₁ n₁ n₂ ne₁ i₁)).mono ?_
  rintro _ b₂ ⟨rfl, o₁, ln, dn, lw, ld, k₂, Ln, Dn, Lw, Ld⟩
  refine ⟨rfl, o₁, h.move k₂.mv, by simp, fun b₃ s₃ d₃ h₃ => ?_⟩
  have B₃ := (NB.mk k₂.fd Ln Dn Lw Ld).skip (h.fd.ne (b₁ := b) n₁) (h.fd.ne (b₁ := b) n₂) d₃ s₃
  refine t_cons (mk_set W O h₃ (f_heap_unions w) rfl rfl rfl (e_call (e_global W O rfl (g_Unions w) (e_callWith (keeps3_K W (mk_un w).2.2.2) (e_spl_nil (call_class W (mk_un w).1 (mk_un w).2.1 (mk_un w).2.2.1 (fun b₄ ux ud e₄ n₄ n₅ ne₄ i₄ => ?_) _ _))))))
  refine (un_init (n := n) W (AOk.under_make (n := n + 1) (hA'.mono (by first | exact lo rfl | omega)) _ _) (mk_start h₃.k e₄ n₄ n₅ ne₄ i₄)).mono ?_
  rintro _ b₅ ⟨rfl, o₅, ua, ul, um, k₅, La, Ll, Lm⟩
  refine ⟨rfl, o₅, h₃.move k₅.mv, by simp, fun b₆ s₆ d₆ h₆ => ?_⟩
  have hb1 := h.fd.ne (b₁ := b) n₁
  have hb2 := h.fd.ne (b₁ := b) n₂
  have hu1 := h₃.fd.ne (b₁ := b) n₄
  have hu2 := h₃.fd.ne (b₁ := b) n₅
  have B₆ := (B₃.move k₅.mv).skip hb1 hb2 d₆ s₆
  have U₆ := (NU.mk k₅.fd La Ll Lm).skip hu1 hu2 d₆ s₆
  refine t_cons (mk_set W O h₆ (f_heap_edges w) rfl rfl rfl (e_list (e_spl_nil (c_newList (by simp) (fun he b₇ e₇ n₇ l₇ => ?_) _ _))))
  obtain ⟨c₇, hc₇⟩ := l₇.live
  have g₇ : Mv F0 b₆ o₅ b₇ (give o₅ he .he) := Mv.give e₇ n₇ hc₇
  refine ⟨_, h₆.move g₇, by simp, fun b₈ s₈ d₈ h₈ => ?_⟩
  have B₈ := (B₆.move g₇).skip hb1 hb2 d₈ s₈
  have U₈ := (U₆.move g₇).skip hu1 hu2 d₈ s₈
  have E₈ := (OL.mk (r := .he) l₇ (give_self _ he .he)).skip d₈ s₈
  refine t_cons (mk_set W O h₈ (f_heap_forest w) rfl rfl rfl (e_list (e_spl_nil (c_newList (by simp) (fun hf b₉ e₉ n₉ l₉ => ?_) _ _))))
  obtain ⟨c₉, hc₉⟩ := l₉.live
  have g₉ : Mv F0 b₈ (give o₅ he .he) b₉ (give (give o₅ he .he) hf .hf) := Mv.give e₉ n₉ hc₉
  refine ⟨_, h₈.move g₉, by simp, fun ba sa da ha => ?_⟩
  have Ba := (B₈.move g₉).skip hb1 hb2 da sa
  have Ua := (U₈.move g₉).skip hu1 hu2 da sa
  have Ea := (E₈.move g₉ id).skip da sa
  have Fa := (OL.mk (r := .hf) l₉ (give_self _ hf .hf)).skip da sa
  refine t_cons (mk_set W O ha (f_heap_known w) rfl rfl rfl (e_dict0 W.nolimit fun hk bb eb nb nmb lb => ?_))
  have gb : Mv F0 ba (give (give o₅ he .he) hf .hf) bb (give (give (give o₅ he .he) hf .hf) hk .hk) := Mv.give eb nb lb
  refine ⟨_, ha.move gb, by simp, fun bc sc dc hc => ?_⟩
  have Bc := (Ba.move gb).skip hb1 hb2 dc sc
  have Uc := (Ua.move gb).skip hu1 hu2 dc sc
  have Ec := (Ea.move gb id).skip dc sc
  have Fc := (Fa.move gb id).skip dc sc
  have Kc := (OE.mk (r := .hk) lb nmb (give_self _ hk .hk)).skip dc sc
  refine t_cons (mk_set W O hc (f_heap_above w) rfl rfl rfl (e_dict0 W.nolimit fun hab bd ed nd nmd ld' => ?_))
  have gd : Mv F0 bc (give (give (give o₅ he .he) hf .hf) hk .hk) bd (give (give (give (give o₅ he .he) hf .hf) hk .hk) hab .ha) := Mv.give ed nd ld'
  refine ⟨_, hc.move gd, by simp, fun be se de hee => ?_⟩
  have Be := (Bc.move gd).skip hb1 hb2 de se
  have Ue := (Uc.move gd).skip hu1 hu2 de se
  have Ee := (Ec.move gd id).skip de se
  have Fe := (Fc.move gd id).skip de se
  have Ke := (Kc.move gd id).skip de se
  have Ae := (OE.mk (r := .ha) ld' nmd (give_self _ hab .ha)).skip de se
  refine t_cons (mk_set W O hee (f_heap_waiting w) rfl rfl rfl (e_list (e_spl_nil (c_newList (by simp) (fun hw bf ef nf lf => ?_) _ _))))
  obtain ⟨cf, hcf⟩ := lf.live
  have gf : Mv F0 be (give (give (give (give o₅ he .he) hf .hf) hk .hk) hab .ha) bf (give (give (give (give (give o₅ he .he) hf .hf) hk .hk) hab .ha) hw .hw) := Mv.give ef nf hcf
  refine ⟨_, hee.move gf, by simp, fun bg sg dg hg => ?_⟩
  have Bg := (Be.move gf).skip hb1 hb2 dg sg
  have Ug := (Ue.move gf).skip hu1 hu2 dg sg
  have Eg := (Ee.move gf id).skip dg sg
  have Fg := (Fe.move gf id).skip dg sg
  have Kg := (Ke.move gf id).skip dg sg
  have Ag := (Ae.move gf id).skip dg sg
  have Wg := (OL.mk (r := .hw) lf (give_self _ hw .hw)).skip dg sg
  refine t_cons (mk_set W O hg (f_heap_backs w) rfl rfl rfl (e_int fun tk => ⟨_, hg, by simp, fun bh sh dh hh => ?_⟩))
  have Bh := Bg.skip hb1 hb2 dh sh
  have Uh := Ug.skip hu1 hu2 dh sh
  have Eh := Eg.skip dh sh
  have Fh := Fg.skip dh sh
  have Kh := Kg.skip dh sh
  have Ah := Ag.skip dh sh
  have Wh := Wg.skip dh sh
  refine t_nil (hQ _ _ ⟨rfl, _, ⟨x, bx, ux, ln, dn, lw, ld, ua, ul, um, he, hf, hk, hab, hw, tk⟩, rfl, hh.mv, ⟨?_, ?_, ?_⟩⟩)
  · exact ⟨Uh.fd.fi, ⟨⟨[], Uh.ua.ls, .nil⟩, Uh.ua.own⟩, ⟨[], Uh.ul, rfl, fun i n e => by simp [St.zero] at e⟩, ⟨[], Uh.um, rfl⟩⟩
  · exact ⟨Bh.fd.fi, ⟨[], Bh.ln, rfl, fun i q e => by simp [St.zero] at e⟩, ⟨TD.new Bh.dn.ob Bh.dn.nm, Bh.dn.own⟩, ⟨[], Bh.lw, (fun v hv => by cases hv), rfl⟩, ⟨[], Bh.ld, (fun v hv => by cases hv), rfl⟩⟩
  · exact ⟨hh.fd.fi, ⟨[], Eh, rfl⟩, ⟨[], Fh, rfl⟩, ⟨TD.new Kh.ob Kh.nm, Kh.own⟩, ⟨fun _ => none, ⟨KD.new _ Ah.ob Ah.nm, Ah.own⟩, fun r => rfl⟩, ⟨⟨[], Wh.ls, .nil⟩, Wh.own⟩⟩
end
end Mine
end
section
open PySem PySem.W PyProof.Rows PySem.Calls PySem.Spec Builtin
set_option maxRecDepth 100000
set_option linter.unusedVariables false
namespace Mine
/-- the law's patterns -/
inductive Pat
  | var (x : Bool)
  | leaf (a : Bool)
  | un (op : Str) (p : Pat)
  | bin (p q : Pat)
def Pat.op : Pat → Str
  | .var true => "?x"
  | .var false => "?y"
  | .leaf true => "a"
  | .leaf false => "b"
  | .un op _ => op
  | .bin _ _ => "f"
def Pat.kids : Pat → List Pat
  | .un _ p => [p]
  | .bin p q => [p, q]
  | _ => []
def Pat.isVar : Pat → Bool
  | .var _ => true
  | _ => false
/-- the ops of its inner nodes -/
def Pat.ok : Pat → Prop
  | .un op p => goodOp op ∧ p.ok
  | .bin p q => p.ok ∧ q.ok
  | _ => True
def Pat.high : Pat → Nat
  | .un _ p => p.high + 1
  | .bin p q => max p.high q.high + 1
  | _ => 0
/-- v holds a pattern -/
def PatAt (b : Heap) (o : Own) : Pat → Value → Prop
  | .var x, v => ∃ a t, v = .ref a ∧ o a = none ∧ Tp b a [.str (Pat.var x).op t]
  | .leaf x, v => ∃ a t, v = .ref a ∧ o a = none ∧ Tp b a [.str (Pat.leaf x).op t]
  | .un op p, v => ∃ a t u, v = .ref a ∧ o a = none ∧ Tp b a [.str op t, u] ∧ PatAt b o p u
  | .bin p q, v => ∃ a t u u', v = .ref a ∧ o a = none ∧ Tp b a [.str "f" t, u, u'] ∧ PatAt b o p u ∧ PatAt b o q u'
theorem tp_move {T : Role → Prop} {b b₁ : Heap} {o o₁ : Own} {a : Addr} {vs : List Value} (x : Tp b a vs) (h : o a = none) (m : Mv T b o b₁ o₁) : Tp b₁ a vs ∧ o₁ a = none := by
  obtain ⟨n, x⟩ := x
  have k := m.old a _ x
  exact ⟨⟨n, k.2.2 (by simp [h])⟩, k.1.trans h⟩
theorem PatAt.move {T : Role → Prop} {b b₁ : Heap} {o o₁ : Own} (m : Mv T b o b₁ o₁) : ∀ {p : Pat} {v : Value}, PatAt b o p v → PatAt b₁ o₁ p v
  | .var x, v, ⟨a, t, h1, h2, h3⟩ => let k := tp_move h3 h2 m; ⟨a, t, h1, k.2, k.1⟩
  | .leaf x, v, ⟨a, t, h1, h2, h3⟩ => let k := tp_move h3 h2 m; ⟨a, t, h1, k.2, k.1⟩
  | .un op p, v, ⟨a, t, u, h1, h2, h3, h4⟩ => let k := tp_move h3 h2 m; ⟨a, t, u, h1, k.2, k.1, h4.move m⟩
  | .bin p q, v, ⟨a, t, u, u', h1, h2, h3, h4, h5⟩ => let k := tp_move h3 h2 m; ⟨a, t, u, u', h1, k.2, k.1, h4.move m, h5.move m⟩
inductive PatsAt (b : Heap) (o : Own) : List Pat → List Value → Prop
  | nil : PatsAt b o [] []
  | cons {p ps v vs} : PatAt b o p v → PatsAt b o ps vs → PatsAt b o (p :: ps) (v :: vs)
theorem PatsAt.move {T : Role → Prop} {b b₁ : Heap} {o o₁ : Own} (m : Mv T b o b₁ o₁) {ps : List Pat} {vs : List Value} (h : PatsAt b o ps vs) : PatsAt b₁ o₁ ps vs := by
  induction h with
  | nil => exact .nil
  | cons h _ ih => exact .cons (h.move m) ih
theorem PatsAt.length {b : Heap} {o : Own} {ps : List Pat} {vs : List Value} (h : PatsAt b o ps vs) : vs.length = ps.length := by
  induction h with
  | nil => rfl
  | cons _ _ ih => simp [ih]
theorem PatsAt.get {b : Heap} {o : Own} {ps : List Pat} {vs : List Value} (h : PatsAt b o ps vs) : ∀ {i : Nat} {v : Value}, vs[i]? = some v → ∃ p, ps[i]? = some p ∧ PatAt b o p v := by
  induction h with
  | nil => intro i v e; simp at e
  | cons h _ ih =>
    intro i v e
    cases i with
    | zero => simp at e; exact ⟨_, rfl, e ▸ h⟩
    | succ i => simp at e; simpa using ih e
theorem PatAt.parts {b : Heap} {o : Own} : ∀ {p : Pat} {v : Value}, PatAt b o p v → ∃ a t vs, v = .ref a ∧ o a = none ∧ Tp b a (.str p.op t :: vs) ∧ PatsAt b o p.kids vs
  | .var x, v, ⟨a, t, h1, h2, h3⟩ => ⟨a, t, [], h1, h2, h3, .nil⟩
  | .leaf x, v, ⟨a, t, h1, h2, h3⟩ => ⟨a, t, [], h1, h2, h3, .nil⟩
  | .un op p, v, ⟨a, t, u, h1, h2, h3, h4⟩ => ⟨a, t, [u], h1, h2, h3, .cons h4 .nil⟩
  | .bin p q, v, ⟨a, t, u, u', h1, h2, h3, h4, h5⟩ => ⟨a, t, [u, u'], h1, h2, h3, .cons h4 (.cons h5 .nil)⟩
theorem Pat.kids_len (p : Pat) : p.kids.length ≤ 2 := by cases p <;> simp [Pat.kids]
section
variable {w : World} {G b : Heap} {A : Around} {n : Nat} {o : Own} {M : Mem} {S : St} {f : Fram} {m : Locs} {env : Env} {ns : List (Str × NameKind)}
theorem c_slice1 {x : Str} {t u : Tok} {sl : Addr} {P : Value → Heap → Prop} (hx : x = "?x" ∨ x = "?y" ∨ x = "a" ∨ x = "b") (y : b.IsSliceOf sl .none (.int 1 u) .none)
    (k : ∀ t z, ((z : Str).cps.toList == ("?" : Str).cps.toList) = (decide (x = "?x") || decide (x = "?y")) → P (.str z t) b) : CT w G A (getItem (.str x t) (.ref sl)) b P := by
  refine CT.still fun s Q E e _ q => ?_
  obtain ⟨os, h1, h2, h3⟩ := y
  refine wpAny_getItem_str_slice (a := sl) (l := none) (u := some (1, u)) (st := none) ?_ (by decide) ?_
  · exact ⟨os, e _ _ h1, h2, h3⟩
  · rcases hx with rfl | rfl | rfl | rfl
    · have h : sliceMade "?x" t none (some (1, u)) none = .str ⟨#[63]⟩ := by rfl
      rw [h]
      exact ⟨by decide, q _ _ (k _ _ (by decide))⟩
    · have h : sliceMade "?y" t none (some (1, u)) none = .str ⟨#[63]⟩ := by rfl
      rw [h]
      exact ⟨by decide, q _ _ (k _ _ (by decide))⟩
    · have h : sliceMade "a" t none (some (1, u)) none = .val (.str "a" t) := by rfl
      rw [h]
      exact q _ s.toks (k _ _ (by decide))
    · have h : sliceMade "b" t none (some (1, u)) none = .val (.str "b" t) := by rfl
      rw [h]
      exact q _ s.toks (k _ _ (by decide))
theorem is_var (W : Wld (KK w) G) (hA : AOk (n + 1) A) {p : Pat} {v : Value} (hp : PatAt b o p v) : DT w G A (.call (.ref 74) ⟨[v], []⟩) b fun r b₁ => Ext b b₁ ∧ r = .bool p.isVar := by
  obtain ⟨a, t, vs, rfl, ho, l, ps⟩ := hp.parts
  have hpl := ps.length
  have hk := p.kids_len
  refine call_def (binds := [("t", .ref a)]) W (fn_is_variable w) hA (fun _ _ _ _ _ => rfl) rfl fun L' hid env O => ?_
  refine t_cons (t_ret (e_and (e_cmp (e_call (e_builtin W O rfl (b_len w).1 (b_len w).2 (by decide) (e_callWith keeps3_builtin (e_spl_cons (e_local O rfl rfl rfl (e_spl_nil (c_len_tuple l (by simp [sizeLine]; omega) (fun t1 => e_int fun t2 => c_eq_int ⟨_, rfl, fun c => ?_, fun c => ?_⟩ _ _) _ _))))))))))
  · have hv : p.kids = [] := by
      have : vs.length = 0 := by simp at c; omega
      exact List.length_eq_zero_iff.mp (by omega)
    have hx : p.op = "?x" ∨ p.op = "?y" ∨ p.op = "a" ∨ p.op = "b" := by
      cases p with
      | var x => cases x <;> simp [Pat.op]
      | leaf x => cases x <;> simp [Pat.op]
      | un op p => simp [Pat.kids] at hv
      | bin p q => simp [Pat.kids] at hv
    refine e_cmp (e_sub (ops := fun o i => [i, o]) (e_sub (ops := fun o i => [o, i]) (e_local O rfl rfl rfl (e_int fun t3 => ⟨l.sub, c_getItem_tuple (i := 0) l (by simp [sizeLine]; omega) rfl (e_slice_to (e_int fun t4 sl b₁ e₁ hs => ⟨sub_str, c_slice1 hx hs (fun t5 z hz => e_str fun t6 => c_eq_str ⟨e₁, ?_⟩ _ _) _ _⟩)) _ _⟩))))
    rw [hz]
    cases p with
    | var x => cases x <;> simp [Pat.op, Pat.isVar]
    | leaf x => cases x <;> rfl
    | un op p => simp [Pat.kids] at hv
    | bin p q => simp [Pat.kids] at hv
  · refine ⟨.refl, ?_⟩
    cases p with
    | var x => have : vs.length = 0 := hpl; simp [this] at c
    | leaf x => rfl
    | un op p => rfl
    | bin p q => rfl

/-- the variables' table -/
structure TabAt (w : World) (b : Heap) (o : Own) (tb : Addr) (x y : Nat) : Prop where
  ex : ∃ F n, KD (PySem.strKind PG w) b tb F n ∧ (∃ t, F "?x" = some (.int (Int.ofNat x) t)) ∧ (∃ t, F "?y" = some (.int (Int.ofNat y) t)) ∧ ∀ s : Str, s ≠ "?x" → s ≠ "?y" → F s = none
  own : o tb = none
theorem TabAt.move {T : Role → Prop} {b₁ : Heap} {o₁ : Own} {tb : Addr} {x y : Nat} (h : TabAt w b o tb x y) (m : Mv T b o b₁ o₁) : TabAt w b₁ o₁ tb x y := by
  obtain ⟨F, n, d, r⟩ := h.ex
  obtain ⟨v, hv⟩ := d.live
  have k := m.old tb v hv
  exact ⟨⟨F, n, d.at fun z e => (m.old tb z e).2.2 (by simp [h.own]), r⟩, k.1.trans h.own⟩
/-- the number that stands for a variable -/
def tabOf (x y : Nat) (v : Bool) : Nat := if v then x else y
theorem c_tab {tb : Addr} {x y : Nat} {v : Bool} {t : Tok} {P : Value → Heap → Prop} (h : TabAt w b o tb x y) (k : ∀ t, P (.int (Int.ofNat (tabOf x y v)) t) b) : CT w G A (getItem (.ref tb) (.str (Pat.var v).op t)) b P := by
  obtain ⟨F, n, d, ⟨t1, h1⟩, ⟨t2, h2⟩, _⟩ := h.ex
  cases v with
  | true => exact c_kd_get (k := ("?x" : Str)) d (by simp [PySem.strKind, Value.isStrOf, Pat.op]) h1 (k _)
  | false => exact c_kd_get (k := ("?y" : Str)) d (by simp [PySem.strKind, Value.isStrOf, Pat.op]) h2 (k _)
/-- a pattern's class: none where a part of it stands nowhere -/
def St.ev (S : St) (x y : Nat) : Pat → Option Nat
  | .var v => some (root S.par (tabOf x y v))
  | .leaf a => (S.known (S.key ((Pat.leaf a).op, []))).map (root S.par)
  | .un op p => (S.ev x y p).bind fun c => (S.known (S.key (op, [c]))).map (root S.par)
  | .bin p q => (S.ev x y p).bind fun c => (S.ev x y q).bind fun d => (S.known (S.key ("f", [c, d]))).map (root S.par)
/-- as the code tells it -/
def cz : Option Nat → Int
  | some c => Int.ofNat c
  | none => -1
def allS : List (Option Nat) → Option (List Nat)
  | [] => some []
  | none :: _ => none
  | some a :: r => (allS r).map (a :: ·)
theorem allS_some {l : List (Option Nat)} {ks : List Nat} (h : allS l = some ks) : l = ks.map some := by
  induction l generalizing ks with
  | nil => simp [allS] at h; subst h; rfl
  | cons x l ih =>
    cases x with
    | none => simp [allS] at h
    | some a =>
      simp only [allS, Option.map_eq_some_iff] at h
      obtain ⟨r, hr, rfl⟩ := h
      rw [ih hr]; rfl
theorem allS_none {l : List (Option Nat)} (h : allS l = none) : none ∈ l := by
  induction l with
  | nil => simp [allS] at h
  | cons x l ih =>
    cases x with
    | none => simp
    | some a => simp only [allS, Option.map_eq_none_iff] at h; exact List.mem_cons_of_mem _ (ih h)
def seekOf (S : St) (op : Str) (cs : List (Option Nat)) : Option Nat := (allS cs).bind fun ks => (S.known (S.key (op, ks))).map (root S.par)
theorem ev_parts (S : St) (x y : Nat) : ∀ (p : Pat), p.isVar = false → S.ev x y p = seekOf S p.op (p.kids.map (S.ev x y))
  | .var _, h => by cases h
  | .leaf a, _ => by simp [St.ev, seekOf, Pat.kids, allS]
  | .un op p, _ => by
    simp only [St.ev, seekOf, Pat.kids, Pat.op, List.map_cons, List.map_nil]
    cases S.ev x y p <;> simp [allS]
  | .bin p q, _ => by
    simp only [St.ev, seekOf, Pat.kids, Pat.op, List.map_cons, List.map_nil]
    cases S.ev x y p <;> cases S.ev x y q <;> simp [allS]
end
end Mine
end
section
open PySem PySem.W PyProof.Rows PySem.Calls PySem.Spec Builtin
set_option maxRecDepth 100000
set_option linter.unusedVariables false
namespace Mine
theorem RDs.ints {b : Heap} {vs : List Value} {is : List Int} (h : IntsAre vs is) : RDs b vs (is.map .int) := by
  induction h with
  | nil => exact .nil
  | cons n t _ ih => exact .cons (.int ..) ih
theorem canLay_ints (is : List Int) : PyData.canLayAll0 (is.map .int) = true := by
  induction is with
  | nil => rfl
  | cons i is ih => rw [List.map_cons, PyData.canLayAll0, PyData.canLay0, ih]; rfl
theorem depth_ints (is : List Int) : PyData.depthAll (is.map .int) = 0 := by
  induction is with
  | nil => rfl
  | cons i is ih => rw [List.map_cons, PyData.depthAll, PyData.depth, ih]; rfl
theorem okD_ints (is : List Int) : okD (.list (is.map .int)) = true := by
  rw [okD, PyData.canLay0, canLay_ints, PyData.depth, depth_ints]; rfl
theorem any_ints (is : List Int) (j : Int) : ((is.map PyData.int).any fun y => PyData.eqv y (.int j)) = is.contains j := by
  induction is with
  | nil => rfl
  | cons i is ih => rw [List.map_cons, List.any_cons, ih, PyData.eqv, List.contains_cons, Bool.beq_comm]
theorem ev_lt {S : St} (X : Fit S) {x y : Nat} (hx : x < S.nodes.length) (hy : y < S.nodes.length) {p : Pat} {c : Nat} (h : S.ev x y p = some c) : c < S.nodes.length := by
  have hr : ∀ i, i < S.nodes.length → root S.par i < S.nodes.length := fun i hi => Nat.lt_of_le_of_lt (root_le _ _) hi
  have hs : ∀ q : Str × List Nat, (S.known q).map (root S.par) = some c → c < S.nodes.length := fun q e => by
    obtain ⟨i, hi, rfl⟩ := Option.map_eq_some_iff.mp e
    exact hr i (X.known _ _ hi)
  cases p with
  | var v => cases v <;> (simp only [St.ev, Option.some.injEq] at h; subst h; apply hr; simpa [tabOf])
  | leaf a => exact hs _ h
  | un op p => simp only [St.ev] at h; obtain ⟨_, _, h⟩ := Option.bind_eq_some_iff.mp h; exact hs _ h
  | bin p q => simp only [St.ev] at h; obtain ⟨_, _, h⟩ := Option.bind_eq_some_iff.mp h; obtain ⟨_, _, h⟩ := Option.bind_eq_some_iff.mp h; exact hs _ h
theorem kids_high {p q : Pat} (h : q ∈ p.kids) : q.high < p.high := by
  cases p with
  | var _ => simp [Pat.kids] at h
  | leaf _ => simp [Pat.kids] at h
  | un op p => simp [Pat.kids] at h; subst h; simp [Pat.high]
  | bin p q => simp [Pat.kids] at h; rcases h with rfl | rfl <;> simp [Pat.high] <;> omega
/-- a placer, its heap, a table -/
structure PL (w : World) (b : Heap) (o : Own) (M : Mem) (S : St) (pl tb : Addr) (x y : Nat) : Prop where
  r : RA w b o M S
  fit : Fit S
  pl : FI b o pl cPlacer [("heap", .ref M.h)]
  tb : TabAt w b o tb x y
  hx : x < S.nodes.length
  hy : y < S.nodes.length
theorem PL.ext {w : World} {b b₁ : Heap} {o : Own} {M : Mem} {S : St} {pl tb : Addr} {x y : Nat} (h : PL w b o M S pl tb x y) (e : Ext b b₁) : PL w b₁ o M S pl tb x y :=
  ⟨h.r.ext e, h.fit, h.pl.move (T := fun _ => False) (.ext e), h.tb.move (T := fun _ => False) (.ext e), h.hx, h.hy⟩
section
variable {w : World} {G : Heap} {n : Nat} {o : Own} {M : Mem} {S : St}
inductive ClassC (b₃ : Heap) (qs : List Pat) (f : Pat → Int) (i : Nat) (ys : List Value) (b' : Heap) : Prop
  | mk (h1 : Ext b₃ b') (h2 : IntsAre ys ((qs.take i).map f))
theorem pl_class (W : Wld (KK w) G) {pl tb : Addr} {x y : Nat} : ∀ (h : Nat) (p : Pat) {b : Heap} {A : Around} {v : Value}, p.high ≤ h → AOk (n + h + 6) A → Ok G b o → PL w b o M S pl tb x y → PatAt b o p v →
    DT w G A (.call (.ref 209) ⟨[.ref pl, v, .ref tb], []⟩) b fun r b₁ => Ext b b₁ ∧ ∃ t, r = .int (cz (S.ev x y p)) t := by
  intro h
  induction h using Nat.strongRecOn with
  | _ h ih =>
  intro p b A v hp hA k L pv
  obtain ⟨a, t, vs, rfl, ho, l, ps⟩ := pv.parts
  have hpl := ps.length
  have hk := p.kids_len
  refine call_defQ (binds := [("self", .ref pl), ("pattern", .ref a), ("table", .ref tb)]) W (fn_placer_class_of w) hA (fun _ _ _ _ _ => rfl) rfl fun Q hQ L' hid env O => ?_
  have hA' : AOk (n + h + 5) (A.deeper env) := hA.deeper env
  refine t_cons (t_if (i_val (e_call (e_global W O rfl (g_is_variable w) (e_callWith (keeps3_K W (k_is_variable w)) (e_spl_cons (e_local O rfl rfl rfl (e_spl_nil (CT.of_DT ((is_var (n := n + h + 4) W hA' pv).mono ?_) _ _)))))))))
  rintro _ b₁ ⟨e₁, rfl⟩
  have k₁ := k.ext e₁
  have L₁ := L.ext e₁
  have l₁ := l.ext e₁
  refine ⟨_, rfl, fun hv => ?_, fun hv => t_nil ?_⟩
  · cases p with
    | leaf _ => cases hv
    | un _ _ => cases hv
    | bin _ _ => cases hv
    | var vv =>
      refine t_cons (t_ret (e_method W (e_fldc W O rfl rfl rfl L₁.pl.inst (f_placer_heap w) rfl rfl ⟨M.h, cHeap, _, _, rfl, L₁.r.h.inst.inst, m_heap_find w, rfl, e_spl_cons (e_sub (ops := fun o i => [o, i]) (e_cell O rfl rfl rfl (e_sub (ops := fun o i => [o, i]) (e_local O rfl rfl rfl (e_int fun t3 => ⟨l₁.sub, c_getItem_tuple (i := 0) l₁ (by simp [sizeLine]; omega) rfl ?_ _ _⟩)))))⟩)))
      obtain ⟨F, nn, d, _⟩ := L₁.tb.ex
      refine ⟨d.sub, c_tab L₁.tb (fun t4 => e_spl_nil (CT.of_DT ((hp_find (n := n + h + 3) W hA' L₁.r L₁.fit ?_).mono ?_) _ _)) _ _⟩
      · cases vv
        · exact L.hy
        · exact L.hx
      · rintro _ _ ⟨rfl, t5, rfl⟩
        exact hQ _ _ ⟨e₁, t5, rfl⟩
  · rw [ev_parts S x y p hv] at hQ
    refine t_cons (t_assign_comp O rfl rfl rfl rfl rfl rfl (fun p hp => by cases hp with | head => rfl | tail _ h => rw [List.mem_singleton.mp h]; rfl) rfl rfl rfl (e_sub (ops := fun o i => [i, o]) (e_local O rfl rfl rfl (e_slice_from (e_int fun t3 sl b₂ e₂ hs => ⟨(l₁.ext e₂).sub, c_slice_tuple (l₁.ext e₂) hs (by simp [sizeLine]; omega) (fun sa b₃ e₃ n₃ l₃ => ?_) _ _⟩)))))
    have e₁₃ := e₂.trans e₃
    have L₃ := L₁.ext e₁₃
    have k₃ := k₁.ext e₁₃
    have ps₃ := ps.move (T := fun _ => False) (.ext (e₁.trans e₁₃))
    refine ⟨_, _, _, itv_tuple hA'.hd l₃, by simp [sizeLine]; omega, ClassC b₃ p.kids (fun q => cz (S.ev x y q)), ⟨.refl, by rw [List.take_zero]; exact .nil⟩, (fun i ys b' j c hc o ho => by obtain ⟨j, _⟩ := j; exact j c o ho), ?_, ?_⟩
    · rintro i ys b' v C' hid' env' hi' ⟨e', hy⟩ pv O'
      obtain ⟨q, hq, hqv⟩ := ps₃.get pv
      have hqm : q ∈ p.kids := List.mem_of_getElem? hq
      have hqh := kids_high hqm
      have hilt : i < p.kids.length := (List.getElem?_eq_some_iff.mp hq).1
      refine e_mthc W O' rfl rfl rfl (L₃.ext e').pl.inst (m_placer_class_of w) rfl (e_spl_cons (e_local O' rfl rfl rfl (e_spl_cons (e_cell O' rfl rfl rfl (e_spl_nil (CT.of_DT ((ih q.high (by omega) q (Nat.le_refl _) (hA'.mono (by first | exact lo rfl | omega)) (k₃.ext e') (L₃.ext e') (hqv.move (T := fun _ => False) (.ext e'))).mono ?_)))))))
      rintro _ b₅ ⟨e₅, t5, rfl⟩
      refine ⟨e'.trans e₅, ?_⟩
      rw [List.take_add_one, hq, Option.toList_some, List.map_append]
      exact IntsAre.append hy (.cons _ _ .nil)
    · rintro D ys b' b₅ ⟨e', hy⟩ e₅ nD lD
      rw [List.take_of_length_le (by omega)] at hy
      have e₃₅ := e'.trans e₅
      have L₅ := L₃.ext e₃₅
      have k₅ := k₃.ext e₃₅
      have e₀₅ : Ext b b₅ := (e₁.trans e₁₃).trans e₃₅
      have l₅ := l.ext e₀₅
      generalize hcs : p.kids.map (S.ev x y) = cs at hQ
      have hcz : (p.kids.map fun q => cz (S.ev x y q)) = cs.map cz := by rw [← hcs, List.map_map]; rfl
      rw [hcz] at hy
      have hlc : cs.length ≤ 2 := by rw [← hcs]; simpa using hk
      refine t_cons (t_ret (e_ifexp (i_cmp (e_negc fun t6 => e_local O rfl rfl (if_pos rfl) (c_in_data (n := n) (d := .int (-1)) (hA'.mono (by first | exact lo rfl | omega)) (.list lD (RDs.ints hy)) (.int _ _) (okD_ints _) (by decide) ⟨_, rfl, fun c => ?_, fun c => ?_⟩ _ _)))))
      · rw [any_ints] at c
        refine e_negc fun t7 => hQ _ _ ⟨e₀₅, t7, ?_⟩
        have hm : (-1 : Int) ∈ cs.map cz := List.contains_iff_mem.mp c
        obtain ⟨c0, hc0, hz⟩ := List.mem_map.mp hm
        have : allS cs = none := by
          cases e : allS cs with
          | none => rfl
          | some ks =>
            have := allS_some e
            rw [this] at hc0
            obtain ⟨z, _, rfl⟩ := List.mem_map.mp hc0
            simp [cz] at hz
        unfold seekOf
        rw [this]; rfl
      · rw [any_ints] at c
        have hm : (-1 : Int) ∉ cs.map cz := fun q => by rw [List.contains_iff_mem.mpr q] at c; cases c
        obtain ⟨ks, hks⟩ : ∃ ks, allS cs = some ks := by
          cases e : allS cs with
          | some ks => exact ⟨ks, rfl⟩
          | none => exact absurd (List.mem_map.mpr ⟨none, allS_none e, rfl⟩) hm
        have hcsk := allS_some hks
        have N : Nums ys ks := by
          rw [hcsk, List.map_map] at hy
          exact hy
        have hkl : ks.length ≤ 2 := by rw [hcsk] at hlc; simpa using hlc
        have hkb : ∀ z ∈ ks, z < S.nodes.length := fun z hz => by
          have : some z ∈ cs := by rw [hcsk]; exact List.mem_map_of_mem hz
          rw [← hcs] at this
          obtain ⟨q, _, hq⟩ := List.mem_map.mp this
          exact ev_lt L.fit L.hx L.hy hq
        refine e_method W (e_fldc W O rfl rfl rfl L₅.pl.inst (f_placer_heap w) rfl rfl ⟨M.h, cHeap, _, _, rfl, L₅.r.h.inst.inst, m_heap_seek w, rfl, e_spl_cons (e_sub (ops := fun o i => [o, i]) (e_local O rfl rfl rfl (e_int fun t8 => ⟨l₅.sub, c_getItem_tuple (i := 0) l₅ (by simp [sizeLine]; omega) rfl ?_ _ _⟩)))⟩)
        refine e_spl_cons (e_local O rfl rfl (if_pos rfl) (e_spl_nil (CT.of_DT ((hp_seek (n := n + h) W (hA'.mono (by first | exact lo rfl | omega)) k₅ L₅.r L₅.fit (.inl lD) N (Nat.le_trans hkl (by decide)) hkb).mono ?_) _ _)))
        rintro _ b₆ ⟨e₆, hv6⟩
        refine hQ _ _ ⟨e₀₅.trans e₆, ?_⟩
        unfold seekOf
        rw [hks]
        dsimp only [Option.bind_some]
        cases e : S.known (S.key (p.op, ks)) with
        | none => rw [e] at hv6; obtain ⟨t9, rfl⟩ := hv6; exact ⟨t9, rfl⟩
        | some i => rw [e] at hv6; obtain ⟨t9, rfl⟩ := hv6; exact ⟨t9, rfl⟩
end
end Mine
end
section
open PySem PySem.W PyProof.Rows PySem.Calls PySem.Spec Builtin
set_option maxRecDepth 100000
set_option linter.unusedVariables false
namespace Mine
theorem cz_inj {a c : Option Nat} (h : cz a = cz c) : a = c := by
  cases a with
  | none => cases c with
    | none => rfl
    | some c => have : (-1 : Int) = Int.ofNat c := h; simp only [Int.ofNat_eq_natCast] at this; omega
  | some a => cases c with
    | none => have : Int.ofNat a = (-1 : Int) := h; simp only [Int.ofNat_eq_natCast] at this; omega
    | some c => exact congrArg some (Int.ofNat.inj h)
theorem cz_eq (a c : Option Nat) : (cz a == cz c) = decide (a = c) := by
  by_cases h : a = c
  · subst h; simp
  · rw [decide_eq_false h, beq_eq_false_iff_ne]; exact fun e => h (cz_inj e)
theorem cz_ne (a : Option Nat) : (cz a != (-1 : Int)) = a.isSome := by
  cases a with
  | none => rfl
  | some c =>
    show (Int.ofNat c != -1) = true
    rw [bne_iff_ne]
    simp only [Int.ofNat_eq_natCast]; omega
section
variable {w : World} {G b : Heap} {A : Around} {n : Nat} {o : Own} {M : Mem} {S : St}
theorem pl_holds (W : Wld (KK w) G) {pl tb : Addr} {x y : Nat} {h : Nat} {p q : Pat} {nd : Addr} {kind : Str} {t : Tok} {u v : Value} (hp : p.high ≤ h) (hq : q.high ≤ h) (hA : AOk (n + h + 7) A) (k : Ok G b o) (L : PL w b o M S pl tb x y)
    (l : Tp b nd [.str kind t, u, v]) (hu : PatAt b o p u) (hv : PatAt b o q v) :
    DT w G A (.call (.ref 216) ⟨[.ref pl, .ref nd, .ref tb], []⟩) b fun r b₁ => Ext b b₁ ∧ r = .bool (((S.ev x y p).isSome && decide (S.ev x y p = S.ev x y q)) == decide (kind = "alike")) := by
  refine call_def (binds := [("self", .ref pl), ("need", .ref nd), ("table", .ref tb)]) W (fn_placer_holds w) hA (fun _ _ _ _ _ => rfl) rfl fun L' hid env O => ?_
  have hA' : AOk (n + h + 6) (A.deeper env) := hA.deeper env
  refine t_cons (t_assign_tuple (l := [_, _, _]) (e_local O rfl rfl rfl (c_unpack_tuple hA'.hd l rfl (a_cons (s_name (s_local O rfl rfl (a_cons (s_name (s_local O rfl rfl (a_cons (s_name (s_local O rfl rfl (a_nil ?_)))))))))) _ _)))
  refine t_cons (t_assign (e_mth W O rfl rfl rfl L.pl.inst (m_placer_class_of w) rfl (e_spl_cons (e_local O rfl rfl rfl (e_spl_cons (e_local O rfl rfl rfl (e_spl_nil (CT.of_DT ((pl_class (n := n) W h p hp hA' k L hu).mono ?_)))))))))
  rintro _ b₁ ⟨e₁, t1, rfl⟩
  refine s_local O rfl rfl ?_
  have L₁ := L.ext e₁
  have key : ∀ (c : Bool) (b₂ : Heap) (pos p1 p2 : Pos) (kk : Nat), Ext b b₂ → ∀ (m' : Locs), m' "kind" = some (.str kind t) → ET w G (A.deeper env) (Fr (scS (inS 10 3)) L' hid) (eval (.Compare (.Name "kind" p1) [.Eq] [.Constant (.str "alike") kk p2] pos) env) b₂ m' fun v b₃ =>
      ET w G (A.deeper env) (Fr (scS (inS 10 3)) L' hid) (compareOp .Eq (.bool c) v) b₃ m' fun r b₄ => Ext b b₄ ∧ r = .bool (c == decide (kind = "alike")) := by
    intro c b₂ pos p1 p2 kk e m' hm
    refine e_cmp (e_local O rfl rfl hm (e_str fun t5 => c_eq_str ?_ _ _))
    refine c_eq_data (n := n) (hA'.mono (by first | exact lo rfl | omega)) (.bool _) (.bool _) rfl rfl ⟨e, ?_⟩ _ _
    have : ((kind : Str).cps.toList == ("alike" : Str).cps.toList) = decide (kind = "alike") := by
      by_cases hk : kind = "alike"
      · subst hk; decide
      · rw [decide_eq_false hk]
        refine beq_eq_false_iff_ne.mpr fun hl => hk ?_
        cases kind
        generalize ("alike" : Str) = z at hl ⊢
        cases z
        simp only [Str.mk.injEq]
        exact Array.toList_inj.mp hl
    rw [this]; rfl
  refine t_cons (t_ret (e_cmp (e_and (e_cmp (e_local O rfl rfl (if_pos rfl) (e_negc fun t2 => c_ne_int ⟨_, rfl, fun c => ?_, fun c => ?_⟩ _ _))))))
  · rw [cz_ne] at c
    refine e_cmp (e_local O rfl rfl (if_pos rfl) (e_mth W O rfl rfl rfl L₁.pl.inst (m_placer_class_of w) rfl (e_spl_cons (e_local O rfl rfl rfl (e_spl_cons (e_local O rfl rfl rfl (e_spl_nil (CT.of_DT ((pl_class (n := n) W h q hq hA' (k.ext e₁) L₁ (hv.move (T := fun _ => False) (.ext e₁))).mono ?_)))))))))
    rintro _ b₂ ⟨e₂, t3, rfl⟩
    refine c_eq_int ?_ _ _
    rw [cz_eq, c]
    exact key _ b₂ _ _ _ _ (e₁.trans e₂) _ rfl
  · rw [cz_ne] at c
    rw [c]
    exact key _ b₁ _ _ _ _ e₁ _ rfl
theorem pl_init {b₀ : Heap} {o₀ : Own} {dx : Addr} (W : Wld (KK w) G) (hA : AOk (n + 1) A) {x hp : Addr} (h : Mk G b₀ o₀ b o x dx cPlacer []) :
    DT w G A (.call (.ref 199) ⟨[.ref x, .ref hp], []⟩) b fun v b₁ => v = .none ∧ Mk G b₀ o₀ b₁ o x dx cPlacer [("heap", .ref hp)] := by
  refine call_def (binds := [("self", .ref x), ("heap", .ref hp)]) W (fn_placer_init w) hA (fun _ _ _ _ _ => rfl) rfl fun L' hid env O => ?_
  exact t_cons (mk_set W O h (f_placer_heap w) rfl rfl rfl (e_local O rfl rfl rfl ⟨o, h, by simp, fun b₂ s₂ d₂ h₂ => t_nil ⟨rfl, h₂⟩⟩))
end
end Mine
end
section
open PySem PySem.W PyProof.Rows PySem.Calls PySem.Spec Builtin
set_option maxRecDepth 100000
set_option linter.unusedVariables false
namespace Mine
def putF (x y : Nat) : Pat → St → St × Nat
  | .var v, S => (S, tabOf x y v)
  | .leaf a, S => (S.add ((Pat.leaf a).op, []), S.num ((Pat.leaf a).op, []))
  | .un op p, S => let r := putF x y p S; (r.1.add (op, [r.2]), r.1.num (op, [r.2]))
  | .bin p q, S => let r := putF x y p S; let r' := putF x y q r.1; (r'.1.add ("f", [r.2, r'.2]), r'.1.num ("f", [r.2, r'.2]))
def putsF (x y : Nat) (ps : List Pat) (S : St) : St × List Nat := ps.foldl (fun r p => ((putF x y p r.1).1, r.2 ++ [(putF x y p r.1).2])) (S, [])
theorem putsF_push (x y : Nat) (ps : List Pat) (p : Pat) (S : St) : putsF x y (ps ++ [p]) S = ((putF x y p (putsF x y ps S).1).1, (putsF x y ps S).2 ++ [(putF x y p (putsF x y ps S).1).2]) := by
  simp [putsF, List.foldl_append]
theorem putsF_len (x y : Nat) (ps : List Pat) (S : St) : (putsF x y ps S).2.length = ps.length := by
  have : ∀ (ps : List Pat) (r : St × List Nat), (ps.foldl (fun r p => ((putF x y p r.1).1, r.2 ++ [(putF x y p r.1).2])) r).2.length = r.2.length + ps.length := by
    intro ps
    induction ps with
    | nil => intro r; rfl
    | cons p ps ih => intro r; rw [List.foldl_cons, ih]; simp; omega
  simpa [putsF] using this ps (S, [])
theorem putF_parts (x y : Nat) (S : St) : ∀ (p : Pat), p.isVar = false → putF x y p S = ((putsF x y p.kids S).1.add (p.op, (putsF x y p.kids S).2), (putsF x y p.kids S).1.num (p.op, (putsF x y p.kids S).2))
  | .var _, h => by cases h
  | .leaf a, _ => rfl
  | .un op p, _ => rfl
  | .bin p q, _ => rfl
/-- how many nodes it may put in -/
def Pat.many : Pat → Nat
  | .var _ => 0
  | .leaf _ => 1
  | .un _ p => p.many + 1
  | .bin p q => p.many + q.many + 1
def manys (ps : List Pat) : Nat := (ps.map Pat.many).sum
/-- the states in which i more nodes can be put in -/
structure AddOk (J : Nat → St → Prop) : Prop where
  fit : ∀ i S, J i S → Fit S ∧ S.na ≤ lim
  step : ∀ i S (q : Str × List Nat), J (i + 1) S → goodOp q.1 → q.2.length ≤ 2 → (∀ z ∈ q.2, z < S.nodes.length) →
    (numOf S.nodes q = none → Fit (S.pre q) ∧ Fit2 (S.pre q) ∧ ∀ x ∈ q.2, ∃ us, S.abv (root S.par x) = some us ∧ us.length ≤ lim) ∧ J i (S.add q) ∧ S.nodes.length ≤ (S.add q).nodes.length ∧ S.num q < (S.add q).nodes.length
/-- ops of its own are good -/
def Pat.good : Pat → Prop
  | .un op p => goodOp op ∧ p.good
  | .bin p q => p.good ∧ q.good
  | _ => True
theorem Pat.good_op {p : Pat} (h : p.good) (hv : p.isVar = false) : goodOp p.op := by
  cases p with
  | var _ => cases hv
  | leaf a => cases a <;> simp [Pat.op, goodOp]
  | un op p => exact h.1
  | bin p q => simp [Pat.op, goodOp]
theorem Pat.good_kids {p : Pat} (h : p.good) : ∀ q ∈ p.kids, q.good := by
  cases p with
  | var _ => intro q hq; cases hq
  | leaf a => intro q hq; cases hq
  | un op p => intro q hq; rw [List.mem_singleton.mp hq]; exact h.2
  | bin p q => intro r hr; simp [Pat.kids] at hr; rcases hr with rfl | rfl; exact h.1; exact h.2
theorem Pat.many_kids {p : Pat} (hv : p.isVar = false) : p.many = manys p.kids + 1 := by
  cases p with
  | var _ => cases hv
  | leaf a => rfl
  | un op p => simp [Pat.many, manys, Pat.kids]
  | bin p q => simp [Pat.many, manys, Pat.kids]
section
variable {w : World} {G : Heap} {n : Nat} {M : Mem}
inductive PutC (w : World) (M : Mem) (x y : Nat) (J : Nat → St → Prop) (b₃ : Heap) (o : Own) (S : St) (qs : List Pat) (i1 : Nat) (j : Nat) (ys : List Value) (b' : Heap) : Prop
  | mk (o' : Own) (h1 : Mv Hp b₃ o b' o') (h2 : RA w b' o' M (putsF x y (qs.take j) S).1) (h3 : Nums ys (putsF x y (qs.take j) S).2) (h4 : J (i1 + manys (qs.drop j)) (putsF x y (qs.take j) S).1)
    (h5 : S.nodes.length ≤ (putsF x y (qs.take j) S).1.nodes.length) (h6 : ∀ z ∈ (putsF x y (qs.take j) S).2, z < (putsF x y (qs.take j) S).1.nodes.length)
theorem pl_put (W : Wld (KK w) G) {J : Nat → St → Prop} (hJ : AddOk J) {pl tb : Addr} {x y : Nat} : ∀ (h : Nat) (p : Pat) {b : Heap} {o : Own} {S : St} {A : Around} {v : Value} {i : Nat}, p.high ≤ h → p.good → AOk (n + h + 9) A → Ok G b o →
    RA w b o M S → FI b o pl cPlacer [("heap", .ref M.h)] → TabAt w b o tb x y → x < S.nodes.length → y < S.nodes.length → PatAt b o p v → J (i + p.many) S →
    DT w G A (.call (.ref 204) ⟨[.ref pl, v, .ref tb], []⟩) b fun r b₁ => (∃ t, r = .int (Int.ofNat (putF x y p S).2) t) ∧ ∃ o₁, Mv Hp b o b₁ o₁ ∧ RA w b₁ o₁ M (putF x y p S).1 ∧ J i (putF x y p S).1 ∧
      S.nodes.length ≤ (putF x y p S).1.nodes.length ∧ (putF x y p S).2 < (putF x y p S).1.nodes.length := by
  intro h
  induction h using Nat.strongRecOn with
  | _ h ih =>
  intro p b o S A v i hp hg hA k R I T hx hy pv hj
  obtain ⟨a, t, vs, rfl, ho, l, ps⟩ := pv.parts
  have hpl := ps.length
  have hk := p.kids_len
  refine call_defQ (binds := [("self", .ref pl), ("pattern", .ref a), ("table", .ref tb)]) W (fn_placer_put w) hA (fun _ _ _ _ _ => rfl) rfl fun Q hQ L' hid env O => ?_
  have hA' : AOk (n + h + 8) (A.deeper env) := hA.deeper env
  refine t_cons (t_if (i_val (e_call (e_global W O rfl (g_is_variable w) (e_callWith (keeps3_K W (k_is_variable w)) (e_spl_cons (e_local O rfl rfl rfl (e_spl_nil (CT.of_DT ((is_var (n := n + h + 7) W hA' pv).mono ?_) _ _)))))))))
  rintro _ b₁ ⟨e₁, rfl⟩
  have k₁ := k.ext e₁
  have l₁ := l.ext e₁
  have v₁ : Mv Hp b o b₁ o := .ext e₁
  refine ⟨_, rfl, fun hv => ?_, fun hv => t_nil ?_⟩
  · cases p with
    | leaf _ => cases hv
    | un _ _ => cases hv
    | bin _ _ => cases hv
    | var vv =>
      have T₁ := T.move v₁
      obtain ⟨F, nn, d, _⟩ := T₁.ex
      refine t_cons (t_ret (e_sub (ops := fun o i => [o, i]) (e_cell O rfl rfl rfl (e_sub (ops := fun o i => [o, i]) (e_local O rfl rfl rfl (e_int fun t3 => ⟨l₁.sub, c_getItem_tuple (i := 0) l₁ (by simp [sizeLine]; omega) rfl ⟨d.sub, c_tab T₁ (fun t4 => ?_) _ _⟩ _ _⟩))))))
      refine hQ _ _ ⟨⟨t4, rfl⟩, o, v₁, R.ext e₁, hj, Nat.le_refl _, ?_⟩
      show tabOf x y vv < S.nodes.length
      cases vv
      · exact hy
      · exact hx
  · rw [putF_parts x y S p hv] at hQ
    have hmany := Pat.many_kids hv
    refine t_cons (t_ret (e_method W (e_fldc W O rfl rfl rfl (I.move v₁).inst (f_placer_heap w) rfl rfl ⟨M.h, cHeap, _, _, rfl, (R.ext e₁).h.inst.inst, m_heap_add w, rfl, e_spl_cons (e_sub (ops := fun o i => [o, i]) (e_local O rfl rfl rfl (e_int fun t8 => ⟨l₁.sub, c_getItem_tuple (i := 0) l₁ (by simp [sizeLine]; omega) rfl ?_ _ _⟩)))⟩)))
    refine e_spl_cons (e_comp O rfl rfl rfl rfl rfl rfl (fun p hp => by cases hp with | head => rfl | tail _ h => rw [List.mem_singleton.mp h]; rfl) (e_sub (ops := fun o i => [i, o]) (e_local O rfl rfl rfl (e_slice_from (e_int fun t3 sl b₂ e₂ hs => ⟨(l₁.ext e₂).sub, c_slice_tuple (l₁.ext e₂) hs (by simp [sizeLine]; omega) (fun sa b₃ e₃ n₃ l₃ => ?_) _ _⟩)))))
    have e₁₃ := e₂.trans e₃
    have e₀₃ := e₁.trans e₁₃
    have v₃ : Mv Hp b o b₃ o := .ext e₀₃
    have k₃ := k.ext e₀₃
    have osa : o sa = none := (k.ext (e₁.trans e₂)).own_new n₃
    have ps₃ := ps.move v₃
    refine ⟨_, _, _, itv_tuple hA'.hd l₃, by simp [sizeLine]; omega, PutC w M x y J b₃ o S p.kids (i + 1), ?_, ?_, ?_, ?_⟩
    · refine ⟨o, .refl, by rw [List.take_zero]; exact R.ext e₀₃, by rw [List.take_zero]; exact .nil, ?_, by rw [List.take_zero]; exact Nat.le_refl _, by rw [List.take_zero]; intro z hz; cases hz⟩
      rw [List.take_zero, List.drop_zero]
      show J (i + 1 + manys p.kids) S
      rw [hmany] at hj
      rwa [show i + 1 + manys p.kids = i + (manys p.kids + 1) by omega]
    · rintro j ys b' ⟨o', m', _⟩ c hc z hz
      rw [List.mem_singleton.mp hc] at hz ⊢
      exact m'.keep (by simp [osa]) z hz
    · rintro j ys b' v C' hid' env' hi' ⟨o', m', R', N', J', hn', hz'⟩ pv O'
      obtain ⟨q, hq, hqv⟩ := ps₃.get pv
      have hqm : q ∈ p.kids := List.mem_of_getElem? hq
      have hqh := kids_high hqm
      have hilt : j < p.kids.length := (List.getElem?_eq_some_iff.mp hq).1
      have hdrop : manys (p.kids.drop j) = manys (p.kids.drop (j + 1)) + q.many := by
        rw [List.drop_eq_getElem_cons hilt, show p.kids[j] = q from Option.some.inj ((List.getElem?_eq_getElem hilt).symm.trans hq)]
        simp [manys]; omega
      have htake : p.kids.take (j + 1) = p.kids.take j ++ [q] := by rw [List.take_add_one, hq]; rfl
      rw [hdrop] at J'
      have vm := v₃.trans m'
      refine e_mthc W O' rfl rfl rfl (I.move vm).inst (m_placer_put w) rfl (e_spl_cons (e_local O' rfl rfl rfl (e_spl_cons (e_cell O' rfl rfl rfl (e_spl_nil (CT.of_DT ((ih q.high (by omega) q (i := i + 1 + manys (p.kids.drop (j + 1))) (Nat.le_refl _) (Pat.good_kids hg q hqm) (hA'.mono (by first | exact lo rfl | omega)) (k.move vm) R' (I.move vm) (T.move vm) (by omega) (by omega) (hqv.move m') (by rwa [Nat.add_assoc])).mono ?_)))))))
      rintro _ b₅ ⟨⟨t5, rfl⟩, o₅, m₅, R₅, J₅, hn₅, hz₅⟩
      refine ⟨o₅, m'.trans m₅, by rw [htake, putsF_push]; exact R₅, by rw [htake, putsF_push]; exact N'.append (.one _ _), by rw [htake, putsF_push]; exact J₅, by rw [htake, putsF_push]; exact Nat.le_trans hn' hn₅, fun z hz => ?_⟩
      rw [htake, putsF_push] at hz ⊢
      rcases List.mem_append.mp hz with hz | hz
      · have := hz' z hz; dsimp only; omega
      · rw [List.mem_singleton.mp hz]; exact hz₅
    · rintro D ys b' b₅ ⟨o', m', R', N', J', hn', hz'⟩ e₅ nD lD
      rw [List.take_of_length_le (by omega)] at R' N' J' hn' hz'
      rw [List.drop_eq_nil_of_le (by omega)] at J'
      have J1 : J (i + 1) (putsF x y p.kids S).1 := J'
      have hNl := N'.length
      have vm := v₃.trans m'
      have k' := k.move vm
      have oD : o' D = none := k'.own_new nD
      have hks : (putsF x y p.kids S).2.length ≤ 2 := by
        rw [putsF_len]; exact hk
      have hop := Pat.good_op hg hv
      have st := hJ.step i _ (p.op, (putsF x y p.kids S).2) J1 hop hks hz'
      have ft := hJ.fit _ _ J1
      refine e_spl_nil (CT.of_DT ((hp_add (n := n + h) W (hA'.mono (by first | exact lo rfl | omega)) (k'.ext e₅) (R'.ext e₅) ft.1 ft.2 hop (.inl lD) oD N' hks hz' st.1).mono ?_) _ _)
      rintro _ b₆ ⟨⟨t6, rfl⟩, o₆, m₆, R₆⟩
      refine hQ _ _ ⟨⟨t6, rfl⟩, o₆, vm.trans ((Mv.ext e₅).trans m₆), R₆, st.2.1, ?_, st.2.2.2⟩
      have := st.2.2.1
      dsimp only; omega
end
end Mine
end
section
open PySem PySem.W PyProof.Rows PySem.Calls PySem.Spec Builtin
set_option maxRecDepth 100000
set_option linter.unusedVariables false
namespace Mine
/-- the script, dealt out -/
inductive DealAt (w : World) (b : Heap) (o : Own) (d : Addr) (sm : Nat) : Prop
  | mk (F : Str → Option Value) (nn : Nat) (cl : Addr) (vs : List Value) (s : Nat) (t : Tok) (h0 : s ≤ sm) (hD : OD (PySem.strKind PG w) b o .deal d F nn) (h1 : nn ≤ lim) (h2 : F "cells" = some (.ref cl)) (h3 : F "spent" = some (.int (Int.ofNat s) t)) (h4 : o cl = none) (h5 : Ls b cl vs) (h6 : Ints vs) (h7 : vs.length ≤ lim)
theorem ls_move {T : Role → Prop} {b b₁ : Heap} {o o₁ : Own} {a : Addr} {vs : List Value} (x : Ls b a vs) (h : o a = none) (m : Mv T b o b₁ o₁) : Ls b₁ a vs ∧ o₁ a = none := by
  obtain ⟨n, x⟩ := x
  have k := m.old a _ x
  exact ⟨⟨n, k.2.2 (by simp [h])⟩, k.1.trans h⟩
theorem DealAt.move {w : World} {T : Role → Prop} {b b₁ : Heap} {o o₁ : Own} {d : Addr} {sm : Nat} (h : DealAt w b o d sm) (m : Mv T b o b₁ o₁) (hT : ¬ T .deal) : DealAt w b₁ o₁ d sm := by
  obtain ⟨F, nn, cl, vs, s, t, hs, D, h1, h2, h3, h4, h5, h6, h7⟩ := h
  have k := ls_move h5 h4 m
  exact ⟨F, nn, cl, vs, s, t, hs, D.move m hT, h1, h2, h3, k.2, k.1, h6, h7⟩
abbrev Dl (r : Role) : Prop := r = .deal
section
variable {w : World} {G b : Heap} {A : Around} {n : Nat} {o : Own}
theorem mul_ok {x y : Int} (h0 : 0 ≤ y) (h1 : y < 1000000) : IntMulOk x y := by mul_fits
theorem c_mul_int {x y : Int} {t u : Tok} {P : Value → Heap → Prop} (h : 0 ≤ y ∧ y < 1000000) (k : ∀ t, P (.int (x * y) t) b) : CT w G A (binaryOp .Mult (.int x t) (.int y u)) b P := CT.still fun s Q E _ _ q => PyProof.Rows.mul_int (q _ _ (k _)) (mul_ok h.1 h.2)
theorem counted_ (W : Wld (KK w) G) (hA : AOk (n + 1) A) (k : Ok G b o) {d : Addr} {sm : Nat} (D : DealAt w b o d sm) (hsm : sm ≤ lim) {m : Nat} {t : Tok} (hm : 0 < m) :
    DT w G A (.call (.ref 444) ⟨[.ref d, .int (Int.ofNat m) t], []⟩) b fun v b₁ => (∃ i t, v = .int (Int.ofNat i) t ∧ i < m) ∧ Mv Dl b o b₁ o ∧ DealAt w b₁ o d (sm + 1) := by
  have lz := lim_size
  obtain ⟨F, nn, cl, vs, s, ts, hss, D, h1, h2, h3, h4, h5, h6, h7⟩ := D
  have hkc : (PySem.strKind PG w).is ("cells" : Str) (.str ("cells" : Str) 0) = true := by simp [PySem.strKind, Value.isStrOf]
  have hks : ∀ t, (PySem.strKind PG w).is ("spent" : Str) (.str ("spent" : Str) t) = true := fun t => by simp [PySem.strKind, Value.isStrOf]
  have hkc : ∀ t, (PySem.strKind PG w).is ("cells" : Str) (.str ("cells" : Str) t) = true := fun t => by simp [PySem.strKind, Value.isStrOf]
  refine call_defQ (binds := [("deal", .ref d), ("limit", .int (Int.ofNat m) t)]) W (fn_counted w) hA (fun _ _ _ _ _ => rfl) rfl fun Q hQ L' hid env O => ?_
  refine t_cons (t_setitem (e_binop (e_sub (ops := fun o i => [o, i]) (e_local O rfl rfl rfl (e_str fun t1 => ⟨D.kd.sub, c_kd_get D.kd (hks _) h3 (e_int fun t2 => c_add_int (fun t3 => ?_) _ _) _ _⟩)))))
  refine e_local O rfl rfl rfl (e_str fun t4 => o_kd_set (k := ("spent" : Str)) k D (hks _) (by omega) (fun b₁ m₁ D₁ => ?_) _ _)
  have D₁' : OD (PySem.strKind PG w) b₁ o .deal d (fun y => if y = "spent" then some (.int (Int.ofNat s + 1) t3) else F y) nn := by
    have := D₁.kd
    rw [if_pos (by rw [h3]; rfl)] at this
    exact ⟨this, D₁.own⟩
  have hs1 : (Int.ofNat s + 1) = Int.ofNat (s + 1) := rfl
  rw [hs1] at D₁'
  have kl := ls_move h5 h4 m₁
  have fin : DealAt w b₁ o d (sm + 1) := ⟨_, nn, cl, vs, s + 1, t3, Nat.succ_le_succ hss, D₁', h1, by rw [if_neg (by decide)]; exact h2, if_pos rfl, h4, kl.1, h6, h7⟩
  have res : ∀ z : Int, (∃ i : Nat, z.fmod (Int.ofNat m) = Int.ofNat i ∧ i < m) := fun z => by
    have hp : (0 : Int) < Int.ofNat m := by simp only [Int.ofNat_eq_natCast]; omega
    have he := Int.fmod_eq_emod_of_nonneg z (Int.le_of_lt hp)
    have a1 : 0 ≤ z.fmod (Int.ofNat m) := by rw [he]; exact Int.emod_nonneg _ (by omega)
    have a2 : z.fmod (Int.ofNat m) < Int.ofNat m := by rw [he]; exact Int.emod_lt_of_pos _ hp
    obtain ⟨i, hi⟩ := Int.eq_ofNat_of_zero_le a1
    exact ⟨i, hi, by rw [hi] at a2; simp only [Int.ofNat_eq_natCast] at a2; omega⟩
  refine t_cons (t_assign (e_sub (ops := fun o i => [o, i]) (e_local O rfl rfl rfl (e_str fun t5 => ⟨D₁'.kd.sub, c_kd_get (k := ("spent" : Str)) D₁'.kd (hks _) (if_pos rfl) (s_local O rfl rfl ?_) _ _⟩))))
  refine t_cons (t_if (i_cmp (e_local O rfl rfl (if_pos rfl) (e_len W O rfl (b_len w).1 (e_sub (ops := fun o i => [o, i]) (e_local O rfl rfl rfl (e_str fun t6 => ⟨D₁'.kd.sub, c_kd_get (k := ("cells" : Str)) D₁'.kd (hkc _) ((if_neg (by decide)).trans h2) ⟨cl, vs, rfl, kl.1, by omega, fun t7 => ?_⟩ _ _⟩))) (b_len w).2))))
  refine c_le_int ⟨_, rfl, fun c => ?_, fun c => t_nil ?_⟩ _ _
  · have hlt : s < vs.length := by have := of_decide_eq_true c; simp only [Int.ofNat_eq_natCast] at this; omega
    obtain ⟨z, tz, hz⟩ := h6 vs[s] (List.getElem_mem hlt)
    refine t_cons (t_ret (e_binop (e_sub (ops := fun o i => [o, i]) (e_sub (ops := fun o i => [o, i]) (e_local O rfl rfl rfl (e_str fun t6 => ⟨D₁'.kd.sub, c_kd_get (k := ("cells" : Str)) D₁'.kd (hkc _) ((if_neg (by decide)).trans h2) ?_ _ _⟩))))))
    refine e_binop (e_local O rfl rfl (if_pos rfl) (e_int fun t8 => c_sub_int (fun t9 => ⟨kl.1.sub, c_getItem_list kl.1 (v := vs[s]) (by simp only [Int.ofNat_eq_natCast]; omega) (by omega) ?_ ?_ _ _⟩) _ _))
    · have : (Int.ofNat (s + 1) - 1).toNat = s := by simp only [Int.ofNat_eq_natCast]; omega
      rw [this]; exact List.getElem?_eq_getElem hlt
    · rw [hz]
      refine e_local O rfl rfl rfl (c_mod_int (by simp only [Int.ofNat_eq_natCast]; omega) (fun t10 => ?_) _ _)
      obtain ⟨i, hi, hlt'⟩ := res z
      exact hQ _ _ ⟨⟨i, t10, by rw [hi], hlt'⟩, m₁.weak (fun r h => h), fin⟩
  · have hsb : (0 : Int) ≤ Int.ofNat (s + 1) ∧ Int.ofNat (s + 1) < 1000000 := by have : lim = 100000 := rfl; simp only [Int.ofNat_eq_natCast]; omega
    refine t_cons (t_ret (e_binop (e_binop (e_binop (e_binop (e_binop (e_binop (e_int fun t8 => e_local O rfl rfl (if_pos rfl) (c_mul_int hsb (fun t9 => e_local O rfl rfl (if_pos rfl) (c_mul_int hsb (fun t10 => ?_) _ _)) _ _))))))))) 
    refine e_binop (e_int fun t11 => e_local O rfl rfl (if_pos rfl) (c_mul_int hsb (fun t12 => c_add_int (fun t13 => e_int fun t14 => c_add_int (fun t15 => e_int fun t16 => c_mod_int (by decide) (fun t17 => e_local O rfl rfl rfl (c_mod_int (by simp only [Int.ofNat_eq_natCast]; omega) (fun t18 => ?_) _ _)) _ _) _ _) _ _) _ _))
    obtain ⟨i, hi, hlt'⟩ := res _
    exact hQ _ _ ⟨⟨i, t18, by rw [hi], hlt'⟩, m₁.weak (fun r h => h), fin⟩
end
end Mine
end
section
open PySem PySem.W PyProof.Rows PySem.Calls PySem.Spec Builtin
set_option maxRecDepth 100000
set_option linter.unusedVariables false
namespace Mine
theorem DealAt.mono {w : World} {b : Heap} {o : Own} {d : Addr} {s s' : Nat} (h : DealAt w b o d s) (hs : s ≤ s') : DealAt w b o d s' := by
  obtain ⟨F, nn, cl, vs, s0, t, h0, r0, r1, r2, r3, r4, r5, r6, r7⟩ := h
  exact ⟨F, nn, cl, vs, s0, t, Nat.le_trans h0 hs, r0, r1, r2, r3, r4, r5, r6, r7⟩
theorem pt1 {s N : Nat} (h : 2 ≤ N) : s + 1 ≤ s + (N - 1) := Nat.add_le_add_left (Nat.le_sub_of_add_le h) s
theorem pt2 {s N M : Nat} (e : M = N + N) (h : 2 ≤ N) : s + 1 + (N - 1) ≤ s + (M - 1) := by omega
theorem pt3 {s N M : Nat} (e : M = N + N) (h : 2 ≤ N) : s + 1 + (N - 1) + (N - 1) ≤ s + (M - 1) := by omega
theorem pt4 {s N M K : Nat} (e : M = N + N) (h : 2 ≤ N) (k : s + M ≤ K) : s + 1 + N ≤ K := by omega
theorem pt5 {N M x y : Nat} (e : M = N + N) (h : x + 1 ≤ N) (k : y + 1 ≤ N) : x + y + 1 + 1 ≤ M := by omega
theorem pt6 {N M x : Nat} (e : M = N + N) (h : 2 ≤ N) (k : x + 1 ≤ N) : x + 1 + 1 ≤ M := by omega
theorem pt7 {s N M K : Nat} (e : M = N + N) (h : 2 ≤ N) (k : s + M ≤ K) : s + 1 + (N - 1) + N ≤ K := by omega
section
variable {w : World} {G : Heap} {n : Nat} {o : Own}
set_option maxHeartbeats 4000000 in
theorem pattern_step (W : Wld (KK w) G) {d : Addr} (h : Nat) (ih : ∀ h', h = h' + 1 → ∀ {A : Around} {b : Heap} {sm : Nat} {t : Tok}, AOk (n + h' + 2) A → Ok G b o → DealAt w b o d sm → sm + 2 ^ (h' + 1) ≤ lim →
      DT w G A (.call (.ref 451) ⟨[.ref d, .int (Int.ofNat h') t], []⟩) b fun v b₁ => (∃ p, PatAt b₁ o p v ∧ p.high ≤ h' ∧ p.good ∧ p.many + 1 ≤ 2 ^ (h' + 1)) ∧ Mv Dl b o b₁ o ∧ DealAt w b₁ o d (sm + (2 ^ (h' + 1) - 1)))
    {A : Around} {b : Heap} {sm : Nat} {t : Tok} (hA : AOk (n + h + 2) A) (k : Ok G b o) (D : DealAt w b o d sm) (hsm : sm + 2 ^ (h + 1) ≤ lim) :
    DT w G A (.call (.ref 451) ⟨[.ref d, .int (Int.ofNat h) t], []⟩) b fun v b₁ => (∃ p, PatAt b₁ o p v ∧ p.high ≤ h ∧ p.good ∧ p.many + 1 ≤ 2 ^ (h + 1)) ∧ Mv Dl b o b₁ o ∧ DealAt w b₁ o d (sm + (2 ^ (h + 1) - 1)) := by
  have hpow : 2 ≤ 2 ^ (h + 1) := by rw [Nat.pow_succ]; have := Nat.one_le_two_pow (n := h); omega
  refine call_defQ (binds := [("deal", .ref d), ("high", .int (Int.ofNat h) t)]) W (fn_pattern w) hA (fun _ _ _ _ _ => rfl) rfl fun Q hQ L' hid env O => ?_
  have hA' : AOk (n + h + 1) (A.deeper env) := hA.deeper env
  -- from the drawn way on
  have tail : ∀ (b₁ : Heap) (i m : Nat) (ti : Tok) (m' : Locs), Mv Dl b o b₁ o → DealAt w b₁ o d (sm + 1) → i < m → m ≤ 8 → (h = 0 → m = 4) → m' "deal" = some (.ref d) → m' "high" = some (.int (Int.ofNat h) t) → m' "way" = some (.int (Int.ofNat i) ti) →
      TT w G (A.deeper env) (Fr (scS (topS 17)) L' hid) (execs ((bodyS (topS 17)).drop 1) env) b₁ m' (Back Q) := by
    intro b₁ i m ti m' m₁ D₁ him hm8 hm4 h1 h2 h3
    have k₁ := k.move m₁
    refine t_cons (t_if (i_cmp (e_local O rfl rfl h3 (e_int fun t1 => c_lt_int ⟨_, rfl, fun c => ?_, fun c => t_nil ?_⟩ _ _))))
    · have hi4 : i < 4 := by have := of_decide_eq_true c; simp only [Int.ofNat_eq_natCast] at this; omega
      refine t_cons (t_ret (e_sub (ops := fun o i => [o, i]) (e_list (e_spl_cons (e_tuple (e_spl_cons (e_str fun t2 => e_spl_nil (c_newTuple (by simp [sizeLine]) (fun a1 b₂ e₂ n₂ l₂ => ?_) _ _))))))))
      refine e_spl_cons (e_tuple (e_spl_cons (e_str fun t3 => e_spl_nil (c_newTuple (by simp [sizeLine]) (fun a2 b₃ e₃ n₃ l₃ => ?_) _ _))))
      refine e_spl_cons (e_tuple (e_spl_cons (e_str fun t4 => e_spl_nil (c_newTuple (by simp [sizeLine]) (fun a3 b₄ e₄ n₄ l₄ => ?_) _ _))))
      refine e_spl_cons (e_tuple (e_spl_cons (e_str fun t5 => e_spl_nil (c_newTuple (by simp [sizeLine]) (fun a4 b₅ e₅ n₅ l₅ => ?_) _ _))))
      refine e_spl_nil (c_newList (by simp [sizeLine]) (fun la b₆ e₆ n₆ l₆ => ?_) _ _)
      have k₂ := k₁.ext e₂
      have k₃ := k₂.ext e₃
      have k₄ := k₃.ext e₄
      have e₁₆ : Ext b₁ b₆ := e₂.trans (e₃.trans (e₄.trans (e₅.trans e₆)))
      have done : ∀ (p : Pat) (a : Addr), PatAt b₆ o p (.ref a) → p.high = 0 → p.good → p.many ≤ 1 → Q (.ref a) b₆ := fun p a q1 q2 q3 q4 => hQ _ _
        ⟨⟨p, q1, by rw [q2]; exact Nat.zero_le _, q3, Nat.le_trans (Nat.succ_le_succ q4) hpow⟩, m₁.trans (.ext e₁₆), (D₁.move (T := fun _ => False) (.ext e₁₆) id).mono (pt1 hpow)⟩
      have hcase := lt4 i hi4
      refine e_local O rfl rfl h3 ⟨l₆.sub, ?_⟩
      rcases hcase with rfl | rfl | rfl | rfl
      · exact c_getItem_list l₆ (by decide) (by simp [sizeLine]) (v := .ref a1) rfl (done (.var true) a1 ⟨a1, t2, rfl, k₁.own_new n₂, (((l₂.ext e₃).ext e₄).ext e₅).ext e₆⟩ rfl trivial (by decide)) _ _
      · exact c_getItem_list l₆ (by decide) (by simp [sizeLine]) (v := .ref a2) rfl (done (.var false) a2 ⟨a2, t3, rfl, k₂.own_new n₃, ((l₃.ext e₄).ext e₅).ext e₆⟩ rfl trivial (by decide)) _ _
      · exact c_getItem_list l₆ (by decide) (by simp [sizeLine]) (v := .ref a3) rfl (done (.leaf true) a3 ⟨a3, t4, rfl, k₃.own_new n₄, (l₄.ext e₅).ext e₆⟩ rfl trivial (by decide)) _ _
      · exact c_getItem_list l₆ (by decide) (by simp [sizeLine]) (v := .ref a4) rfl (done (.leaf false) a4 ⟨a4, t5, rfl, k₄.own_new n₅, l₅.ext e₆⟩ rfl trivial (by decide)) _ _
    · have hi4 : 4 ≤ i := by have := of_decide_eq_false c; simp only [Int.ofNat_eq_natCast] at this; omega
      obtain ⟨h', rfl⟩ : ∃ h', h = h' + 1 := by
        cases h with
        | zero => have := hm4 rfl; omega
        | succ h' => exact ⟨h', rfl⟩
      have ihh := fun {A : Around} {b : Heap} {sm : Nat} {t : Tok} => @ih h' rfl A b sm t
      have hpw : 2 ^ (h' + 1 + 1) = 2 ^ (h' + 1) + 2 ^ (h' + 1) := by rw [Nat.pow_succ 2 (h' + 1)]; omega
      have hp1 : 2 ≤ 2 ^ (h' + 1) := by rw [Nat.pow_succ]; have := Nat.one_le_two_pow (n := h'); omega
      have hsub : Int.ofNat (h' + 1) - 1 = Int.ofNat h' := by simp only [Int.ofNat_eq_natCast]; omega
      have rec_ : ∀ (b₂ : Heap) (s2 : Nat) (p1 p2 p3 p4 p5 p6 : Pos) (kk : Nat) (P : Value → Heap → Prop), Mv Dl b o b₂ o → DealAt w b₂ o d s2 → s2 + 2 ^ (h' + 1) ≤ lim →
          (∀ v b₃ p, PatAt b₃ o p v → p.high ≤ h' → p.good → p.many + 1 ≤ 2 ^ (h' + 1) → Mv Dl b₂ o b₃ o → DealAt w b₃ o d (s2 + (2 ^ (h' + 1) - 1)) → P v b₃) →
          ET w G (A.deeper env) (Fr (scS (topS 17)) L' hid) (eval (.Call (.Name "_law_pattern" p1) [.Name "deal" p2, .BinOp (.Name "high" p3) .Sub (.Constant (.int 1) kk p4) p5] [] p6) env) b₂ m' P := by
        intro b₂ s2 p1 p2 p3 p4 p5 p6 kk P m₂ D₂ hs2 K
        refine e_call (e_global W O rfl (g_law_pattern w) (e_callWith (keeps3_K W (k_law_pattern w)) (e_spl_cons (e_local O rfl rfl h1 (e_spl_cons (e_binop (e_local O rfl rfl h2 (e_int fun t2 => c_sub_int (fun t3 => ?_) _ _))))))))
        rw [hsub]
        refine e_spl_nil (CT.of_DT ((ihh (hA'.mono (by first | exact lo rfl | omega)) (k.move m₂) D₂ hs2).mono ?_) _ _)
        rintro v b₃ ⟨⟨p, q1, q2, q3, q4⟩, m₃, D₃⟩
        exact K v b₃ p q1 q2 q3 q4 m₃ D₃
      refine t_cons (t_if (i_cmp (e_local O rfl rfl h3 (e_int fun t1 => c_eq_int ⟨_, rfl, fun c6 => ?_, fun c6 => t_nil ?_⟩ _ _))))
      · refine t_cons (t_ret (e_tuple (e_spl_cons (e_str fun t2 => e_spl_cons (rec_ b₁ (sm + 1) _ _ _ _ _ _ _ _ m₁ D₁ (pt4 hpw hp1 hsm) fun v b₂ p q1 q2 q3 q4 m₂ D₂ => ?_)))))
        refine e_spl_cons (rec_ b₂ _ _ _ _ _ _ _ _ _ (m₁.trans m₂) D₂ (pt7 hpw hp1 hsm) fun v' b₃ p' r1 r2 r3 r4 m₃ D₃ => ?_)
        refine e_spl_nil (c_newTuple (by simp [sizeLine]) (fun a b₄ e₄ n₄ l₄ => ?_) _ _)
        have m₁₃ := (m₁.trans m₂).trans m₃
        have x4 : Mv Dl b₃ o b₄ o := .ext e₄
        refine hQ _ _ ⟨⟨.bin p p', ⟨a, t2, v, v', rfl, (k.move m₁₃).own_new n₄, l₄, (q1.move m₃).move x4, r1.move x4⟩, ?_, ⟨q3, r3⟩, ?_⟩, m₁₃.trans x4, (D₃.move (T := fun _ => False) (.ext e₄) id).mono (pt3 hpw hp1)⟩
        · simp only [Pat.high]; exact Nat.succ_le_succ (Nat.max_le.mpr ⟨q2, r2⟩)
        · simp only [Pat.many]; exact pt5 hpw q4 r4
      · have hi6 : i ≠ 6 := fun q => by subst q; exact absurd c6 (by decide)
        have hcase := lt8 i (Nat.lt_of_lt_of_le him hm8) hi4 hi6
        refine t_cons (t_ret (e_tuple (e_spl_cons (e_sub (ops := fun o i => [o, i]) (e_list (e_spl_cons (e_str fun t2 => e_spl_cons (e_str fun t3 => e_spl_cons (e_str fun t4 => e_spl_cons (e_str fun t5 => e_spl_nil (c_newList (by simp [sizeLine]) (fun la b₂ e₂ n₂ l₂ => ?_) _ _)))))))))))
        have m₂ : Mv Dl b o b₂ o := m₁.trans (.ext e₂)
        have D₂ := D₁.move (T := fun _ => False) (.ext e₂) id
        refine e_binop (e_local O rfl rfl h3 (e_int fun t6 => c_sub_int (fun t7 => ⟨l₂.sub, ?_⟩) _ _))
        have fin : ∀ (op : Str) (t8 : Tok) (v : Value) (b₃ : Heap) (p : Pat), goodOp op → PatAt b₃ o p v → p.high ≤ h' → p.good → p.many + 1 ≤ 2 ^ (h' + 1) → Mv Dl b₂ o b₃ o → DealAt w b₃ o d (sm + 1 + (2 ^ (h' + 1) - 1)) → ∀ a b₄, Ext b₃ b₄ → b₃.get? a = none → Tp b₄ a [.str op t8, v] →
            Q (.ref a) b₄ := by
          intro op t8 v b₃ p hop q1 q2 q3 q4 m₃ D₃ a b₄ e₄ n₄ l₄
          have x4 : Mv Dl b₃ o b₄ o := .ext e₄
          refine hQ _ _ ⟨⟨.un op p, ⟨a, t8, v, rfl, (k.move (m₂.trans m₃)).own_new n₄, l₄, q1.move x4⟩, by simp only [Pat.high]; exact Nat.succ_le_succ q2, ⟨hop, q3⟩, by simp only [Pat.many]; exact pt6 hpw hp1 q4⟩, (m₂.trans m₃).trans x4, (D₃.move (T := fun _ => False) (.ext e₄) id).mono (pt2 hpw hp1)⟩
        rcases hcase with rfl | rfl | rfl
        · exact c_getItem_list l₂ (by decide) (by simp [sizeLine]) (v := .str "f" t2) rfl (e_spl_cons (rec_ b₂ (sm + 1) _ _ _ _ _ _ _ _ m₂ D₂ (pt4 hpw hp1 hsm) fun v b₃ p q1 q2 q3 q4 m₃ D₃ => e_spl_nil (c_newTuple (by simp [sizeLine]) (fun a b₄ e₄ n₄ l₄ => fin "f" t2 v b₃ p (by simp [goodOp]) q1 q2 q3 q4 m₃ D₃ a b₄ e₄ n₄ l₄) _ _))) _ _
        · exact c_getItem_list l₂ (by decide) (by simp [sizeLine]) (v := .str "g" t3) rfl (e_spl_cons (rec_ b₂ (sm + 1) _ _ _ _ _ _ _ _ m₂ D₂ (pt4 hpw hp1 hsm) fun v b₃ p q1 q2 q3 q4 m₃ D₃ => e_spl_nil (c_newTuple (by simp [sizeLine]) (fun a b₄ e₄ n₄ l₄ => fin "g" t3 v b₃ p (by simp [goodOp]) q1 q2 q3 q4 m₃ D₃ a b₄ e₄ n₄ l₄) _ _))) _ _
        · exact c_getItem_list l₂ (by decide) (by simp [sizeLine]) (v := .str "u" t5) rfl (e_spl_cons (rec_ b₂ (sm + 1) _ _ _ _ _ _ _ _ m₂ D₂ (pt4 hpw hp1 hsm) fun v b₃ p q1 q2 q3 q4 m₃ D₃ => e_spl_nil (c_newTuple (by simp [sizeLine]) (fun a b₄ e₄ n₄ l₄ => fin "u" t5 v b₃ p (by simp [goodOp]) q1 q2 q3 q4 m₃ D₃ a b₄ e₄ n₄ l₄) _ _))) _ _
  refine t_cons (t_assign (e_call (e_global W O rfl (g_law_counted w) (e_callWith (keeps3_K W (k_law_counted w)) (e_spl_cons (e_local O rfl rfl rfl (e_spl_cons (e_ifexp (i_cmp (e_local O rfl rfl rfl (e_int fun t1 => c_gt_int ⟨_, rfl, fun c => e_int fun t2 => ?_, fun c => e_int fun t2 => ?_⟩ _ _)))))))))))
  · refine e_spl_nil (CT.of_DT ((counted_ (n := n + h) W hA' k D (by omega) (m := 8) (by decide)).mono ?_) _ _)
    rintro _ b₁ ⟨⟨i, ti, rfl, hi⟩, m₁, D₁⟩
    exact s_local O rfl rfl (tail b₁ i 8 ti _ m₁ D₁ hi (by decide) (fun h0 => by subst h0; exact absurd c (by decide)) rfl rfl (if_pos rfl))
  · refine e_spl_nil (CT.of_DT ((counted_ (n := n + h) W hA' k D (by omega) (m := 4) (by decide)).mono ?_) _ _)
    rintro _ b₁ ⟨⟨i, ti, rfl, hi⟩, m₁, D₁⟩
    exact s_local O rfl rfl (tail b₁ i 4 ti _ m₁ D₁ hi (by decide) (fun _ => rfl) rfl rfl (if_pos rfl))
theorem pattern_ (W : Wld (KK w) G) {d : Addr} : ∀ (h : Nat) {A : Around} {b : Heap} {sm : Nat} {t : Tok}, AOk (n + h + 2) A → Ok G b o → DealAt w b o d sm → sm + 2 ^ (h + 1) ≤ lim →
    DT w G A (.call (.ref 451) ⟨[.ref d, .int (Int.ofNat h) t], []⟩) b fun v b₁ => (∃ p, PatAt b₁ o p v ∧ p.high ≤ h ∧ p.good ∧ p.many + 1 ≤ 2 ^ (h + 1)) ∧ Mv Dl b o b₁ o ∧ DealAt w b₁ o d (sm + (2 ^ (h + 1) - 1)) := by
  intro h
  induction h with
  | zero => intro A b sm t hA k D hs; exact pattern_step W 0 (fun h' e => by cases e) hA k D hs
  | succ h ih => intro A b sm t hA k D hs; exact pattern_step W (h + 1) (fun h' e => by cases e; exact fun hA k D hs => ih hA k D hs) hA k D hs
end
end Mine
end
section
open PySem PySem.W
set_option maxRecDepth 100000
set_option linter.unusedVariables false
namespace Mine
/-! sums over the numbers below n -/
def tot (g : Nat → Nat) : Nat → Nat
  | 0 => 0
  | n + 1 => tot g n + g n
theorem tot_congr {g h : Nat → Nat} {n : Nat} (e : ∀ i, i < n → g i = h i) : tot g n = tot h n := by
  induction n with
  | zero => rfl
  | succ n ih => rw [tot, tot, ih fun i hi => e i (by omega), e n (by omega)]
theorem tot_ge {g : Nat → Nat} {n i : Nat} (hi : i < n) : g i ≤ tot g n := by
  induction n with
  | zero => omega
  | succ n ih =>
    rw [tot]
    by_cases h : i = n
    · subst h; omega
    · have := ih (by omega); omega
theorem tot_ge2 {g : Nat → Nat} {n i j : Nat} (hi : i < n) (hj : j < n) (hne : i ≠ j) : g i + g j ≤ tot g n := by
  induction n with
  | zero => omega
  | succ n ih =>
    rw [tot]
    by_cases h : i = n
    · subst h; have := tot_ge (g := g) (n := i) (i := j) (by omega); omega
    · by_cases h' : j = n
      · subst h'; have := tot_ge (g := g) (n := j) (i := i) (by omega); omega
      · have := ih (by omega) (by omega); omega
theorem tot_at {g h : Nat → Nat} {n i : Nat} (hi : i < n) (e : ∀ j, j < n → j ≠ i → g j = h j) : tot g n + h i = tot h n + g i := by
  induction n with
  | zero => omega
  | succ n ih =>
    rw [tot, tot]
    by_cases hn : i = n
    · subst hn
      have := tot_congr (g := g) (h := h) (n := i) fun j hj => e j (by omega) (by omega)
      omega
    · have := ih (by omega) fun j hj hne => e j (by omega) hne
      have := e n (by omega) fun q => hn q.symm
      omega
/-- what lay at gone lies at kept -/
theorem tot_move {g h : Nat → Nat} {n k m : Nat} (hk : k < n) (hm : m < n) (hne : k ≠ m) (e : ∀ j, j < n → j ≠ k → j ≠ m → h j = g j) (ek : h k = g k + g m) (em : h m = 0) : tot h n = tot g n := by
  have h1 := tot_at (g := fun j => if j = m then g m else h j) (h := h) hm fun j hj hne => by simp [hne]
  have h2 := tot_at (g := fun j => if j = m then g m else h j) (h := g) hk fun j hj hne => by
    by_cases hjm : j = m
    · subst hjm; simp
    · simp only [hjm, if_false]; exact e j hj hne hjm
  simp only [if_true, hne, if_false] at h1 h2
  omega
/-! roots -/
theorem root_lt {par : List Nat} {a n : Nat} (h : a < n) : root par a < n := Nat.lt_of_le_of_lt (root_le par a) h
theorem root_of_fix {par : List Nat} {a : Nat} (h : par[a]? = some a) : root par a = a := by
  unfold root
  have : par.getD a a = a := by simp [List.getD, h]
  rw [this, dif_neg (Nat.lt_irrefl a)]
theorem root_root {par : List Nat} (hle : ∀ i p : Nat, par[i]? = some p → p ≤ i) {a : Nat} (ha : a < par.length) : root par (root par a) = root par a := root_of_fix (root_fix hle ha)
theorem root_step {par : List Nat} (hle : ∀ i p : Nat, par[i]? = some p → p ≤ i) {a p : Nat} (h : par[a]? = some p) : root par p = root par a := by
  conv => rhs; unfold root
  have hd : par.getD a a = p := by simp [List.getD, h]
  rw [hd]
  split
  · rfl
  · rename_i hn
    have := hle a p h
    have : p = a := by omega
    subst this
    exact root_of_fix h
/-- the root gone put below kept -/
theorem root_set {par : List Nat} (hle : ∀ i p : Nat, par[i]? = some p → p ≤ i) {k g : Nat} (hg : par[g]? = some g) (hk : par[k]? = some k) (hkg : k < g) : ∀ a, a < par.length → root (par.set g k) a = if root par a = g then k else root par a := by
  have hgl := (List.getElem?_eq_some_iff.mp hg).1
  have hkl := (List.getElem?_eq_some_iff.mp hk).1
  intro a
  induction a using Nat.strongRecOn with
  | _ a ih =>
    intro ha
    obtain ⟨p, hp⟩ : ∃ p, par[a]? = some p := ⟨_, List.getElem?_eq_getElem ha⟩
    have hpa := hle a p hp
    by_cases hag : a = g
    · subst hag
      rw [root_of_fix hg, if_pos rfl]
      have h1 : (par.set a k)[a]? = some k := by simp [hgl]
      have h2 : (par.set a k)[k]? = some k := by rw [List.getElem?_set_ne (by omega)]; exact hk
      unfold root
      have hd : (par.set a k).getD a a = k := by simp [List.getD, h1]
      rw [hd, dif_pos hkg]
      exact root_of_fix h2
    · have h1 : (par.set g k)[a]? = some p := by rw [List.getElem?_set_ne (Ne.symm hag)]; exact hp
      by_cases hpe : p = a
      · subst hpe
        rw [root_of_fix h1, root_of_fix hp, if_neg hag]
      · have hlt : p < a := by omega
        have := ih p hlt (by omega)
        conv => lhs; unfold root
        have hd : (par.set g k).getD a a = p := by simp [List.getD, h1]
        rw [hd, dif_pos hlt, this, root_step hle hp]
/-! what holds of the heap -/
structure Inv (told : List (Nat × Nat)) (S : St) (c : Nat) : Prop where
  par : S.par.length = S.nodes.length
  le : ∀ i p : Nat, S.par[i]? = some p → p ≤ i
  uniq : ∀ (i : Nat) (q : Str × List Nat), S.nodes[i]? = some q → numOf S.nodes q = some i
  kids : ∀ (i : Nat) (q : Str × List Nat), S.nodes[i]? = some q → q.2.length ≤ 2 ∧ ∀ x ∈ q.2, x < i
  sound : ∀ f : Nat → Nat, Closed S.nodes told f → ∀ i p : Nat, S.par[i]? = some p → f p = f i
  known : ∀ (q : Str × List Nat) (i : Nat), S.known q = some i → ∃ ks, S.nodes[i]? = some (q.1, ks) ∧ ∀ f : Nat → Nat, Closed S.nodes told f → ks.map f = q.2.map f
  abv : ∀ i : Nat, (∃ us, S.abv i = some us) ↔ S.par[i]? = some i
  user : ∀ (i : Nat) (q : Str × List Nat), S.nodes[i]? = some q → ∀ x ∈ q.2, ∀ us, S.abv (root S.par x) = some us → i ∈ us
  abvb : ∀ (i : Nat) (us : List Nat), S.abv i = some us → ∀ u ∈ us, u < S.nodes.length
  abvs : tot (fun i => ((S.abv i).getD []).length) S.nodes.length ≤ 2 * S.nodes.length
  lots : S.lots.length = S.par.length
  lot : ∀ i q : Nat, S.lots[i]? = some q → q ≤ S.nodes.length
  lotsum : tot (fun i => if S.par[i]? = some i then S.lots.getD i 0 else 0) S.nodes.length ≤ S.nodes.length
  wait : ∀ x ∈ S.wait, x < S.nodes.length
  cs : S.mc ≤ c ∧ S.nk ≤ c ∧ S.na ≤ c ∧ S.ec ≤ c ∧ S.fc ≤ c
/-- each node waits, or is met by its key -/
def Met (S : St) (P : Nat → Prop) : Prop := ∀ (i : Nat) (q : Str × List Nat), S.nodes[i]? = some q → P i ∨ i ∈ S.wait ∨ ∃ j, S.known (S.key q) = some j ∧ root S.par j = root S.par i
section
variable {told : List (Nat × Nat)} {S : St} {c : Nat}
theorem Inv.fr (h : Inv told S c) {f : Nat → Nat} (hf : Closed S.nodes told f) {i : Nat} (hi : i < S.nodes.length) : f (root S.par i) = f i := by
  induction i using Nat.strongRecOn with
  | _ i ih =>
    obtain ⟨p, hp⟩ : ∃ p, S.par[i]? = some p := ⟨_, List.getElem?_eq_getElem (by rw [h.par]; exact hi)⟩
    have hpi := h.le i p hp
    rw [← root_step h.le hp, ← h.sound f hf i p hp]
    by_cases hpe : p = i
    · subst hpe; rw [root_of_fix hp]
    · exact ih p (by omega) (by omega)
theorem Inv.fit (h : Inv told S c) (hn : S.nodes.length ≤ 1000) (hc : c ≤ 50000) : Fit S :=
  ⟨Nat.le_trans hn (by decide), h.par, h.le, fun i q hq => ⟨Nat.le_trans (h.kids i q hq).1 (by decide), (h.kids i q hq).2⟩, h.lots, fun i q hq => Nat.le_trans (h.lot i q hq) (Nat.le_trans hn (by decide)), Nat.le_trans h.cs.1 (Nat.le_trans hc (by decide)),
    fun q i hi => let ⟨ks, hk, _⟩ := h.known q i hi; (List.getElem?_eq_some_iff.mp hk).1⟩
theorem Inv.abvlen (h : Inv told S c) {i : Nat} {us : List Nat} (e : S.abv i = some us) : us.length ≤ 2 * S.nodes.length := by
  have hi : i < S.nodes.length := by
    have := (List.getElem?_eq_some_iff.mp ((h.abv i).mp ⟨us, e⟩)).1
    rw [h.par] at this; exact this
  have := tot_ge (g := fun i => ((S.abv i).getD []).length) hi
  simp only [e, Option.getD_some] at this
  exact Nat.le_trans this h.abvs
theorem Inv.fit2 (h : Inv told S c) (hn : S.nodes.length ≤ 1000) (hc : c ≤ 50000) (hw : S.wait.length ≤ 50000) : Fit2 S :=
  ⟨fun r hr => (h.abv r).mpr hr, fun r us e => Nat.le_trans (h.abvlen e) (Nat.le_trans (Nat.mul_le_mul_left 2 hn) (by decide)), Nat.le_trans hw (by decide), Nat.le_trans h.cs.2.2.2.1 (Nat.le_trans hc (by decide)), Nat.le_trans h.cs.2.2.2.2 (Nat.le_trans hc (by decide)), Nat.le_trans h.cs.2.2.1 (Nat.le_trans hc (by decide)), Nat.le_trans h.cs.2.1 (Nat.le_trans hc (by decide))⟩
end
end Mine
end
section
open PySem PySem.W
set_option maxRecDepth 100000
set_option linter.unusedVariables false
namespace Mine
def rootsN (S : St) : Nat := tot (fun i => if S.par[i]? = some i then 1 else 0) S.nodes.length
/-- what settling has still to do, at most -/
def mu (S : St) : Nat := S.wait.length + rootsN S * (2 * S.nodes.length + 1)
section
variable {told : List (Nat × Nat)} {S : St} {c : Nat}
/-- what a join does -/
structure Joined (told : List (Nat × Nat)) (S : St) (c : Nat) (kp gn : Nat) (S' : St) : Prop where
  inv : Inv told S' (c + 1)
  nodes : S'.nodes = S.nodes
  known : S'.known = S.known
  rt : ∀ a, a < S.nodes.length → root S'.par a = if root S.par a = gn then kp else root S.par a
  met : ∀ P : Nat → Prop, Met S P → Met S' P
  mu : mu S' + 1 ≤ mu S
  wait : S'.wait.length ≤ S.wait.length + 2 * S.nodes.length
theorem inv_join (h : Inv told S c) {x y : Nat} (hx : x < S.nodes.length) (hy : y < S.nodes.length) (hne : root S.par x ≠ root S.par y) (hxy : ∀ f : Nat → Nat, Closed S.nodes told f → f x = f y) :
    Joined told S c (min (root S.par x) (root S.par y)) (max (root S.par x) (root S.par y)) (S.join x y) ∧ min (root S.par x) (root S.par y) < max (root S.par x) (root S.par y) := by
  have hpx := root_fix h.le (a := x) (by rw [h.par]; exact hx)
  have hqy := root_fix h.le (a := y) (by rw [h.par]; exact hy)
  have fxy : ∀ f : Nat → Nat, Closed S.nodes told f → f (min (root S.par x) (root S.par y)) = f (max (root S.par x) (root S.par y)) := fun f hf => by
    have h1 := h.fr hf hx
    have h2 := h.fr hf hy
    have h3 := hxy f hf
    rcases Nat.le_total (root S.par x) (root S.par y) with hl | hl
    · rw [Nat.min_eq_left hl, Nat.max_eq_right hl]; exact h1.trans (h3.trans h2.symm)
    · rw [Nat.min_eq_right hl, Nat.max_eq_left hl]; exact h2.trans (h3.symm.trans h1.symm)
  unfold St.join
  rw [if_neg hne]
  have hkp : S.par[min (root S.par x) (root S.par y)]? = some (min (root S.par x) (root S.par y)) := by
    rcases Nat.le_total (root S.par x) (root S.par y) with hl | hl
    · rw [Nat.min_eq_left hl]; exact hpx
    · rw [Nat.min_eq_right hl]; exact hqy
  have hgn : S.par[max (root S.par x) (root S.par y)]? = some (max (root S.par x) (root S.par y)) := by
    rcases Nat.le_total (root S.par x) (root S.par y) with hl | hl
    · rw [Nat.max_eq_right hl]; exact hqy
    · rw [Nat.max_eq_left hl]; exact hpx
  have hlt : min (root S.par x) (root S.par y) < max (root S.par x) (root S.par y) := min_lt_max hne
  refine ⟨?_, hlt⟩
  generalize min (root S.par x) (root S.par y) = kp at fxy hkp hgn hlt ⊢
  generalize max (root S.par x) (root S.par y) = gn at fxy hgn hlt ⊢
  have hkl : kp < S.nodes.length := by rw [← h.par]; exact (List.getElem?_eq_some_iff.mp hkp).1
  have hgl : gn < S.nodes.length := by rw [← h.par]; exact (List.getElem?_eq_some_iff.mp hgn).1
  obtain ⟨ku, hku⟩ := (h.abv kp).mpr hkp
  obtain ⟨gu, hgu⟩ := (h.abv gn).mpr hgn
  rw [hku, hgu, Option.getD_some, Option.getD_some]
  have hrt : ∀ a, a < S.nodes.length → root (S.par.set gn kp) a = if root S.par a = gn then kp else root S.par a := fun a ha => root_set h.le hgn hkp hlt a (by rw [h.par]; exact ha)
  have hpi : ∀ i, i ≠ gn → (S.par.set gn kp)[i]? = S.par[i]? := fun i hi => List.getElem?_set_ne (Ne.symm hi)
  have hpg : (S.par.set gn kp)[gn]? = some kp := by simp [h.par, hgl]
  have hgk : gn ≠ kp := by omega
  have hfixi : ∀ i, (S.par.set gn kp)[i]? = some i ↔ i ≠ gn ∧ S.par[i]? = some i := fun i => by
    by_cases hi : i = gn
    · subst i; rw [hpg]; simp; omega
    · rw [hpi i hi]; simp [hi]
  have lsum := h.lotsum
  have gk : (if S.par[kp]? = some kp then S.lots.getD kp 0 else 0) = S.lots.getD kp 0 := if_pos hkp
  have gg : (if S.par[gn]? = some gn then S.lots.getD gn 0 else 0) = S.lots.getD gn 0 := if_pos hgn
  have hl2 : S.lots.getD kp 0 + S.lots.getD gn 0 ≤ S.nodes.length := by
    have := tot_ge2 (g := fun i => if S.par[i]? = some i then S.lots.getD i 0 else 0) hkl hgl (by omega)
    simp only [gk, gg] at this
    omega
  have hgul : gu.length ≤ 2 * S.nodes.length := h.abvlen hgu
  have huser : ∀ (i : Nat) (q : Str × List Nat), S.nodes[i]? = some q → ∀ z ∈ q.2, root S.par z = gn → i ∈ gu := fun i q hq z hz e => h.user i q hq z hz gu (by rw [e]; exact hgu)
  have hinl : ∀ (i : Nat) (q : Str × List Nat), S.nodes[i]? = some q → i < S.nodes.length := fun i q hq => (List.getElem?_eq_some_iff.mp hq).1
  refine ⟨⟨?_, ?_, h.uniq, h.kids, ?_, h.known, ?_, ?_, ?_, ?_, ?_, ?_, ?_, ?_, ?_⟩, rfl, rfl, hrt, ?_, ?_, ?_⟩
  · show (S.par.set gn kp).length = S.nodes.length
    rw [List.length_set]; exact h.par
  · intro i p hp
    by_cases hi : i = gn
    · subst i
      have : (S.par.set gn kp)[gn]? = some p := hp
      rw [hpg] at this; cases this; omega
    · have : (S.par.set gn kp)[i]? = some p := hp
      rw [hpi i hi] at this; exact h.le i p this
  · intro f hf i p hp
    by_cases hi : i = gn
    · subst i
      have : (S.par.set gn kp)[gn]? = some p := hp
      rw [hpg] at this; cases this; exact fxy f hf
    · have : (S.par.set gn kp)[i]? = some p := hp
      rw [hpi i hi] at this; exact h.sound f hf i p this
  · intro i
    show (∃ us, (if i = kp then some (ku ++ gu) else if i = gn then none else S.abv i) = some us) ↔ (S.par.set gn kp)[i]? = some i
    rw [hfixi]
    by_cases h1 : i = kp
    · subst i; rw [if_pos rfl]; exact ⟨fun _ => ⟨by omega, hkp⟩, fun _ => ⟨_, rfl⟩⟩
    · rw [if_neg h1]
      by_cases h2 : i = gn
      · rw [if_pos h2]; exact ⟨fun ⟨_, e⟩ => (by cases e), fun e => absurd h2 e.1⟩
      · rw [if_neg h2]; exact ⟨fun e => ⟨h2, (h.abv i).mp e⟩, fun e => (h.abv i).mpr e.2⟩
  · intro i q hq z hz us hus
    have hzn : z < S.nodes.length := Nat.lt_trans ((h.kids i q hq).2 z hz) (hinl i q hq)
    have hus' : (if root (S.par.set gn kp) z = kp then some (ku ++ gu) else if root (S.par.set gn kp) z = gn then none else S.abv (root (S.par.set gn kp) z)) = some us := hus
    rw [hrt z hzn] at hus'
    by_cases h1 : root S.par z = gn
    · rw [if_pos h1, if_pos rfl] at hus'
      cases hus'
      exact List.mem_append_right _ (huser i q hq z hz h1)
    · rw [if_neg h1] at hus'
      by_cases h2 : root S.par z = kp
      · rw [if_pos h2] at hus'
        cases hus'
        exact List.mem_append_left _ (h.user i q hq z hz ku (by rw [h2]; exact hku))
      · rw [if_neg h2, if_neg h1] at hus'
        exact h.user i q hq z hz us hus'
  · intro i us hus u hu
    have hus' : (if i = kp then some (ku ++ gu) else if i = gn then none else S.abv i) = some us := hus
    by_cases h1 : i = kp
    · rw [if_pos h1] at hus'
      cases hus'
      rcases List.mem_append.mp hu with hu | hu
      · exact h.abvb kp ku hku u hu
      · exact h.abvb gn gu hgu u hu
    · rw [if_neg h1] at hus'
      by_cases h2 : i = gn
      · rw [if_pos h2] at hus'; cases hus'
      · rw [if_neg h2] at hus'; exact h.abvb i us hus' u hu
  · have := tot_move (g := fun i => ((S.abv i).getD []).length) (h := fun i => ((if i = kp then some (ku ++ gu) else if i = gn then none else S.abv i).getD []).length) hkl hgl (by omega)
      (fun j hj h1 h2 => by simp only [if_neg h1, if_neg h2]) (by simp [hku, hgu]) (by simp [hgk])
    have h2 := h.abvs
    show tot (fun i => ((if i = kp then some (ku ++ gu) else if i = gn then none else S.abv i).getD []).length) S.nodes.length ≤ _
    rw [this]; exact h2
  · show (S.lots.set kp _).length = (S.par.set gn kp).length
    rw [List.length_set, List.length_set]; exact h.lots
  · intro i q hq
    have hq' : (S.lots.set kp (S.lots.getD kp 0 + S.lots.getD gn 0))[i]? = some q := hq
    by_cases hi : i = kp
    · subst i
      have hl : kp < S.lots.length := by rw [h.lots, h.par]; exact hkl
      rw [List.getElem?_set_self hl] at hq'
      cases hq'; exact hl2
    · rw [List.getElem?_set_ne (Ne.symm hi)] at hq'
      exact h.lot i q hq'
  · have hll : kp < S.lots.length := by rw [h.lots, h.par]; exact hkl
    have := tot_move (g := fun i => if S.par[i]? = some i then S.lots.getD i 0 else 0) (h := fun i => if (S.par.set gn kp)[i]? = some i then (S.lots.set kp (S.lots.getD kp 0 + S.lots.getD gn 0)).getD i 0 else 0) hkl hgl (by omega)
      (fun j hj h1 h2 => by
        simp only [hpi j h2]
        have : (S.lots.set kp (S.lots.getD kp 0 + S.lots.getD gn 0)).getD j 0 = S.lots.getD j 0 := by
          simp only [List.getD_eq_getElem?_getD, List.getElem?_set_ne (Ne.symm h1)]
        rw [this])
      (by
        simp only [gk, gg, hpi kp (Ne.symm hgk), hkp, if_true]
        simp [List.getD_eq_getElem?_getD, List.getElem?_set_self hll])
      (by simp only [hpg]; simp; omega)
    show tot (fun i => if (S.par.set gn kp)[i]? = some i then (S.lots.set kp (S.lots.getD kp 0 + S.lots.getD gn 0)).getD i 0 else 0) S.nodes.length ≤ S.nodes.length
    rw [this]; exact lsum
  · intro z hz
    rcases List.mem_append.mp hz with hz | hz
    · exact h.wait z hz
    · exact h.abvb gn gu hgu z hz
  · exact ⟨Nat.succ_le_succ h.cs.1, Nat.le_succ_of_le h.cs.2.1, Nat.le_succ_of_le h.cs.2.2.1, Nat.succ_le_succ h.cs.2.2.2.1, Nat.succ_le_succ h.cs.2.2.2.2⟩
  · intro P hP i q hq
    have hil := hinl i q hq
    rcases hP i q hq with hp | hw | ⟨j, hj, hji⟩
    · exact .inl hp
    · exact .inr (.inl (List.mem_append_left _ hw))
    · by_cases hk : ∃ z ∈ q.2, root S.par z = gn
      · obtain ⟨z, hz, e⟩ := hk
        exact .inr (.inl (List.mem_append_right _ (huser i q hq z hz e)))
      · have hjl : j < S.nodes.length := by obtain ⟨ks, hk', _⟩ := h.known _ _ hj; exact (List.getElem?_eq_some_iff.mp hk').1
        refine .inr (.inr ⟨j, ?_, ?_⟩)
        · have : q.2.map (root (S.par.set gn kp)) = q.2.map (root S.par) := List.map_congr_left fun z hz => by
            have hzn : z < S.nodes.length := Nat.lt_trans ((h.kids i q hq).2 z hz) hil
            rw [hrt z hzn, if_neg fun e => hk ⟨z, hz, e⟩]
          show S.known (q.1, q.2.map (root (S.par.set gn kp))) = some j
          rw [this]; exact hj
        · show root (S.par.set gn kp) j = root (S.par.set gn kp) i
          rw [hrt j hjl, hrt i hil, hji]
  · have h1 := tot_at (g := fun i => if S.par[i]? = some i then 1 else 0) (h := fun i => if (S.par.set gn kp)[i]? = some i then 1 else 0) hgl fun j hj hne => by simp only [hpi j hne]
    simp only [hgn, if_true, hpg] at h1
    have h0 : (if some kp = some gn then 1 else 0) = 0 := if_neg (by simp; omega)
    rw [h0] at h1
    show (S.wait ++ gu).length + tot (fun i => if (S.par.set gn kp)[i]? = some i then 1 else 0) S.nodes.length * (2 * S.nodes.length + 1) + 1 ≤ S.wait.length + tot (fun i => if S.par[i]? = some i then 1 else 0) S.nodes.length * (2 * S.nodes.length + 1)
    have h2 : tot (fun i => if S.par[i]? = some i then 1 else 0) S.nodes.length = tot (fun i => if (S.par.set gn kp)[i]? = some i then 1 else 0) S.nodes.length + 1 := by omega
    rw [h2, Nat.add_mul, List.length_append]
    omega
  · show (S.wait ++ gu).length ≤ S.wait.length + 2 * S.nodes.length
    rw [List.length_append]; omega
end
end Mine
end
section
open PySem PySem.W
set_option maxRecDepth 100000
set_option linter.unusedVariables false
namespace Mine
section
variable {told : List (Nat × Nat)} {S : St} {c : Nat}
theorem Inv.mono (h : Inv told S c) {c' : Nat} (hc : c ≤ c') : Inv told S c' :=
  ⟨h.par, h.le, h.uniq, h.kids, h.sound, h.known, h.abv, h.user, h.abvb, h.abvs, h.lots, h.lot, h.lotsum, h.wait, ⟨Nat.le_trans h.cs.1 hc, Nat.le_trans h.cs.2.1 hc, Nat.le_trans h.cs.2.2.1 hc, Nat.le_trans h.cs.2.2.2.1 hc, Nat.le_trans h.cs.2.2.2.2 hc⟩⟩
theorem Inv.more (h : Inv told S c) {told' : List (Nat × Nat)} (ht : ∀ f : Nat → Nat, Closed S.nodes told' f → Closed S.nodes told f) : Inv told' S c :=
  ⟨h.par, h.le, h.uniq, h.kids, fun f hf => h.sound f (ht f hf), fun q i e => let ⟨ks, a, b⟩ := h.known q i e; ⟨ks, a, fun f hf => b f (ht f hf)⟩, h.abv, h.user, h.abvb, h.abvs, h.lots, h.lot, h.lotsum, h.wait, h.cs⟩
theorem closed_less {nodes : List (Str × List Nat)} {told told' : List (Nat × Nat)} (hs : ∀ x ∈ told, x ∈ told') {f : Nat → Nat} (h : Closed nodes told' f) : Closed nodes told f := ⟨h.like, fun x hx => h.told x (hs x hx)⟩
/-- roots that were one stay one -/
def Coarse (S S' : St) : Prop := S'.nodes = S.nodes ∧ ∀ a b, a < S.nodes.length → b < S.nodes.length → root S.par a = root S.par b → root S'.par a = root S'.par b
theorem Coarse.refl : Coarse S S := ⟨rfl, fun _ _ _ _ h => h⟩
theorem Coarse.trans {S₁ S₂ : St} (h : Coarse S S₁) (h' : Coarse S₁ S₂) : Coarse S S₂ := ⟨h'.1.trans h.1, fun a b ha hb e => h'.2 a b (by rw [h.1]; exact ha) (by rw [h.1]; exact hb) (h.2 a b ha hb e)⟩
theorem Joined.coarse {kp gn : Nat} {S' : St} (j : Joined told S c kp gn S') : Coarse S S' := ⟨j.nodes, fun a b ha hb e => by rw [j.rt a ha, j.rt b hb, e]⟩
structure Looked (told : List (Nat × Nat)) (S : St) (c : Nat) (S' : St) : Prop where
  inv : Inv told S' (c + 1)
  coarse : Coarse S S'
  met : Met S' fun _ => False
  mu : mu S' ≤ mu S
theorem key_of (h : Inv told S c) {x j : Nat} {q : Str × List Nat} (hq : S.nodes[x]? = some q) (hj : S.known (S.key q) = some j) : ∀ f : Nat → Nat, Closed S.nodes told f → f j = f x := fun f hf => by
  obtain ⟨ks, hk, hm⟩ := h.known _ _ hj
  have h1 := hm f hf
  refine hf.like j x (q.1, ks) q hk hq rfl ?_
  show ks.map f = q.2.map f
  rw [h1]
  show (q.2.map (root S.par)).map f = q.2.map f
  rw [List.map_map]
  refine List.map_congr_left fun z hz => h.fr hf ?_
  exact Nat.lt_trans ((h.kids x q hq).2 z hz) (List.getElem?_eq_some_iff.mp hq).1
theorem inv_look (h : Inv told S c) {x : Nat} (hx : x < S.nodes.length) (hm : Met S fun i => i = x) : Looked told S c (S.look x) := by
  obtain ⟨q, hq⟩ : ∃ q, S.nodes[x]? = some q := ⟨_, List.getElem?_eq_getElem hx⟩
  have hlook : S.look x = match S.known (S.key q) with | none => S.learn x q | some j => if root S.par j = root S.par x then S else S.join j x := by unfold St.look; rw [hq] <;> rfl
  rw [hlook]
  have rfix : ∀ f : Nat → Nat, Closed S.nodes told f → (q.2.map (root S.par)).map f = q.2.map f := fun f hf => by
    rw [List.map_map]
    exact List.map_congr_left fun z hz => h.fr hf (Nat.lt_trans ((h.kids x q hq).2 z hz) hx)
  cases hk : S.known (S.key q) with
  | none =>
    dsimp only
    refine ⟨⟨h.par, h.le, h.uniq, h.kids, h.sound, fun y i e => ?_, h.abv, h.user, h.abvb, h.abvs, h.lots, h.lot, h.lotsum, h.wait, ?_⟩, .refl, fun i r hr => ?_, Nat.le_refl _⟩
    · have e' : (if y = S.key q then some x else S.known y) = some i := e
      by_cases hy : y = S.key q
      · rw [if_pos hy] at e'; cases e'
        subst hy
        exact ⟨q.2, hq, fun f hf => (rfix f hf).symm⟩
      · rw [if_neg hy] at e'; exact h.known y i e'
    · exact ⟨Nat.le_succ_of_le h.cs.1, Nat.succ_le_succ h.cs.2.1, Nat.le_succ_of_le h.cs.2.2.1, Nat.le_succ_of_le h.cs.2.2.2.1, Nat.le_succ_of_le h.cs.2.2.2.2⟩
    · rcases hm i r hr with rfl | hw | ⟨j, hj, hji⟩
      · have hr' : S.nodes[i]? = some r := hr
        rw [hq] at hr'; cases hr'
        exact .inr (.inr ⟨i, if_pos rfl, rfl⟩)
      · exact .inr (.inl hw)
      · refine .inr (.inr ⟨j, ?_, hji⟩)
        show (if S.key r = S.key q then some x else S.known (S.key r)) = some j
        by_cases hy : S.key r = S.key q
        · rw [hy, hk] at hj; cases hj
        · rw [if_neg hy]; exact hj
  | some j =>
    dsimp only
    have hjl : j < S.nodes.length := by obtain ⟨ks, hk', _⟩ := h.known _ _ hk; exact (List.getElem?_eq_some_iff.mp hk').1
    by_cases hr : root S.par j = root S.par x
    · rw [if_pos hr]
      refine ⟨h.mono (Nat.le_succ _), .refl, fun i r hri => ?_, Nat.le_refl _⟩
      rcases hm i r hri with rfl | hw | hd
      · rw [hq] at hri; cases hri
        exact .inr (.inr ⟨j, hk, hr⟩)
      · exact .inr (.inl hw)
      · exact .inr (.inr hd)
    · rw [if_neg hr]
      obtain ⟨J, hlt⟩ := inv_join h hjl hx hr (key_of h hq hk)
      refine ⟨J.inv, J.coarse, fun i r hri => ?_, by have := J.mu; omega⟩
      have hri' : S.nodes[i]? = some r := by rw [← J.nodes]; exact hri
      -- the node itself, by a met state with one more thing known of it
      rcases J.met _ hm i r hri with rfl | hw | hd
      · rw [hq] at hri'; cases hri'
        by_cases hz : ∃ z ∈ q.2, root S.par z = max (root S.par j) (root S.par i)
        · obtain ⟨z, hzm, e⟩ := hz
          right; left
          have hgn : S.par[max (root S.par j) (root S.par i)]? = some (max (root S.par j) (root S.par i)) := by
            have h1 := root_fix h.le (a := j) (by rw [h.par]; exact hjl)
            have h2 := root_fix h.le (a := i) (by rw [h.par]; exact hx)
            rcases Nat.le_total (root S.par j) (root S.par i) with hl | hl
            · rw [Nat.max_eq_right hl]; exact h2
            · rw [Nat.max_eq_left hl]; exact h1
          obtain ⟨gu, hgu⟩ := (h.abv _).mpr hgn
          have hiu := h.user i q hq z hzm gu (by rw [e]; exact hgu)
          unfold St.join
          rw [if_neg hr]
          show i ∈ S.wait ++ (S.abv (max (root S.par j) (root S.par i))).getD []
          rw [hgu]
          exact List.mem_append_right _ hiu
        · right; right
          refine ⟨j, ?_, ?_⟩
          · have : q.2.map (root (S.join j i).par) = q.2.map (root S.par) := List.map_congr_left fun z hzm => by
              have hzn : z < S.nodes.length := Nat.lt_trans ((h.kids i q hq).2 z hzm) hx
              rw [J.rt z hzn, if_neg fun e => hz ⟨z, hzm, e⟩]
            show (S.join j i).known (q.1, q.2.map (root (S.join j i).par)) = some j
            rw [this, J.known]; exact hk
          · rw [J.rt j hjl, J.rt i hx]
            rcases Nat.le_total (root S.par j) (root S.par i) with hl | hl
            · rw [Nat.max_eq_right hl, Nat.min_eq_left hl, if_neg hr, if_pos rfl]
            · rw [Nat.max_eq_left hl, Nat.min_eq_right hl, if_pos rfl, if_neg (fun e => hr e.symm)]
      · exact .inr (.inl hw)
      · exact .inr (.inr hd)
/-- the states of a settling -/
def SetJ (told : List (Nat × Nat)) (S₀ : St) (i : Nat) (S : St) : Prop := ∃ c, Inv told S c ∧ Met S (fun _ => False) ∧ Coarse S₀ S ∧ S.nodes.length ≤ 1000 ∧ mu S ≤ i ∧ c + i ≤ 40000
theorem setJ_ok (told : List (Nat × Nat)) (S₀ : St) : ∀ i S, SetJ told S₀ i S → Fit S ∧ Fit2 S ∧ (∀ x ∈ S.wait, x < S.nodes.length) ∧ ∀ xs x, S.wait = xs ++ [x] → ∃ j, j < i ∧ SetJ told S₀ j ((S.off xs).look x) := by
  rintro i S ⟨c, h, hm, hc, hn, hmu, hci⟩
  have hwl : S.wait.length ≤ mu S := by unfold mu; omega
  refine ⟨h.fit hn (by omega), h.fit2 hn (by omega) (by omega), h.wait, fun xs x hxs => ?_⟩
  have hx : x < S.nodes.length := h.wait x (by rw [hxs]; simp)
  have ho : Inv told (S.off xs) c := ⟨h.par, h.le, h.uniq, h.kids, h.sound, h.known, h.abv, h.user, h.abvb, h.abvs, h.lots, h.lot, h.lotsum, fun z hz => h.wait z (by rw [hxs]; exact List.mem_append_left _ hz), h.cs⟩
  have hmo : Met (S.off xs) fun i => i = x := fun i q hq => by
    rcases hm i q hq with hf | hw | hd
    · exact hf.elim
    · rw [hxs] at hw
      rcases List.mem_append.mp hw with hw | hw
      · exact .inr (.inl hw)
      · exact .inl (List.mem_singleton.mp hw)
    · exact .inr (.inr hd)
  have L := inv_look ho (x := x) hx hmo
  have hmu1 : mu (S.off xs) + 1 = mu S := by
    have : S.wait.length = xs.length + 1 := by rw [hxs]; simp
    show xs.length + rootsN S * (2 * S.nodes.length + 1) + 1 = S.wait.length + rootsN S * (2 * S.nodes.length + 1)
    omega
  have hmu2 := L.mu
  have hco : Coarse S ((S.off xs).look x) := L.coarse
  refine ⟨i - 1, by omega, c + 1, L.inv, L.met, hc.trans hco, by rw [hco.1]; exact hn, by omega, by omega⟩
/-- settled: the roots are closed -/
theorem settled_closed (h : Inv told S c) (hm : Met S fun _ => False) (hw : S.wait = []) (ht : ∀ x ∈ told, root S.par x.1 = root S.par x.2) : Closed S.nodes told (root S.par) := by
  have hm' : ∀ (i : Nat) (q : Str × List Nat), S.nodes[i]? = some q → ∃ j, S.known (S.key q) = some j ∧ root S.par j = root S.par i := fun i q hq => by
    rcases hm i q hq with hf | hw' | hd
    · exact hf.elim
    · rw [hw] at hw'; cases hw'
    · exact hd
  refine ⟨fun i j a b ha hb h1 h2 => ?_, ht⟩
  obtain ⟨u, hu, hui⟩ := hm' i a ha
  obtain ⟨v, hv, hvj⟩ := hm' j b hb
  have : S.key a = S.key b := by unfold St.key; rw [h1, h2]
  rw [this, hv] at hu
  cases hu
  rw [← hui, hvj]
end
end Mine
end
section
open PySem PySem.W
set_option maxRecDepth 100000
set_option linter.unusedVariables false
namespace Mine
theorem tot_add (g h : Nat → Nat) (n : Nat) : tot (fun i => g i + h i) n = tot g n + tot h n := by
  induction n with
  | zero => rfl
  | succ n ih => rw [tot, tot, tot, ih]; omega
theorem tot_one (a n : Nat) : tot (fun i => if i = a then 1 else 0) n ≤ 1 := by
  induction n with
  | zero => exact Nat.zero_le _
  | succ n ih =>
    rw [tot]
    by_cases h : n = a
    · subst h
      have : tot (fun i => if i = n then 1 else 0) n = tot (fun _ => 0) n := tot_congr fun i hi => if_neg (by omega)
      have h0 : ∀ n, tot (fun _ => 0) n = 0 := fun n => by induction n with | zero => rfl | succ n ih => rw [tot, ih]
      rw [this, h0, if_pos rfl]; exact Nat.le_refl _
    · rw [if_neg h]; exact ih
theorem tot_mem (cs : List Nat) (n : Nat) : tot (fun i => if i ∈ cs then 1 else 0) n ≤ cs.length := by
  induction cs with
  | nil =>
    have h0 : ∀ n, tot (fun i => if i ∈ ([] : List Nat) then 1 else 0) n = 0 := fun n => by induction n with | zero => rfl | succ n ih => rw [tot, ih]; simp
    rw [h0]; exact Nat.zero_le _
  | cons a cs ih =>
    have h1 := tot_add (fun i => if i = a then 1 else 0) (fun i => if i ∈ cs then 1 else 0) n
    have h2 := tot_one a n
    have h3 : tot (fun i => if i ∈ a :: cs then 1 else 0) n ≤ tot (fun i => (if i = a then 1 else 0) + (if i ∈ cs then 1 else 0)) n := by
      clear h1 h2 ih
      induction n with
      | zero => exact Nat.le_refl _
      | succ n ih =>
        rw [tot, tot]
        have : (if n ∈ a :: cs then 1 else 0) ≤ (if n = a then 1 else 0) + (if n ∈ cs then 1 else 0) := by
          by_cases h : n = a
          · simp [h]
          · by_cases h' : n ∈ cs
            · simp [h, h']
            · simp [h, h']
        omega
    rw [List.length_cons]; omega
/-- what was stays -/
structure ExtS (S S' : St) : Prop where
  n : S.nodes.length ≤ S'.nodes.length
  nodes : ∀ (i : Nat) (q : Str × List Nat), S.nodes[i]? = some q → S'.nodes[i]? = some q
  rt : ∀ i, i < S.nodes.length → root S'.par i = root S.par i
  known : ∀ (q : Str × List Nat) (i : Nat), S.known q = some i → S'.known q = some i
theorem ExtS.refl {S : St} : ExtS S S := ⟨Nat.le_refl _, fun _ _ h => h, fun _ _ => rfl, fun _ _ h => h⟩
theorem ExtS.trans {S S₁ S₂ : St} (h : ExtS S S₁) (h' : ExtS S₁ S₂) : ExtS S S₂ := ⟨Nat.le_trans h.n h'.n, fun i q e => h'.nodes i q (h.nodes i q e), fun i hi => (h'.rt i (Nat.lt_of_lt_of_le hi h.n)).trans (h.rt i hi), fun q i e => h'.known q i (h.known q i e)⟩
section
variable {told : List (Nat × Nat)} {S : St} {c : Nat}
/-- a new node, ahead of the look at it -/
structure Pre (told : List (Nat × Nat)) (S : St) (c : Nat) (q : Str × List Nat) : Prop where
  inv : Inv told (S.pre q) (c + 1)
  met : Met (S.pre q) fun i => i = S.nodes.length
  rt : ∀ i, i < S.nodes.length → root (S.pre q).par i = root S.par i
  new : root (S.pre q).par S.nodes.length = S.nodes.length
  key : (S.pre q).key q = S.key q
  abv : (S.pre q).abv S.nodes.length = some []
theorem pre_ok (h : Inv told S c) (hm : Met S fun _ => False) (hw : S.wait = []) {q : Str × List Nat} (hq : numOf S.nodes q = none) (h2 : q.2.length ≤ 2) (hb : ∀ z ∈ q.2, z < S.nodes.length) : Pre told S c q := by
  have hn : (S.pre q).nodes = S.nodes ++ [q] := rfl
  have hp : (S.pre q).par = S.par ++ [S.par.length] := rfl
  have hlen : (S.pre q).nodes.length = S.nodes.length + 1 := by rw [hn]; simp
  have hrt : ∀ i, i < S.nodes.length → root (S.pre q).par i = root S.par i := fun i hi => by rw [hp]; exact root_append _ _ (by rw [h.par]; exact hi)
  have hpi : ∀ i, i < S.nodes.length → (S.pre q).par[i]? = S.par[i]? := fun i hi => by rw [hp, List.getElem?_append_left (by rw [h.par]; exact hi)]
  have hpn : (S.pre q).par[S.nodes.length]? = some S.nodes.length := by rw [hp, ← h.par]; simp
  have hni : ∀ i, i < S.nodes.length → (S.pre q).nodes[i]? = S.nodes[i]? := fun i hi => by rw [hn, List.getElem?_append_left hi]
  have hnn : (S.pre q).nodes[S.nodes.length]? = some q := by rw [hn]; simp
  have hin : ∀ i r, (S.pre q).nodes[i]? = some r → (i < S.nodes.length ∧ S.nodes[i]? = some r) ∨ (i = S.nodes.length ∧ r = q) := fun i r e => by
    have hl := (List.getElem?_eq_some_iff.mp e).1
    rw [hlen] at hl
    by_cases hi : i < S.nodes.length
    · exact .inl ⟨hi, by rw [← hni i hi]; exact e⟩
    · have : i = S.nodes.length := by omega
      subst this; rw [hnn] at e; exact .inr ⟨rfl, (Option.some.inj e).symm⟩
  have hcl : ∀ f : Nat → Nat, Closed (S.pre q).nodes told f → Closed S.nodes told f := fun f hf => ⟨fun i j a b ha hb => hf.like i j a b (by rw [hni i (List.getElem?_eq_some_iff.mp ha).1]; exact ha) (by rw [hni j (List.getElem?_eq_some_iff.mp hb).1]; exact hb), hf.told⟩
  have hcs : q.2.map (root (S.bare q).par) = q.2.map (root S.par) := List.map_congr_left fun z hz => hrt z (hb z hz)
  have hcsl : ∀ r, r ∈ q.2.map (root S.par) → r < S.nodes.length ∧ S.par[r]? = some r := fun r hr => by
    obtain ⟨z, hz, rfl⟩ := List.mem_map.mp hr
    exact ⟨root_lt (hb z hz), root_fix h.le (by rw [h.par]; exact hb z hz)⟩
  have habv : ∀ r, (S.pre q).abv r = if r ∈ q.2.map (root S.par) then some ((S.abv r).getD [] ++ [S.nodes.length]) else if r = S.nodes.length then some [] else S.abv r := fun r => by
    show (if r ∈ q.2.map (root (S.bare q).par) then some (((if r = S.nodes.length then some [] else S.abv r)).getD [] ++ [S.nodes.length]) else if r = S.nodes.length then some [] else S.abv r) = _
    rw [hcs]
    by_cases hr : r ∈ q.2.map (root S.par)
    · rw [if_pos hr, if_pos hr, if_neg (by have := (hcsl r hr).1; omega)]
    · rw [if_neg hr, if_neg hr]
  have hnone : ∀ r, S.nodes.length ≤ r → S.abv r = none := fun r hr => by
    cases e : S.abv r with
    | none => rfl
    | some us =>
      have := (List.getElem?_eq_some_iff.mp ((h.abv r).mp ⟨us, e⟩)).1
      rw [h.par] at this; omega
  have hkey : ∀ i r, i < S.nodes.length → S.nodes[i]? = some r → (S.pre q).key r = S.key r := fun i r hi hr => by
    unfold St.key
    congr 1
    exact List.map_congr_left fun z hz => hrt z (Nat.lt_trans ((h.kids i r hr).2 z hz) hi)
  refine ⟨⟨?_, ?_, ?_, ?_, ?_, ?_, ?_, ?_, ?_, ?_, ?_, ?_, ?_, ?_, ?_⟩, ?_, hrt, root_of_fix hpn, ?_, ?_⟩
  · rw [hlen, hp]; simp [h.par]
  · intro i p e
    by_cases hi : i < S.nodes.length
    · rw [hpi i hi] at e; exact h.le i p e
    · have hl := (List.getElem?_eq_some_iff.mp e).1
      rw [hp] at hl
      simp [h.par] at hl
      have : i = S.nodes.length := by omega
      subst this; rw [hpn] at e; cases e; exact Nat.le_refl _
  · intro i r e
    rw [hn, numOf_push hq]
    rcases hin i r e with ⟨hi, hr⟩ | ⟨rfl, rfl⟩
    · by_cases hrq : r = q
      · subst hrq; rw [h.uniq i r hr] at hq; cases hq
      · rw [if_neg hrq]; exact h.uniq i r hr
    · rw [if_pos rfl]
  · intro i r e
    rcases hin i r e with ⟨hi, hr⟩ | ⟨rfl, rfl⟩
    · exact h.kids i r hr
    · exact ⟨h2, hb⟩
  · intro f hf i p e
    by_cases hi : i < S.nodes.length
    · rw [hpi i hi] at e; exact h.sound f (hcl f hf) i p e
    · have hl := (List.getElem?_eq_some_iff.mp e).1
      rw [hp] at hl
      simp [h.par] at hl
      have : i = S.nodes.length := by omega
      subst this; rw [hpn] at e; cases e; rfl
  · intro k i e
    obtain ⟨ks, h3, h4⟩ := h.known k i e
    exact ⟨ks, by rw [hni i (List.getElem?_eq_some_iff.mp h3).1]; exact h3, fun f hf => h4 f (hcl f hf)⟩
  · intro i
    rw [habv]
    by_cases hr : i ∈ q.2.map (root S.par)
    · rw [if_pos hr, hpi i (hcsl i hr).1]; exact ⟨fun _ => (hcsl i hr).2, fun _ => ⟨_, rfl⟩⟩
    · rw [if_neg hr]
      by_cases hin : i = S.nodes.length
      · subst hin; rw [if_pos rfl]; exact ⟨fun _ => hpn, fun _ => ⟨_, rfl⟩⟩
      · rw [if_neg hin]
        by_cases hi : i < S.nodes.length
        · rw [hpi i hi]; exact h.abv i
        · rw [hnone i (by omega)]
          refine ⟨fun ⟨_, e⟩ => (by cases e), fun e => ?_⟩
          have hl := (List.getElem?_eq_some_iff.mp e).1
          rw [hp] at hl
          simp [h.par] at hl
          omega
  · intro i r e z hz us hus
    rw [habv] at hus
    rcases hin i r e with ⟨hi, hr⟩ | ⟨rfl, rfl⟩
    · have hzn := Nat.lt_trans ((h.kids i r hr).2 z hz) hi
      rw [hrt z hzn] at hus
      obtain ⟨us0, hus0⟩ := (h.abv (root S.par z)).mpr (root_fix h.le (by rw [h.par]; exact hzn))
      have hmem := h.user i r hr z hz us0 hus0
      by_cases hc : root S.par z ∈ q.2.map (root S.par)
      · rw [if_pos hc, hus0] at hus; cases hus; exact List.mem_append_left _ hmem
      · rw [if_neg hc, if_neg (by have := root_lt (par := S.par) hzn; omega), hus0] at hus; cases hus; exact hmem
    · rw [hrt z (hb z hz), if_pos (List.mem_map_of_mem hz)] at hus
      cases hus; simp
  · intro i us hus u hu
    rw [hlen]
    rw [habv] at hus
    by_cases hr : i ∈ q.2.map (root S.par)
    · rw [if_pos hr] at hus
      cases hus
      rcases List.mem_append.mp hu with hu | hu
      · cases e : S.abv i with
        | none => rw [e] at hu; cases hu
        | some us => rw [e] at hu; exact Nat.lt_succ_of_lt (h.abvb i us e u hu)
      · rw [List.mem_singleton.mp hu]; exact Nat.lt_succ_self _
    · rw [if_neg hr] at hus
      by_cases hin : i = S.nodes.length
      · rw [if_pos hin] at hus; cases hus; cases hu
      · rw [if_neg hin] at hus; exact Nat.lt_succ_of_lt (h.abvb i us hus u hu)
  · rw [hlen, tot]
    have hnl : ((S.pre q).abv S.nodes.length).getD [] = [] := by
      rw [habv, if_neg fun hr => by have := (hcsl _ hr).1; omega, if_pos rfl]; rfl
    have e1 : tot (fun i => (((S.pre q).abv i).getD []).length) S.nodes.length = tot (fun i => ((S.abv i).getD []).length + if i ∈ q.2.map (root S.par) then 1 else 0) S.nodes.length := tot_congr fun i hi => by
      rw [habv]
      by_cases hr : i ∈ q.2.map (root S.par)
      · simp only [if_pos hr, Option.getD_some, List.length_append, List.length_singleton]
      · simp only [if_neg hr, if_neg (show ¬ i = S.nodes.length by omega), Nat.add_zero]
    rw [e1, tot_add, hnl]
    have e2 := tot_mem (q.2.map (root S.par)) S.nodes.length
    rw [List.length_map] at e2
    have e3 := h.abvs
    simp only [List.length_nil]
    omega
  · show (S.lots ++ [1]).length = (S.par ++ [S.par.length]).length
    simp [h.lots]
  · intro i x e
    have e' : (S.lots ++ [1])[i]? = some x := e
    rw [hlen]
    by_cases hi : i < S.lots.length
    · rw [List.getElem?_append_left hi] at e'; have := h.lot i x e'; omega
    · have hl := (List.getElem?_eq_some_iff.mp e').1
      simp at hl
      have : i = S.lots.length := by omega
      subst this
      simp at e'; omega
  · rw [hlen, tot]
    have hll : S.lots.length = S.nodes.length := h.lots.trans h.par
    have e1 : tot (fun i => if (S.pre q).par[i]? = some i then (S.pre q).lots.getD i 0 else 0) S.nodes.length = tot (fun i => if S.par[i]? = some i then S.lots.getD i 0 else 0) S.nodes.length := tot_congr fun i hi => by
      rw [hpi i hi]
      have : (S.pre q).lots.getD i 0 = S.lots.getD i 0 := by
        show (S.lots ++ [1]).getD i 0 = _
        simp only [List.getD_eq_getElem?_getD, List.getElem?_append_left (by rw [hll]; exact hi : i < S.lots.length)]
      rw [this]
    have e2 : (if (S.pre q).par[S.nodes.length]? = some S.nodes.length then (S.pre q).lots.getD S.nodes.length 0 else 0) = 1 := by
      rw [if_pos hpn]
      show (S.lots ++ [1]).getD S.nodes.length 0 = 1
      rw [← hll]; simp
    rw [e1, e2]
    have := h.lotsum
    omega
  · intro z hz
    have : z ∈ S.wait := hz
    rw [hw] at this; cases this
  · exact ⟨Nat.le_succ_of_le h.cs.1, Nat.le_succ_of_le h.cs.2.1, Nat.succ_le_succ h.cs.2.2.1, Nat.le_succ_of_le h.cs.2.2.2.1, Nat.le_succ_of_le h.cs.2.2.2.2⟩
  · intro i r e
    rcases hin i r e with ⟨hi, hr⟩ | ⟨rfl, rfl⟩
    · rcases hm i r hr with hf | hw' | ⟨j, hj, hji⟩
      · exact hf.elim
      · exact .inr (.inl hw')
      · have hjl : j < S.nodes.length := by obtain ⟨ks, h3, _⟩ := h.known _ _ hj; exact (List.getElem?_eq_some_iff.mp h3).1
        exact .inr (.inr ⟨j, by rw [hkey i r hi hr]; exact hj, by rw [hrt j hjl, hrt i hi]; exact hji⟩)
    · exact .inl rfl
  · unfold St.key
    congr 1
  · rw [habv, if_neg fun hr => by have := (hcsl _ hr).1; omega, if_pos rfl]
end
end Mine
end
section
open PySem PySem.W
set_option maxRecDepth 100000
set_option linter.unusedVariables false
namespace Mine
section
variable {told : List (Nat × Nat)} {S : St} {c : Nat}
structure Added (told : List (Nat × Nat)) (S : St) (c : Nat) (q : Str × List Nat) : Prop where
  inv : Inv told (S.add q) (c + 2)
  met : Met (S.add q) fun _ => False
  wait : (S.add q).wait = []
  ext : ExtS S (S.add q)
  at_ : (S.add q).nodes[S.num q]? = some q
  nodes : (S.add q).nodes = if numOf S.nodes q = none then S.nodes ++ [q] else S.nodes
  back : ∀ j, S.known (S.key q) = some j → ∀ i, S.nodes.length ≤ i → i < (S.add q).nodes.length → root (S.add q).par i = root S.par j
theorem num_at {nodes : List (Str × List Nat)} {q : Str × List Nat} {i : Nat} (h : numOf nodes q = some i) : nodes[i]? = some q := by
  unfold numOf at h
  obtain ⟨hi, hp, _⟩ := List.findIdx?_eq_some_iff_getElem.mp h
  rw [List.getElem?_eq_getElem hi, of_decide_eq_true hp]
theorem add_ok (h : Inv told S c) (hm : Met S fun _ => False) (hw : S.wait = []) {q : Str × List Nat} (h2 : q.2.length ≤ 2) (hb : ∀ z ∈ q.2, z < S.nodes.length) : Added told S c q := by
  cases hq : numOf S.nodes q with
  | some i =>
    have e1 : S.add q = S := by unfold St.add; rw [hq]
    have e2 : S.num q = i := by unfold St.num; rw [hq]
    refine ⟨by rw [e1]; exact h.mono (by first | exact lo rfl | omega), by rw [e1]; exact hm, by rw [e1]; exact hw, by rw [e1]; exact .refl, by rw [e1, e2]; exact num_at hq, by rw [e1, hq]; simp, fun j _ i h1 h2 => ?_⟩
    rw [e1] at h2; omega
  | none =>
    have P := pre_ok h hm hw hq h2 hb
    have e1 : S.add q = (S.pre q).look S.nodes.length := by unfold St.add; rw [hq]
    have e2 : S.num q = S.nodes.length := by unfold St.num; rw [hq]
    have hnn : (S.pre q).nodes[S.nodes.length]? = some q := by show (S.nodes ++ [q])[S.nodes.length]? = some q; simp
    have hlen : (S.pre q).nodes.length = S.nodes.length + 1 := by show (S.nodes ++ [q]).length = _; simp
    have L := inv_look P.inv (x := S.nodes.length) (by rw [hlen]; exact Nat.lt_succ_self _) P.met
    have hlook : (S.pre q).look S.nodes.length = match S.known (S.key q) with | none => (S.pre q).learn S.nodes.length q | some j => if root (S.pre q).par j = root (S.pre q).par S.nodes.length then S.pre q else (S.pre q).join j S.nodes.length := by
      unfold St.look
      rw [hnn]
      show (match (S.pre q).known ((S.pre q).key q) with | none => _ | some j => _) = _
      rw [P.key]; rfl
    have hnod : (S.add q).nodes = S.nodes ++ [q] := by rw [e1]; exact L.coarse.1
    have hnode : ∀ (i : Nat) (r : Str × List Nat), S.nodes[i]? = some r → (S.add q).nodes[i]? = some r := fun i r e => by rw [hnod, List.getElem?_append_left (List.getElem?_eq_some_iff.mp e).1]; exact e
    cases hk : S.known (S.key q) with
    | none =>
      rw [hk] at hlook
      have e3 : S.add q = (S.pre q).learn S.nodes.length q := e1.trans hlook
      refine ⟨by rw [e1]; exact L.inv, by rw [e1]; exact L.met, ?_, ⟨by rw [hnod]; simp, hnode, fun i hi => ?_, fun k i e => ?_⟩, by rw [hnod, e2]; simp, by rw [hnod, hq]; simp, fun j hj => (by rw [hk] at hj; cases hj)⟩
      · rw [e3]; exact hw
      · rw [e3]; exact P.rt i hi
      · rw [e3]
        show (if k = (S.pre q).key q then some S.nodes.length else S.known k) = some i
        rw [P.key]
        by_cases hkk : k = S.key q
        · rw [hkk, hk] at e; cases e
        · rw [if_neg hkk]; exact e
    | some j =>
      rw [hk] at hlook
      have hjl : j < S.nodes.length := by obtain ⟨ks, h3, _⟩ := h.known _ _ hk; exact (List.getElem?_eq_some_iff.mp h3).1
      have hrj := P.rt j hjl
      have hrl : root S.par j < S.nodes.length := root_lt hjl
      have hne : root (S.pre q).par j ≠ root (S.pre q).par S.nodes.length := by rw [hrj, P.new]; omega
      dsimp only at hlook
      rw [if_neg hne] at hlook
      have e3 : S.add q = (S.pre q).join j S.nodes.length := e1.trans hlook
      have hkey := key_of P.inv (x := S.nodes.length) (j := j) (q := q) hnn (by rw [P.key]; exact hk)
      obtain ⟨J, hlt⟩ := inv_join P.inv (x := j) (y := S.nodes.length) (by rw [hlen]; omega) (by rw [hlen]; exact Nat.lt_succ_self _) hne hkey
      have emax : max (root (S.pre q).par j) (root (S.pre q).par S.nodes.length) = S.nodes.length := by rw [hrj, P.new]; omega
      have emin : min (root (S.pre q).par j) (root (S.pre q).par S.nodes.length) = root S.par j := by rw [hrj, P.new]; omega
      have hrt : ∀ i, i < S.nodes.length + 1 → root (S.add q).par i = if root (S.pre q).par i = S.nodes.length then root S.par j else root (S.pre q).par i := fun i hi => by
        have := J.rt i (by rw [hlen]; exact hi)
        rw [emax, emin] at this
        rw [e3]; exact this
      refine ⟨by rw [e1]; exact L.inv, by rw [e1]; exact L.met, ?_, ⟨by rw [hnod]; simp, hnode, fun i hi => ?_, fun k i e => ?_⟩, by rw [hnod, e2]; simp, by rw [hnod, hq]; simp, fun j' hj' i h1 h2 => ?_⟩
      · rw [e3]
        unfold St.join
        rw [if_neg hne, emax]
        show S.wait ++ ((S.pre q).abv S.nodes.length).getD [] = []
        rw [P.abv, hw]; rfl
      · rw [hrt i (by omega), P.rt i hi, if_neg (by have := root_lt (par := S.par) hi; omega)]
      · rw [e3, J.known]; exact e
      · rw [hk] at hj'
        cases hj'
        rw [hnod] at h2
        simp at h2
        have : i = S.nodes.length := by omega
        subst this
        rw [hrt _ (Nat.lt_succ_self _), P.new, if_pos rfl]
/-- the classes that patterns have stay -/
theorem ev_ext {S S' : St} (h : Inv told S c) (e : ExtS S S') {x y : Nat} (hx : x < S.nodes.length) (hy : y < S.nodes.length) (hfit : Fit S) : ∀ (p : Pat) {d : Nat}, S.ev x y p = some d → S'.ev x y p = some d
  | .var v, d, hd => by
    simp only [St.ev, Option.some.injEq] at hd ⊢
    rw [e.rt _ (by cases v; exact hy; exact hx)]; exact hd
  | .leaf a, d, hd => by
    simp only [St.ev] at hd ⊢
    obtain ⟨i, hi, rfl⟩ := Option.map_eq_some_iff.mp hd
    have : S'.key ((Pat.leaf a).op, []) = S.key ((Pat.leaf a).op, []) := rfl
    rw [this, e.known _ _ hi, Option.map_some, e.rt _ (hfit.known _ _ hi)]
  | .un op p, d, hd => by
    simp only [St.ev] at hd ⊢
    obtain ⟨u, hu, hd⟩ := Option.bind_eq_some_iff.mp hd
    have hul := ev_lt hfit hx hy hu
    rw [ev_ext h e hx hy hfit p hu, Option.bind_some]
    obtain ⟨i, hi, rfl⟩ := Option.map_eq_some_iff.mp hd
    have : S'.key (op, [u]) = S.key (op, [u]) := by simp [St.key, e.rt u hul]
    rw [this, e.known _ _ hi, Option.map_some, e.rt _ (hfit.known _ _ hi)]
  | .bin p q, d, hd => by
    simp only [St.ev] at hd ⊢
    obtain ⟨u, hu, hd⟩ := Option.bind_eq_some_iff.mp hd
    obtain ⟨v, hv, hd⟩ := Option.bind_eq_some_iff.mp hd
    have hul := ev_lt hfit hx hy hu
    have hvl := ev_lt hfit hx hy hv
    rw [ev_ext h e hx hy hfit p hu, Option.bind_some, ev_ext h e hx hy hfit q hv, Option.bind_some]
    obtain ⟨i, hi, rfl⟩ := Option.map_eq_some_iff.mp hd
    have : S'.key ("f", [u, v]) = S.key ("f", [u, v]) := by simp [St.key, e.rt u hul, e.rt v hvl]
    rw [this, e.known _ _ hi, Option.map_some, e.rt _ (hfit.known _ _ hi)]
/-- a node's key is known, once nothing waits -/
theorem met_at (hm : Met S fun _ => False) (hw : S.wait = []) {i : Nat} {q : Str × List Nat} (hq : S.nodes[i]? = some q) : ∃ j, S.known (S.key q) = some j ∧ root S.par j = root S.par i := by
  rcases hm i q hq with hf | hw' | hd
  · exact hf.elim
  · rw [hw] at hw'; cases hw'
  · exact hd
/-- the states of a put -/
structure PutJ (told : List (Nat × Nat)) (S : St) (c : Nat) : Prop where
  inv : Inv told S c
  met : Met S fun _ => False
  wait : S.wait = []
/-- what a put does -/
structure PutOk (told : List (Nat × Nat)) (S : St) (c m : Nat) (x y : Nat) (p : Pat) : Prop where
  j : PutJ told (putF x y p S).1 (c + 2 * m)
  ext : ExtS S (putF x y p S).1
  n : (putF x y p S).1.nodes.length ≤ S.nodes.length + m
  lt : (putF x y p S).2 < (putF x y p S).1.nodes.length
  ev : (putF x y p S).1.ev x y p = some (root (putF x y p S).1.par (putF x y p S).2)
  old : ∀ d n₀, S.ev x y p = some d → (∀ i, i < S.nodes.length → root S.par i < n₀) → ∀ i, i < (putF x y p S).1.nodes.length → root (putF x y p S).1.par i < n₀
theorem add_num_lt {q : Str × List Nat} (A : Added told S c q) : S.num q < (S.add q).nodes.length := (List.getElem?_eq_some_iff.mp A.at_).1
theorem add_len {q : Str × List Nat} (A : Added told S c q) : (S.add q).nodes.length ≤ S.nodes.length + 1 := by rw [A.nodes]; split <;> simp
theorem Inv.fit1 (h : Inv told S c) (hn : S.nodes.length ≤ 1000) (hc : c ≤ 50000) : Fit S := h.fit hn hc
/-- one more level over parts that are put in -/
theorem put_top {x y : Nat} (P : PutJ told S c) (hn : S.nodes.length + 1 ≤ 1000) (hc : c ≤ 48000) {op : Str} {ks : List Nat} (h2 : ks.length ≤ 2) (hb : ∀ z ∈ ks, z < S.nodes.length) :
    PutJ told (S.add (op, ks)) (c + 2) ∧ ExtS S (S.add (op, ks)) ∧ (S.add (op, ks)).nodes.length ≤ S.nodes.length + 1 ∧ S.num (op, ks) < (S.add (op, ks)).nodes.length ∧
      (∃ j, (S.add (op, ks)).known (op, ks.map (root (S.add (op, ks)).par)) = some j ∧ root (S.add (op, ks)).par j = root (S.add (op, ks)).par (S.num (op, ks))) ∧
      (∀ d n₀, (S.known (S.key (op, ks))).map (root S.par) = some d → (∀ i, i < S.nodes.length → root S.par i < n₀) → ∀ i, i < (S.add (op, ks)).nodes.length → root (S.add (op, ks)).par i < n₀) := by
  have A := add_ok P.inv P.met P.wait (q := (op, ks)) h2 hb
  refine ⟨⟨A.inv, A.met, A.wait⟩, A.ext, add_len A, add_num_lt A, met_at A.met A.wait A.at_, fun d n₀ hd hr i hi => ?_⟩
  obtain ⟨j, hj, rfl⟩ := Option.map_eq_some_iff.mp hd
  have hjl : j < S.nodes.length := by obtain ⟨ks', h3, _⟩ := P.inv.known _ _ hj; exact (List.getElem?_eq_some_iff.mp h3).1
  by_cases hil : i < S.nodes.length
  · rw [A.ext.rt i hil]; exact hr i hil
  · rw [A.back j hj i (by omega) hi]; exact hr j hjl
theorem put_ok {x y : Nat} : ∀ (p : Pat) {S : St} {c : Nat}, PutJ told S c → S.nodes.length + p.many ≤ 1000 → c + 2 * p.many ≤ 48000 → x < S.nodes.length → y < S.nodes.length → PutOk told S c p.many x y p
  | .var v, S, c, P, hn, hc, hx, hy => by
    have hl : tabOf x y v < S.nodes.length := by cases v; exact hy; exact hx
    exact ⟨P, .refl, Nat.le_refl _, hl, rfl, fun d n₀ _ h => h⟩
  | .leaf a, S, c, P, hn, hc, hx, hy => by
    have T := put_top (x := x) (y := y) P (op := (Pat.leaf a).op) (ks := []) hn (by simp [Pat.many] at hc; omega) (by simp) (by simp)
    obtain ⟨h1, h2, h3, h4, ⟨j, h5, h6⟩, h7⟩ := T
    refine ⟨h1, h2, h3, h4, ?_, fun d n₀ hd hr => h7 d n₀ hd hr⟩
    show ((S.add ((Pat.leaf a).op, [])).known ((Pat.leaf a).op, [])).map (root (S.add ((Pat.leaf a).op, [])).par) = _
    have h5' : (S.add ((Pat.leaf a).op, [])).known ((Pat.leaf a).op, []) = some j := h5
    rw [h5', Option.map_some, h6]; rfl
  | .un op p, S, c, P, hn, hc, hx, hy => by
    simp only [Pat.many] at hn hc
    have b1 : S.nodes.length ≤ 1000 := Nat.le_trans (Nat.le_add_right _ _) hn
    have b2 : c ≤ 50000 := Nat.le_trans (Nat.le_add_right _ _) (Nat.le_trans hc (by decide))
    have b3 : S.nodes.length + p.many ≤ 1000 := Nat.le_trans (Nat.add_le_add_left (Nat.le_succ _) _) hn
    have b4 : c + 2 * p.many ≤ 48000 := Nat.le_trans (Nat.add_le_add_left (Nat.mul_le_mul_left 2 (Nat.le_succ _)) _) hc
    have b4' : c + 2 * p.many ≤ 50000 := Nat.le_trans b4 (by decide)
    have Q := put_ok p P b3 b4 hx hy
    have b5 : (putF x y p S).1.nodes.length ≤ 1000 := Nat.le_trans Q.n b3
    have b6 : (putF x y p S).1.nodes.length + 1 ≤ 1000 := Nat.le_trans (Nat.succ_le_succ Q.n) hn
    have hx' : x < (putF x y p S).1.nodes.length := Nat.lt_of_lt_of_le hx Q.ext.n
    have hy' : y < (putF x y p S).1.nodes.length := Nat.lt_of_lt_of_le hy Q.ext.n
    have hqn := Q.n
    have T := put_top (x := x) (y := y) Q.j (op := op) (ks := [(putF x y p S).2]) (by omega) (by omega) (by simp) (by simpa using Q.lt)
    obtain ⟨h1, h2, h3, h4, ⟨j, h5, h6⟩, h7⟩ := T
    have fit1 := Q.j.inv.fit (by omega) (by omega)
    refine ⟨?_, Q.ext.trans h2, ?_, h4, ?_, fun d n₀ hd hr => ?_⟩
    · show PutJ told ((putF x y p S).1.add (op, [(putF x y p S).2])) _
      simp only [Pat.many]
      rw [show c + 2 * (p.many + 1) = c + 2 * p.many + 2 from rfl]; exact h1
    · show ((putF x y p S).1.add (op, [(putF x y p S).2])).nodes.length ≤ _
      simp only [Pat.many]; omega
    · rw [show putF x y (.un op p) S = ((putF x y p S).1.add (op, [(putF x y p S).2]), (putF x y p S).1.num (op, [(putF x y p S).2])) from rfl]
      show (((putF x y p S).1.add (op, [(putF x y p S).2])).ev x y p).bind _ = _
      have e1 := ev_ext Q.j.inv h2 hx' hy' fit1 p Q.ev
      rw [e1, Option.bind_some]
      have hlt := Q.lt
      have e2 : root ((putF x y p S).1.add (op, [(putF x y p S).2])).par (putF x y p S).2 = root (putF x y p S).1.par (putF x y p S).2 := h2.rt _ hlt
      have e3 : root ((putF x y p S).1.add (op, [(putF x y p S).2])).par (root (putF x y p S).1.par (putF x y p S).2) = root (putF x y p S).1.par (putF x y p S).2 := by
        rw [h2.rt _ (root_lt hlt)]; exact root_root Q.j.inv.le (by rw [Q.j.inv.par]; exact hlt)
      have h5' : ((putF x y p S).1.add (op, [(putF x y p S).2])).known (op, [root (putF x y p S).1.par (putF x y p S).2]) = some j := by
        have := h5
        simp only [List.map_cons, List.map_nil, e2] at this
        exact this
      have hk : ((putF x y p S).1.add (op, [(putF x y p S).2])).key (op, [root (putF x y p S).1.par (putF x y p S).2]) = (op, [root (putF x y p S).1.par (putF x y p S).2]) := by simp [St.key, e3]
      rw [hk, h5', Option.map_some, h6]
    · simp only [St.ev] at hd
      obtain ⟨u, hu, hd⟩ := Option.bind_eq_some_iff.mp hd
      have hr1 := Q.old u n₀ hu hr
      have hu1 := ev_ext P.inv Q.ext hx hy (P.inv.fit (by omega) (by omega)) p hu
      rw [Q.ev] at hu1
      have hru : root (putF x y p S).1.par (putF x y p S).2 = u := Option.some.inj hu1
      obtain ⟨j0, hj0, hd0⟩ := Option.map_eq_some_iff.mp hd
      have hul := ev_lt (P.inv.fit (by omega) (by omega)) hx hy hu
      refine h7 d n₀ ?_ hr1
      have hru2 : root S.par u = u := by
        have := Q.ext.rt u hul
        rw [← this, ← hru]
        exact root_root Q.j.inv.le (by rw [Q.j.inv.par]; exact Q.lt)
      have hkk : (putF x y p S).1.key (op, [(putF x y p S).2]) = S.key (op, [u]) := by simp [St.key, hru, hru2]
      rw [hkk, Q.ext.known _ _ hj0, Option.map_some, Q.ext.rt _ ((P.inv.fit (by omega) (by omega)).known _ _ hj0), hd0]
  | .bin p q, S, c, P, hn, hc, hx, hy => by
    simp only [Pat.many] at hn hc
    have b1 : S.nodes.length ≤ 1000 := Nat.le_trans (Nat.le_add_right _ _) hn
    have b2 : c ≤ 50000 := Nat.le_trans (Nat.le_add_right _ _) (Nat.le_trans hc (by decide))
    have b3 : S.nodes.length + p.many ≤ 1000 := Nat.le_trans (Nat.add_le_add_left (Nat.le_trans (Nat.le_add_right _ q.many) (Nat.le_succ _)) _) hn
    have b4 : c + 2 * p.many ≤ 48000 := Nat.le_trans (Nat.add_le_add_left (Nat.mul_le_mul_left 2 (Nat.le_trans (Nat.le_add_right _ q.many) (Nat.le_succ _))) _) hc
    have b4' : c + 2 * p.many ≤ 50000 := Nat.le_trans b4 (by decide)
    have b0 : c + 2 * (p.many + q.many + 1) = c + 2 * p.many + 2 * q.many + 2 := by rw [Nat.mul_succ, Nat.mul_add, ← Nat.add_assoc, ← Nat.add_assoc]
    have b8 : c + 2 * p.many + 2 * q.many ≤ 48000 := Nat.le_trans (Nat.le_add_right _ 2) (b0 ▸ hc)
    have b8' : c + 2 * p.many + 2 * q.many ≤ 50000 := Nat.le_trans b8 (by decide)
    have Q := put_ok p P b3 b4 hx hy
    have b5 : (putF x y p S).1.nodes.length ≤ 1000 := Nat.le_trans Q.n b3
    have b7 : (putF x y p S).1.nodes.length + q.many + 1 ≤ 1000 := Nat.le_trans (Nat.succ_le_succ (Nat.add_le_add_right Q.n _)) (by rw [Nat.add_assoc S.nodes.length]; exact hn)
    have b7' : (putF x y p S).1.nodes.length + q.many ≤ 1000 := Nat.le_trans (Nat.le_succ _) b7
    have hx' : x < (putF x y p S).1.nodes.length := Nat.lt_of_lt_of_le hx Q.ext.n
    have hy' : y < (putF x y p S).1.nodes.length := Nat.lt_of_lt_of_le hy Q.ext.n
    have hqn := Q.n
    have R := put_ok q Q.j b7' b8 hx' hy'
    have hrn := R.n
    have b9 : (putF x y q (putF x y p S).1).1.nodes.length + 1 ≤ 1000 := Nat.le_trans (Nat.succ_le_succ R.n) b7
    have b9' : (putF x y q (putF x y p S).1).1.nodes.length ≤ 1000 := Nat.le_trans (Nat.le_succ _) b9
    have e0 : putF x y (.bin p q) S = ((putF x y q (putF x y p S).1).1.add ("f", [(putF x y p S).2, (putF x y q (putF x y p S).1).2]), (putF x y q (putF x y p S).1).1.num ("f", [(putF x y p S).2, (putF x y q (putF x y p S).1).2])) := rfl
    have hx2 : x < (putF x y q (putF x y p S).1).1.nodes.length := Nat.lt_of_lt_of_le hx' R.ext.n
    have hy2 : y < (putF x y q (putF x y p S).1).1.nodes.length := Nat.lt_of_lt_of_le hy' R.ext.n
    have hl1 : (putF x y p S).2 < (putF x y q (putF x y p S).1).1.nodes.length := Nat.lt_of_lt_of_le Q.lt R.ext.n
    have hl2 := R.lt
    have T := put_top (x := x) (y := y) R.j (op := "f") (ks := [(putF x y p S).2, (putF x y q (putF x y p S).1).2]) (by omega) (by omega) (by simp) (by intro z hz; simp at hz; rcases hz with rfl | rfl; exact hl1; exact hl2)
    obtain ⟨h1, h2, h3, h4, ⟨j, h5, h6⟩, h7⟩ := T
    have fit1 := Q.j.inv.fit (by omega) (by omega)
    have fit2 := R.j.inv.fit (by omega) (by omega)
    have fit0 := P.inv.fit (S := S) (by omega) (by omega)
    have ev1 : (putF x y q (putF x y p S).1).1.ev x y p = some (root (putF x y q (putF x y p S).1).1.par (putF x y p S).2) := by rw [R.ext.rt _ Q.lt]; exact ev_ext Q.j.inv R.ext hx' hy' fit1 p Q.ev
    refine ⟨?_, ?_, ?_, ?_, ?_, fun d n₀ hd hr => ?_⟩ <;> (try rw [e0])
    · show PutJ told ((putF x y q (putF x y p S).1).1.add ("f", [(putF x y p S).2, (putF x y q (putF x y p S).1).2])) _
      simp only [Pat.many]
      rw [b0]; exact h1
    · exact (Q.ext.trans R.ext).trans h2
    · show ((putF x y q (putF x y p S).1).1.add ("f", [(putF x y p S).2, (putF x y q (putF x y p S).1).2])).nodes.length ≤ _
      simp only [Pat.many]; omega
    · exact h4
    · show (((putF x y q (putF x y p S).1).1.add ("f", [(putF x y p S).2, (putF x y q (putF x y p S).1).2])).ev x y p).bind _ = _
      have f1 := ev_ext R.j.inv h2 hx2 hy2 fit2 p ev1
      have f2 := ev_ext R.j.inv h2 hx2 hy2 fit2 q R.ev
      rw [f1, Option.bind_some, f2, Option.bind_some]
      have e3 : ∀ z, z < (putF x y q (putF x y p S).1).1.nodes.length → root ((putF x y q (putF x y p S).1).1.add ("f", [(putF x y p S).2, (putF x y q (putF x y p S).1).2])).par (root (putF x y q (putF x y p S).1).1.par z) = root (putF x y q (putF x y p S).1).1.par z := fun z hz => by
        rw [h2.rt _ (root_lt hz)]; exact root_root R.j.inv.le (by rw [R.j.inv.par]; exact hz)
      have h5' : ((putF x y q (putF x y p S).1).1.add ("f", [(putF x y p S).2, (putF x y q (putF x y p S).1).2])).known ("f", [root (putF x y q (putF x y p S).1).1.par (putF x y p S).2, root (putF x y q (putF x y p S).1).1.par (putF x y q (putF x y p S).1).2]) = some j := by
        have := h5
        simp only [List.map_cons, List.map_nil, h2.rt _ hl1, h2.rt _ hl2] at this
        exact this
      have hk : ((putF x y q (putF x y p S).1).1.add (("f" : Str), [(putF x y p S).2, (putF x y q (putF x y p S).1).2])).key (("f" : Str), [root (putF x y q (putF x y p S).1).1.par (putF x y p S).2, root (putF x y q (putF x y p S).1).1.par (putF x y q (putF x y p S).1).2]) = (("f" : Str), [root (putF x y q (putF x y p S).1).1.par (putF x y p S).2, root (putF x y q (putF x y p S).1).1.par (putF x y q (putF x y p S).1).2]) := by simp [St.key, e3 _ hl1, e3 _ hl2]
      rw [hk, h5', Option.map_some, h6]
    · simp only [St.ev] at hd
      obtain ⟨u, hu, hd⟩ := Option.bind_eq_some_iff.mp hd
      obtain ⟨v, hv, hd⟩ := Option.bind_eq_some_iff.mp hd
      have hu1 := ev_ext P.inv Q.ext hx hy fit0 p hu
      have hv1 := ev_ext P.inv Q.ext hx hy fit0 q hv
      have hr1 := Q.old u n₀ hu hr
      have hr2 := R.old v n₀ hv1 hr1
      have hu2 := ev_ext Q.j.inv R.ext hx' hy' fit1 p hu1
      have hv2 := ev_ext Q.j.inv R.ext hx' hy' fit1 q hv1
      rw [ev1] at hu2
      rw [R.ev] at hv2
      have hru : root (putF x y q (putF x y p S).1).1.par (putF x y p S).2 = u := Option.some.inj hu2
      have hrv : root (putF x y q (putF x y p S).1).1.par (putF x y q (putF x y p S).1).2 = v := Option.some.inj hv2
      have ext2 := Q.ext.trans R.ext
      have hul := ev_lt fit0 hx hy hu
      have hvl := ev_lt fit0 hx hy hv
      obtain ⟨j0, hj0, hd0⟩ := Option.map_eq_some_iff.mp hd
      have hru2 : root S.par u = u := by
        have := ext2.rt u hul
        rw [← this, ← hru]
        exact root_root R.j.inv.le (by rw [R.j.inv.par]; exact hl1)
      have hrv2 : root S.par v = v := by
        have := ext2.rt v hvl
        rw [← this, ← hrv]
        exact root_root R.j.inv.le (by rw [R.j.inv.par]; exact hl2)
      refine h7 d n₀ ?_ hr2
      have hkk : (putF x y q (putF x y p S).1).1.key ("f", [(putF x y p S).2, (putF x y q (putF x y p S).1).2]) = S.key ("f", [u, v]) := by simp [St.key, hru, hru2, hrv, hrv2]
      rw [hkk, ext2.known _ _ hj0, Option.map_some, ext2.rt _ (fit0.known _ _ hj0), hd0]
end
end Mine
end
section
open PySem PySem.W PyProof.Rows PySem.Calls PySem.Spec Builtin
set_option maxRecDepth 100000
set_option linter.unusedVariables false
namespace Mine
/-! the law's own classes -/
inductive RowsL (b : Heap) (rl : Addr) (rows : List (Str × List Nat)) : Prop
  | mk (vs : List Value) (l : Ls b rl vs) (n : vs.length = rows.length) (k : ∀ (i : Nat) (q : Str × List Nat), rows[i]? = some q → ∃ a, vs[i]? = some (.ref a) ∧ Row b a q)
theorem RowsL.ext {b b₁ : Heap} {rl : Addr} {rows : List (Str × List Nat)} (h : RowsL b rl rows) (e : Ext b b₁) : RowsL b₁ rl rows := by
  obtain ⟨vs, l, n, k⟩ := h
  exact ⟨vs, l.ext e, n, fun i q hq => (k i q hq).imp fun a h => ⟨h.1, h.2.ext e⟩⟩
inductive ToldL (b : Heap) (tl : Addr) (told : List (Nat × Nat)) : Prop
  | mk (vs : List Value) (l : Ls b tl vs) (n : vs.length = told.length) (k : ∀ (i : Nat) (x : Nat × Nat), told[i]? = some x → ∃ a t1 t2, vs[i]? = some (.ref a) ∧ Tp b a [.int (Int.ofNat x.1) t1, .int (Int.ofNat x.2) t2])
theorem ToldL.ext {b b₁ : Heap} {tl : Addr} {told : List (Nat × Nat)} (h : ToldL b tl told) (e : Ext b b₁) : ToldL b₁ tl told := by
  obtain ⟨vs, l, n, k⟩ := h
  exact ⟨vs, l.ext e, n, fun i q hq => (k i q hq).imp fun a h => h.imp fun t1 h => h.imp fun t2 h => ⟨h.1, h.2.ext e⟩⟩
theorem LsN.ext {b b₁ : Heap} {a : Addr} {ns : List Nat} (h : LsN b a ns) (e : Ext b b₁) : LsN b₁ a ns := let ⟨vs, l, n⟩ := h; ⟨vs, l.ext e, n⟩
section
variable {w : World} {G b : Heap} {A : Around} {n : Nat} {f : Fram} {m : Locs} {env : Env} {ns : List (Str × NameKind)}
/-- [row[0]] + [places[kid] for kid in row[1:]] -/
theorem e_spelt (W : Wld (KK w) G) (hA : AOk (n + 1) A) (O : EnvOk env f ns) {scope : Scope} {cl : List (Str × Addr)} {p1 p2 p3 p4 p5 p6 p7 p8 p9 p10 p11 p12 p13 p14 : Pos} {kk kk2 : Nat} {P : Value → Heap → Prop}
    (hcl : closOf f.cl scope.names [] = some cl) (hcell : (scope.names.all fun x => x.2 != .cell) = true) (hkind : scope.kind = .function) (hx : scope.names.lookup ("kid" : Str) = some .local) (hxc : cl.lookup ("kid" : Str) = none)
    (hnames : (scope.names.all fun x => x.2 != .local || scope.names.lookup x.1 == some .local) = true) (hin : ∀ p ∈ cl, f.cl.lookup p.1 = some p.2)
    {c0 : Addr} (hpc : (compNs ns scope.names).lookup ("places" : Str) = some .cell) (hc0 : cl.lookup ("places" : Str) = some c0) (hrl : ns.lookup ("row" : Str) = some .local) (hrc : f.cl.lookup ("row" : Str) = none)
    {ra pl : Addr} {q : Str × List Nat} {ps : List Nat} (hmr : m "row" = some (.ref ra)) (hmp : m "places" = some (.ref pl)) (R : Row b ra q) (L : LsN b pl ps) (hb : ∀ x ∈ q.2, x < ps.length) (hz : ps.length ≤ lim) (hk : q.2.length ≤ lim)
    (k : ∀ c b₁ t us, Ext b b₁ → b.get? c = none → Ls b₁ c (.str q.1 t :: us) → Nums us (q.2.map fun x => ps.getD x 0) → P (.ref c) b₁) :
    ET w G A f (eval (.BinOp (.List [.Subscript (.Name "row" p1) (.Constant (.int 0) kk p2) p3] p4) .Add (.ListComp (.Subscript (.Name "places" p5) (.Name "kid" p6) p7) [⟨.Name "kid" p8, .Subscript (.Name "row" p9) (.Slice (some (.Constant (.int 1) kk2 p10)) none none p11) p12, [], 0⟩] scope p13) p14) env) b m P := by
  have lz := lim_size
  obtain ⟨t, kvs, l, N⟩ := R
  have hkl := N.length
  refine e_binop (e_list (e_spl_cons (e_sub (ops := fun o i => [o, i]) (e_local O hrl hrc hmr (e_int fun t1 => ⟨l.sub, c_getItem_tuple (i := 0) l (by simp; omega) rfl (e_spl_nil (c_newList (by simp [sizeLine]) (fun la b₁ e₁ n₁ l₁ => ?_) _ _)) _ _⟩)))))
  refine e_comp O hcl hcell hkind hx hxc hnames hin (e_sub (ops := fun o i => [i, o]) (e_local O hrl hrc hmr (e_slice_from (e_int fun t2 sl b₂ e₂ hs => ⟨((l.ext e₁).ext e₂).sub, c_slice_tuple ((l.ext e₁).ext e₂) hs (by omega) (fun sa b₃ e₃ n₃ l₃ => ?_) _ _⟩))))
  have e₁₃ := e₂.trans e₃
  refine ⟨_, _, _, itv_tuple hA.hd l₃, by omega, FindC b₃ q.2 (fun x => ps.getD x 0), ⟨rfl, by rw [List.take_zero]; exact .nil⟩, (fun i ys b' j c hc o ho => by obtain ⟨rfl, _⟩ := j; exact ho), ?_, ?_⟩
  · rintro i ys b' v C' hid' env' hi' ⟨rfl, hy⟩ pv O'
    have hlt : i < q.2.length := by rw [← hkl]; exact hi'
    obtain ⟨t3, e⟩ := N.get (List.getElem?_eq_getElem hlt)
    rw [e] at pv
    cases pv
    have hs' : (if ("places" : Str) = "kid" then some (Value.int (Int.ofNat q.2[i]) t3) else if (cl.lookup ("places" : Str)).isSome = true then m "places" else none) = some (.ref pl) := by
      rw [if_neg (by decide), hc0, Option.isSome_some, if_pos rfl]; exact hmp
    have hxl : q.2[i] < ps.length := hb _ (List.getElem_mem hlt)
    obtain ⟨pvs, Lp, Np⟩ := (L.ext e₁).ext e₁₃
    have hpl := Np.length
    obtain ⟨t4, e4⟩ := Np.get (List.getElem?_eq_getElem hxl)
    refine e_sub (ops := fun o i => [o, i]) (e_cell O' hpc hc0 hs' (e_local O' (compNs_local hx) hxc (if_pos rfl) ⟨Lp.sub, c_getItem_list Lp (Int.natCast_nonneg _) (by omega) e4 ⟨rfl, ?_⟩ _ _⟩))
    have ht : (q.2.take (i + 1)).map (fun x => ps.getD x 0) = (q.2.take i).map (fun x => ps.getD x 0) ++ [ps[q.2[i]]] := by
      rw [List.take_add_one, List.getElem?_eq_getElem hlt, Option.toList_some, List.map_append]
      simp [List.getD, List.getElem?_eq_getElem hxl]
    rw [ht]
    exact hy.append (.one _ _)
  · rintro D ys b' b₄ ⟨rfl, hy⟩ e₄ nD lD
    rw [List.take_of_length_le (by omega)] at hy
    have hyl := hy.length
    rw [List.length_map] at hyl
    exact c_add_list ((l₁.ext e₁₃).ext e₄) lD (by simp; omega) (fun c b₅ e₅ n₅ l₅ => k c b₅ t ys (((e₁.trans e₁₃).trans e₄).trans e₅) (((e₁.trans e₁₃).trans e₄).none n₅) l₅ hy) _ _
end
end Mine
end
section
open PySem PySem.W PyProof.Rows PySem.Calls PySem.Spec Builtin
set_option maxRecDepth 100000
set_option linter.unusedVariables false
namespace Mine
def tD (p : Nat × Nat) : PyData := .tuple [.int (Int.ofNat p.1), .int (Int.ofNat p.2)]
theorem tD_eqv (p q : Nat × Nat) : PyData.eqv (tD p) (tD q) = decide (q = p) := by
  have hi := eqv_iff (tD p) (tD q) rfl rfl
  by_cases e : q = p
  · subst e; rw [decide_eq_true rfl]; exact hi.mpr rfl
  · rw [decide_eq_false e]
    cases h : PyData.eqv (tD p) (tD q) with
    | false => rfl
    | true =>
      have := hi.mp h
      unfold tD at this
      injection this with this
      injection this with h1 h2
      injection h2 with h2 _
      injection h1 with h1
      injection h2 with h2
      exact absurd (Prod.ext (Int.ofNat.inj h1) (Int.ofNat.inj h2)).symm e
theorem toldD_any (told : List (Nat × Nat)) (q : Nat × Nat) : ((told.map tD).any fun d => PyData.eqv d (tD q)) = decide (q ∈ told) := by
  induction told with
  | nil => simp
  | cons p told ih =>
    rw [List.map_cons, List.any_cons, ih, tD_eqv]
    by_cases h1 : q = p
    · simp [h1]
    · simp [h1]
theorem okD_told (told : List (Nat × Nat)) : okD (.list (told.map tD)) = true := by
  have h : PyData.canLayAll0 (told.map tD) = true ∧ PyData.depthAll (told.map tD) ≤ 1 := by
    induction told with
    | nil => exact ⟨rfl, Nat.zero_le _⟩
    | cons p told ih => rw [List.map_cons]; exact ⟨by rw [PyData.canLayAll0, ih.1]; rfl, by rw [PyData.depthAll]; exact Nat.max_le.mpr ⟨Nat.le_refl _, ih.2⟩⟩
  rw [okD, PyData.canLay0, h.1, PyData.depth, Bool.true_and, decide_eq_true_eq]
  omega
theorem ToldL.rd {b : Heap} {tl : Addr} {told : List (Nat × Nat)} (h : ToldL b tl told) : RD b (.ref tl) (.list (told.map tD)) := by
  obtain ⟨vs, l, n, k⟩ := h
  refine .list l ?_
  clear l
  induction told generalizing vs with
  | nil => cases vs with | nil => exact .nil | cons _ _ => cases n
  | cons p told ih =>
    cases vs with
    | nil => cases n
    | cons v vs =>
      obtain ⟨a, t1, t2, h1, h2⟩ := k 0 p rfl
      have hv : v = .ref a := by simpa using h1
      subst hv
      exact .cons (.tuple h2 (.cons (.int ..) (.cons (.int ..) .nil))) (ih vs (by simpa using n) fun i x hx => by simpa using k (i + 1) x (by simpa using hx))
theorem keyD_eqv (a c : Str × List Nat) : PyData.eqv (.list (rowD a)) (.list (rowD c)) = decide (a = c) := by
  have h := eqv_iff (.list (rowD a)) (.list (rowD c)) (by rw [plainD, plain_row]) (by rw [plainD, plain_row])
  by_cases e : a = c
  · subst e; rw [decide_eq_true rfl]; exact h.mpr rfl
  · rw [decide_eq_false e]
    cases q : PyData.eqv (.list (rowD a)) (.list (rowD c)) with
    | false => rfl
    | true => exact absurd (rowD_inj (PyData.list.inj (h.mp q))) e
theorem okD_row (q : Str × List Nat) (h : PyData.strOk q.1 = true) : okD (.list (rowD q)) = true ∧ okD (.tuple (rowD q)) = true := by
  have h1 : ∀ ns : List Nat, PyData.canLayAll0 (ns.map fun n => .int (Int.ofNat n)) = true ∧ PyData.depthAll (ns.map fun n => .int (Int.ofNat n)) = 0 := fun ns => by
    induction ns with
    | nil => exact ⟨rfl, rfl⟩
    | cons n ns ih => rw [List.map_cons]; exact ⟨by rw [PyData.canLayAll0, ih.1]; rfl, by rw [PyData.depthAll, ih.2]; rfl⟩
  have h2 := h1 q.2
  have h3 : PyData.canLayAll0 (rowD q) = true := by rw [rowD, PyData.canLayAll0, PyData.canLay0, h, h2.1]; rfl
  have h4 : PyData.depthAll (rowD q) = 0 := by rw [rowD, PyData.depthAll, h2.2]; rfl
  exact ⟨by rw [okD, PyData.canLay0, h3, PyData.depth, h4]; rfl, by rw [okD, PyData.canLay0, h3, PyData.depth, h4]; rfl⟩
section
variable {w : World} {G b : Heap} {A : Around} {n : Nat}
theorem c_rangeN {i : Nat} {t : Tok} {P : Value → Heap → Prop} (k : ∀ a b₁, Ext b b₁ → b.get? a = none → Rg b₁ a i → P (.ref a) b₁) : CT w G A (call (.type "range") [.int (Int.ofNat i) t]) b P := c_range rfl k
/-- what a turn keeps -/
inductive PlS (b : Heap) (rl tl : Addr) (rows : List (Str × List Nat)) (told : List (Nat × Nat)) (b' : Heap) (m' : Locs) (nw : Bool) (p : List Nat) : Prop
  | mk (h1 : Ext b b') (h2 : m' "rows" = some (.ref rl)) (h3 : m' "told" = some (.ref tl)) (h4 : m' "is_new" = some (.bool nw)) (h5 : PInv rows told p) (pa : Addr) (h6 : m' "places" = some (.ref pa)) (h7 : b.get? pa = none) (h8 : LsN b' pa p)
theorem PlS.inv {b : Heap} {rl tl : Addr} {rows : List (Str × List Nat)} {told : List (Nat × Nat)} {b' : Heap} {m' : Locs} {nw : Bool} {p : List Nat} (h : PlS b rl tl rows told b' m' nw p) : PInv rows told p := by cases h; assumption
inductive PlW (b : Heap) (rl tl : Addr) (rows : List (Str × List Nat)) (told : List (Nat × Nat)) (i : Nat) (b' : Heap) (m' : Locs) : Prop
  | mk (nw : Bool) (p : List Nat) (h1 : PlS b rl tl rows told b' m' nw p) (h2 : (nw = true ∧ i = cnt p + 1) ∨ (nw = false ∧ i = 0 ∧ Closed rows told fun x => p.getD x 0))
/-- what a pass keeps -/
inductive PlJ (b : Heap) (rl tl : Addr) (rows : List (Str × List Nat)) (told : List (Nat × Nat)) (p : List Nat) (b₂ : Heap) (m₂ : Locs) (one other : Nat) : Prop
  | mk (nw : Bool) (q : List Nat) (h : PlS b rl tl rows told b₂ m₂ nw q) (h1 : nw = false → q = p ∧ (∀ x, x < one → ∀ y, y < x → ¬ Link rows told p x y) ∧ ∀ y, y < other → ¬ Link rows told p one y) (h2 : nw = true → cnt q < cnt p)
inductive PlF (b : Heap) (rl tl : Addr) (rows : List (Str × List Nat)) (told : List (Nat × Nat)) (p : List Nat) (b₄ : Heap) (one : Nat) (b₂ : Heap) (m₂ : Locs) : Prop
  | mk (h1 : Ext b₄ b₂) (h2 : PlJ b rl tl rows told p b₂ m₂ one 0)
inductive PlG (b : Heap) (rl tl : Addr) (rows : List (Str × List Nat)) (told : List (Nat × Nat)) (p : List Nat) (b₆ : Heap) (t3 : Tok) (one other : Nat) (b₂ : Heap) (m₂ : Locs) : Prop
  | mk (h1 : Ext b₆ b₂) (h2 : m₂ "one" = some (.int (Int.ofNat one) t3)) (h3 : PlJ b rl tl rows told p b₂ m₂ one other)
inductive PlC (b₈ : Heap) (q : List Nat) (qj : Nat → Str × List Nat) (j : Nat) (ys : List Value) (b'' : Heap) : Prop
  | mk (h1 : Ext b₈ b'') (h2 : ys.length = j) (h3 : ∀ j', j' < j → ∃ c t us, ys[j']? = some (.ref c) ∧ Ls b'' c (.str (qj j').1 t :: us) ∧ Nums us ((qj j').2.map fun x => q.getD x 0))
inductive PlM (b₁₁ : Heap) (q : List Nat) (lo to : Nat) (j : Nat) (ys : List Value) (b'' : Heap) : Prop
  | mk (h1 : b₁₁ = b'') (h2 : Nums ys ((q.take j).map fun z => if z = to then lo else z))
inductive PlL (b₉ : Heap) (rows : List (Str × List Nat)) (told : List (Nat × Nat)) (q : List Nat) (one other : Nat) (c : Bool) (b₁₀ : Heap) : Prop
  | mk (h1 : Ext b₉ b₁₀) (h2 : c = true ↔ Link rows told q one other)
set_option maxHeartbeats 4000000 in
theorem places_ (W : Wld (KK w) G) (hA : AOk (n + 3) A) {rl tl : Addr} {rows : List (Str × List Nat)} {told : List (Nat × Nat)} {st : Str → Prop} (R : RowsL b rl rows) (T : ToldL b tl told) (hz : rows.length ≤ lim)
    (hk : ∀ (i : Nat) (a : Str × List Nat), rows[i]? = some a → PyData.strOk a.1 = true ∧ a.2.length ≤ lim ∧ ∀ x ∈ a.2, x < rows.length) (ht : ∀ x ∈ told, x.1 < rows.length ∧ x.2 < rows.length) :
    DT w G A (.call (.ref 456) ⟨[.ref rl, .ref tl], []⟩) b fun v b₁ => Ext b b₁ ∧ ∃ pl p, v = .ref pl ∧ b.get? pl = none ∧ LsN b₁ pl p ∧ PInv rows told p ∧ Closed rows told fun x => p.getD x 0 := by
  have lz := lim_size
  have hkid : ∀ (i : Nat) (a : Str × List Nat), rows[i]? = some a → ∀ x ∈ a.2, x < rows.length := fun i a h => (hk i a h).2.2
  refine call_defQ (binds := [("rows", .ref rl), ("told", .ref tl)]) W (fn_places w) hA (fun _ _ _ _ _ => rfl) rfl fun Q hQ L' hid env O => ?_
  have hA' : AOk (n + 2) (A.deeper env) := hA.deeper env
  obtain ⟨rvs, Lr, hrl, hr⟩ := id R
  refine t_cons (t_assign_tuple (l := [_, _]) (hw := (swapped_of O _ _).trans rfl) (e_tuple (e_spl_cons (e_call (e_builtin W O rfl (b_list w).1 (b_list w).2 (by decide) (e_callWith keeps3_type (e_spl_cons (e_call (e_builtin W O rfl (b_range w).1 (b_range w).2 (by decide) (e_callWith keeps3_type (e_spl_cons (e_len W O rfl (b_len w).1 (e_local O rfl rfl rfl ⟨rl, rvs, rfl, Lr, by omega, fun t1 => ?_⟩) (b_len w).2))))))))))))
  rw [hrl]
  refine e_spl_nil (c_rangeN (fun ra b₁ e₁ n₁ r₁ => e_spl_nil (c_list_range hA'.hd r₁ (by omega) (fun pl b₂ pvs e₂ n₂ l₂ N₂ => ?_) _ _)) _ _)
  refine e_spl_cons (e_bool (e_spl_nil (c_newTuple (by simp [sizeLine]) (fun ta b₃ e₃ n₃ l₃ => ?_) _ _)))
  refine c_unpack_tuple hA'.hd l₃ rfl (a_cons (s_name (s_cell O rfl rfl (a_cons (s_name (s_local O rfl rfl (a_nil ?_))))))) _ _
  have e₀₃ : Ext b b₃ := (e₁.trans e₂).trans e₃
  have npl : b.get? pl = none := e₁.none n₂
  refine t_cons (t_while (PlW b rl tl rows told) ?_ (cnt (List.range rows.length) + 1) ?_)
  rotate_left
  · exact ⟨true, List.range rows.length, ⟨e₀₃, rfl, rfl, if_pos rfl, pinv_start trivial, pl, (if_neg (by decide)).trans (if_pos rfl), npl, pvs, l₂.ext e₃, N₂⟩, .inl ⟨rfl, rfl⟩⟩
  rintro i b' m' ⟨nw, p, ⟨e', h1, h2, h3, hp, pa, h4, npa, Lp⟩, hi⟩
  refine i_val (e_local O rfl rfl h3 ⟨nw, rfl, fun hnw => ?_, fun hnw => ?_⟩)
  · subst hnw
    have hic : i = cnt p + 1 := by rcases hi with ⟨_, h⟩ | ⟨h, _⟩; exact h; cases h
    obtain ⟨rvs', Lr', hrl', hr'⟩ := R.ext e'
    refine t_cons (t_assign (e_bool (s_local O rfl rfl ?_)))
    have j0 : PlJ b rl tl rows told p b' (fun y => if y = "is_new" then some (.bool false) else m' y) 0 0 := ⟨false, p, ⟨e', (if_neg (by decide)).trans h1, (if_neg (by decide)).trans h2, if_pos rfl, hp, pa, (if_neg (by decide)).trans h4, npa, Lp⟩, fun _ => ⟨rfl, fun x hx => absurd hx (Nat.not_lt_zero _), fun y hy => absurd hy (Nat.not_lt_zero _)⟩, fun h => by cases h⟩
    refine t_cons (t_for (e_call (e_builtin W O rfl (b_range w).1 (b_range w).2 (by decide) (e_callWith keeps3_type (e_spl_cons (e_len W O rfl (b_len w).1 (e_local O rfl rfl ((if_neg (by decide)).trans h1) ⟨rl, rvs', rfl, Lr', by omega, fun t2 => ?_⟩) (b_len w).2))))))
    rw [hrl']
    refine e_spl_nil (c_rangeN (fun ra b₄ e₄ n₄ r₄ => ?_) _ _)
    refine ⟨_, _, _, itv_range hA'.hd r₄ (by have : lim = 100000 := rfl; omega), PlF b rl tl rows told p b₄, ⟨.refl, ?_⟩, (fun i b₂ m₂ j c hc o ho => by obtain ⟨j, _⟩ := j; exact j c o ho), ?_, ?_⟩
    · obtain ⟨nw, q, ⟨z1, z2, z3, z4, z5, pa, z6, z7, z8⟩, j1, j2⟩ := j0
      exact ⟨nw, q, ⟨z1.trans e₄, z2, z3, z4, z5, pa, z6, z7, z8.ext e₄⟩, j1, j2⟩
    · rintro one b₅ m₅ v l hone ⟨e₅, nw, q, ⟨z1, z2, z3, z4, z5, pa', z6, z7, z8⟩, j1, j2⟩ ⟨t3, rfl⟩
      have Om := O.more l
      refine s_name (s_local Om rfl rfl ?_)
      refine TT.hide (J := fun fl bb mm => fl = .next ∧ PlF b rl tl rows told p b₄ (one + 1) bb mm) (by rintro _ _ _ ⟨rfl, h⟩; exact h) fun Q2 hN2 => ?_
      refine t_cons (t_for (e_call (e_builtin W Om rfl (b_range w).1 (b_range w).2 (by decide) (e_callWith keeps3_type (e_spl_cons (e_local Om rfl rfl (if_pos rfl) (e_spl_nil (c_rangeN (fun rb b₆ e₆ n₆ r₆ => ?_) _ _))))))))
      refine ⟨_, _, _, itv_range hA'.hd r₆ (by have : lim = 100000 := rfl; omega), PlG b rl tl rows told p b₆ t3 one, ⟨.refl, if_pos rfl, nw, q, ⟨z1.trans e₆, (if_neg (by decide)).trans z2, (if_neg (by decide)).trans z3, (if_neg (by decide)).trans z4, z5, pa', (if_neg (by decide)).trans z6, z7, z8.ext e₆⟩, j1, j2⟩, (fun i b₂ m₂ j c hc o ho => by obtain ⟨j, _, _⟩ := j; exact j c o ho), ?_, ?_⟩
      · rintro other b₇ m₇ v l' hother ⟨e₇, g0, nw, q, ⟨g1, g2, g3, g4, g5, pa', g6, g7, g8⟩, j1, j2⟩ ⟨t4, rfl⟩
        have Oi := Om.more l'
        refine s_name (s_local Oi rfl rfl ?_)
        refine TT.hide (J := fun fl bb mm => fl = .next ∧ PlG b rl tl rows told p b₆ t3 one (other + 1) bb mm) (by rintro _ _ _ ⟨rfl, h⟩; exact h) fun Q1 hN1 => ?_
        have hone' : one < rows.length := hone
        have hoth : other < one := hother
        have e0 : Ext b b₇ := g1
        obtain ⟨a1, hq1⟩ : ∃ a, rows[one]? = some a := ⟨_, List.getElem?_eq_getElem hone'⟩
        obtain ⟨a2, hq2⟩ : ∃ a, rows[other]? = some a := ⟨_, List.getElem?_eq_getElem (by omega)⟩
        obtain ⟨hs1, hkl1, hkb1⟩ := hk one a1 hq1
        obtain ⟨hs2, hkl2, hkb2⟩ := hk other a2 hq2
        obtain ⟨rv7, Lr7, hrl7, hr7⟩ := R.ext e0
        obtain ⟨r1, hr1, R1⟩ := hr7 one a1 hq1
        obtain ⟨r2, hr2, R2⟩ := hr7 other a2 hq2
        refine t_cons (t_assign_comp Oi rfl rfl rfl rfl rfl rfl (fun p hp => by rw [List.mem_singleton.mp hp]; rfl) rfl rfl rfl (e_tuple (e_spl_cons (e_sub (ops := fun o i => [o, i]) (e_local Oi rfl rfl ((if_neg (by decide)).trans g2) (e_local Oi rfl rfl ((if_neg (by decide)).trans g0) ⟨Lr7.sub, c_getItem_list Lr7 (Int.natCast_nonneg _) (by omega) hr1 ?_ _ _⟩))))))
        refine e_spl_cons (e_sub (ops := fun o i => [o, i]) (e_local Oi rfl rfl ((if_neg (by decide)).trans g2) (e_local Oi rfl rfl (if_pos rfl) ⟨Lr7.sub, c_getItem_list Lr7 (Int.natCast_nonneg _) (by omega) hr2 (e_spl_nil (c_newTuple (by simp [sizeLine]) (fun ta b₈ e₈ n₈ l₈ => ?_) _ _)) _ _⟩)))
        have g8' := g8.ext e₈
        have hql : q.length = rows.length := g5.len
        -- the two rows, spelt
        let qj : Nat → Str × List Nat := fun j => if j = 0 then a1 else a2
        refine ⟨_, _, _, itv_tuple hA'.hd l₈, by simp [sizeLine], PlC b₈ q qj, ⟨.refl, rfl, fun j' h => absurd h (Nat.not_lt_zero _)⟩, (fun i ys b'' j c hc o ho => by obtain ⟨j, _, _⟩ := j; exact j c o ho), ?_, ?_⟩
        · rintro j ys b'' v C' hid' env' hj ⟨e₉, hyl, hys⟩ pv O'
          obtain ⟨rj, hv, Rj, hkj1, hkj2⟩ : ∃ rj, v = .ref rj ∧ Row b'' rj (qj j) ∧ (qj j).2.length ≤ lim ∧ ∀ x ∈ (qj j).2, x < rows.length := by
            have hj2 : j < 2 := hj
            match j, hj2 with
            | 0, _ => exact ⟨r1, (Option.some.inj pv).symm, (R1.ext e₈).ext e₉, hkl1, hkb1⟩
            | 1, _ => exact ⟨r2, (Option.some.inj pv).symm, (R2.ext e₈).ext e₉, hkl2, hkb2⟩
          subst hv
          refine e_spelt (n := n) W (hA'.mono (by first | exact lo rfl | omega)) O' rfl rfl rfl rfl rfl rfl (fun p hp => by rw [List.mem_singleton.mp hp]; rfl) rfl rfl rfl rfl (if_pos rfl) ((if_neg (by decide)).trans ((if_pos rfl).trans ((if_neg (by decide)).trans g6))) Rj (g8'.ext e₉) (fun x hx => by rw [hql]; exact hkj2 x hx) (by omega) hkj1 (fun c b₉ t us e n l N => ?_)
          refine ⟨e₉.trans e, by simp [hyl], fun j' hj' => ?_⟩
          by_cases hjj : j' = j
          · subst j'
            exact ⟨c, t, us, by rw [← hyl]; simp, l, N⟩
          · obtain ⟨c', t', us', h1', h2', h3'⟩ := hys j' (by omega)
            exact ⟨c', t', us', by rw [List.getElem?_append_left (by omega)]; exact h1', h2'.ext e, h3'⟩
        · rintro D ys b'' b₉ ⟨e₉, hyl, hys⟩ e₁₀ nD lD
          have e₈₉ := e₉.trans e₁₀
          have hyl2 : ys.length = 2 := hyl
          obtain ⟨c1, t5, us1, hc1, lc1, N1⟩ := hys 0 (by simp)
          obtain ⟨c2, t6, us2, hc2, lc2, N2⟩ := hys 1 (by simp)
          have lc1' := lc1.ext e₁₀
          have lc2' := lc2.ext e₁₀
          have q9 := g8'.ext e₈₉
          have k1 : pk q a1 = (a1.1, a1.2.map fun x => q.getD x 0) := rfl
          have k2 : pk q a2 = (a2.1, a2.2.map fun x => q.getD x 0) := rfl
          have T9 := (T.ext e0).ext (e₈.trans e₈₉)
          obtain ⟨qvs, Lq, Nq⟩ := q9
          have hqvl := Nq.length
          have qget : ∀ x, x < rows.length → ∃ t, qvs[x]? = some (.int (Int.ofNat (q.getD x 0)) t) := fun x hx => by
            have hxl : x < q.length := by rw [hql]; exact hx
            have e : q.getD x 0 = q[x] := by simp [List.getD, List.getElem?_eq_getElem hxl]
            rw [e]; exact Nq.get (List.getElem?_eq_getElem hxl)
          obtain ⟨tu, hu⟩ := qget one hone'
          obtain ⟨tv, hv⟩ := qget other (by omega)
          refine t_cons (t_if (ET.mono (P := PlL b₉ rows told q one other) ?_ fun c b₁₀ h => ⟨fun hc => ?_, fun hc => ?_⟩))
          · refine i_boolop (i_and (i_cmp (e_sub (ops := fun o i => [o, i]) (e_cell Oi rfl rfl ((if_neg (by decide)).trans ((if_neg (by decide)).trans g6)) (e_local Oi rfl rfl ((if_neg (by decide)).trans ((if_neg (by decide)).trans g0)) ⟨Lq.sub, c_getItem_list Lq (Int.natCast_nonneg _) (by omega) hu ?_ _ _⟩)))))
            refine e_sub (ops := fun o i => [o, i]) (e_cell Oi rfl rfl ((if_neg (by decide)).trans ((if_neg (by decide)).trans g6)) (e_local Oi rfl rfl ((if_neg (by decide)).trans (if_pos rfl)) ⟨Lq.sub, c_getItem_list Lq (Int.natCast_nonneg _) (by omega) hv (c_ne_int ⟨_, rfl, fun hc => ⟨.refl, ?_⟩, fun hc => ?_⟩ _ _) _ _⟩))
            · constructor
              · intro h; cases h
              · intro h
                have : q.getD one 0 = q.getD other 0 := Int.ofNat.inj (eq_of_beq (by simpa [bne] using hc))
                exact absurd this h.1
            · have hne : q.getD one 0 ≠ q.getD other 0 := fun e => by rw [e] at hc; simp at hc
              have big : ∀ x : Bool, (x = true ↔ ((∃ a c, rows[one]? = some a ∧ rows[other]? = some c ∧ pk q a = pk q c) ∨ (one, other) ∈ told ∨ (other, one) ∈ told)) → (x = true ↔ Link rows told q one other) := fun x h => h.trans ⟨fun z => ⟨hne, z⟩, fun z => z.2⟩
              refine i_and (i_boolop (i_or (i_cmp (e_sub (ops := fun o i => [o, i]) (e_local Oi rfl rfl (if_pos rfl) (e_int fun t7 => ⟨lD.sub, c_getItem_list lD (by decide) (by simp [sizeLine, hyl2]) (by simpa using hc1) ?_ _ _⟩))))))
              refine e_sub (ops := fun o i => [o, i]) (e_local Oi rfl rfl (if_pos rfl) (e_int fun t8 => ⟨lD.sub, c_getItem_list lD (by decide) (by simp [sizeLine, hyl2]) (by simpa using hc2) ?_ _ _⟩))
              have rd1 : RD b₉ (.ref c1) (.list (rowD (pk q a1))) := .list lc1' (.cons (.str ..) (.nums N1))
              have rd2 : RD b₉ (.ref c2) (.list (rowD (pk q a2))) := .list lc2' (.cons (.str ..) (.nums N2))
              refine c_eq_data (n := n) (hA'.mono (by first | exact lo rfl | omega)) rd1 rd2 (okD_row (pk q a1) hs1).1 (okD_row (pk q a2) hs2).1 ?_ _ _
              rw [keyD_eqv]
              refine ⟨_, rfl, fun hc => ?_, fun hc => ?_⟩
              · have hke := of_decide_eq_true hc
                exact ⟨fun h => absurd h (by decide), fun _ => i_and_nil ⟨.refl, big true ⟨fun _ => .inl ⟨a1, a2, hq1, hq2, hke⟩, fun _ => rfl⟩⟩⟩
              · have hke := of_decide_eq_false hc
                have hno : ¬ ∃ a c, rows[one]? = some a ∧ rows[other]? = some c ∧ pk q a = pk q c := by
                  rintro ⟨a, c, h1, h2, h3⟩
                  rw [hq1] at h1; rw [hq2] at h2
                  cases h1; cases h2
                  exact hke h3
                have ask : ∀ (x y : Nat) (t7 t8 : Tok) (b₁₀ b₁₁ : Heap) (ta : Addr) (P : Bool → Heap → Prop), Ext b₉ b₁₀ → Ext b₁₀ b₁₁ → Tp b₁₁ ta [.int (Int.ofNat x) t7, .int (Int.ofNat y) t8] → P (decide ((x, y) ∈ told)) b₁₁ → CT w G (A.deeper env) (compareOp .In (.ref ta) (.ref tl)) b₁₁ (Bl P) := by
                  intro x y t7 t8 b₁₀ b₁₁ ta P e₁₀ e₁₁ l₁₁ hP
                  refine c_in_data (n := n) (d := tD (x, y)) (hA'.mono (by first | exact lo rfl | omega)) (T9.ext (e₁₀.trans e₁₁)).rd (.tuple l₁₁ (.cons (.int ..) (.cons (.int ..) .nil))) (okD_told told) rfl ?_
                  rw [toldD_any]
                  exact ⟨_, rfl, hP⟩
                refine i_or (i_cmp (e_tuple (e_spl_cons (e_local Oi rfl rfl ((if_neg (by decide)).trans ((if_neg (by decide)).trans g0)) (e_spl_cons (e_local Oi rfl rfl ((if_neg (by decide)).trans (if_pos rfl)) (e_spl_nil (c_newTuple (by simp [sizeLine]) (fun ta2 b₁₁ e₁₁ n₁₁ l₁₁ => ?_) _ _))))))))
                refine e_local Oi rfl rfl ((if_neg (by decide)).trans ((if_neg (by decide)).trans g3)) (ask one other _ _ b₉ b₁₁ ta2 _ .refl e₁₁ l₁₁ ⟨fun hc2 => ?_, fun hc2 => ?_⟩ _ _)
                · have hm := of_decide_eq_true hc2
                  exact ⟨fun h => absurd h (by decide), fun _ => i_and_nil ⟨e₁₁, big true ⟨fun _ => .inr (.inl hm), fun _ => rfl⟩⟩⟩
                · have hm1 := of_decide_eq_false hc2
                  refine i_or (i_cmp (e_tuple (e_spl_cons (e_local Oi rfl rfl ((if_neg (by decide)).trans (if_pos rfl)) (e_spl_cons (e_local Oi rfl rfl ((if_neg (by decide)).trans ((if_neg (by decide)).trans g0)) (e_spl_nil (c_newTuple (by simp [sizeLine]) (fun ta3 b₁₂ e₁₂ n₁₂ l₁₂ => ?_) _ _))))))))
                  refine e_local Oi rfl rfl ((if_neg (by decide)).trans ((if_neg (by decide)).trans g3)) (ask other one _ _ b₁₁ b₁₂ ta3 _ e₁₁ e₁₂ l₁₂ ⟨fun hc3 => ?_, fun hc3 => ?_⟩ _ _)
                  · have hm := of_decide_eq_true hc3
                    exact ⟨fun h => absurd h (by decide), fun _ => i_and_nil ⟨e₁₁.trans e₁₂, big true ⟨fun _ => .inr (.inr hm), fun _ => rfl⟩⟩⟩
                  · have hm2 := of_decide_eq_false hc3
                    refine i_or_nil ⟨fun _ => ⟨e₁₁.trans e₁₂, big false ⟨(fun h => by cases h), fun h => ?_⟩⟩, fun h => absurd h (by decide)⟩
                    rcases h with h | h | h
                    · exact absurd h hno
                    · exact absurd h hm1
                    · exact absurd h hm2
          · obtain ⟨e₁₀, hL⟩ := h
            have hlk := hL.mp hc
            have pm := pinv_mrg g5 hone' (by omega) hlk hkid
            have Lq10 := Lq.ext e₁₀
            have eu := ofNat_max (q.getD one 0) (q.getD other 0)
            have el := ofNat_min (q.getD one 0) (q.getD other 0)
            generalize hlo : min (q.getD one 0) (q.getD other 0) = lo at pm el
            generalize hto : max (q.getD one 0) (q.getD other 0) = to at pm eu
            refine t_cons (t_assign_tuple (l := [_, _, _]) (hw := (swapped_of Oi _ _).trans rfl) (e_tuple (e_spl_cons (e_call (e_builtin W Oi rfl (b_min w).1 (b_min w).2 (by decide) (e_callWith keeps3_builtin (e_spl_cons (e_sub (ops := fun o i => [o, i]) (e_cell Oi rfl rfl ((if_neg (by decide)).trans ((if_neg (by decide)).trans g6)) (e_local Oi rfl rfl ((if_neg (by decide)).trans ((if_neg (by decide)).trans g0)) ⟨Lq10.sub, c_getItem_list Lq10 (Int.natCast_nonneg _) (by omega) hu ?_ _ _⟩))))))))))
            refine e_spl_cons (e_sub (ops := fun o i => [o, i]) (e_cell Oi rfl rfl ((if_neg (by decide)).trans ((if_neg (by decide)).trans g6)) (e_local Oi rfl rfl ((if_neg (by decide)).trans (if_pos rfl)) ⟨Lq10.sub, c_getItem_list Lq10 (Int.natCast_nonneg _) (by omega) hv (e_spl_nil (c_min2 hA'.hd (fun t9 => ?_) _ _)) _ _⟩)))
            rw [el]
            refine e_spl_cons (e_call (e_builtin W Oi rfl (b_max w).1 (b_max w).2 (by decide) (e_callWith keeps3_builtin (e_spl_cons (e_sub (ops := fun o i => [o, i]) (e_cell Oi rfl rfl ((if_neg (by decide)).trans ((if_neg (by decide)).trans g6)) (e_local Oi rfl rfl ((if_neg (by decide)).trans ((if_neg (by decide)).trans g0)) ⟨Lq10.sub, c_getItem_list Lq10 (Int.natCast_nonneg _) (by omega) hu ?_ _ _⟩)))))))
            refine e_spl_cons (e_sub (ops := fun o i => [o, i]) (e_cell Oi rfl rfl ((if_neg (by decide)).trans ((if_neg (by decide)).trans g6)) (e_local Oi rfl rfl ((if_neg (by decide)).trans (if_pos rfl)) ⟨Lq10.sub, c_getItem_list Lq10 (Int.natCast_nonneg _) (by omega) hv (e_spl_nil (c_max2 hA'.hd (fun t10 => ?_) _ _)) _ _⟩)))
            rw [eu]
            refine e_spl_cons (e_bool (e_spl_nil (c_newTuple (by simp [sizeLine]) (fun tb b₁₁ e₁₁ n₁₁ l₁₁ => ?_) _ _)))
            refine c_unpack_tuple hA'.hd l₁₁ rfl (a_cons (s_name (s_cell Oi rfl rfl (a_cons (s_name (s_cell Oi rfl rfl (a_cons (s_name (s_local Oi rfl rfl (a_nil ?_)))))))))) _ _
            have Lq11 := Lq10.ext e₁₁
            refine t_cons (t_assign (hs := (swaps_comp Oi).trans rfl) (e_comp Oi rfl rfl rfl rfl rfl rfl (fun p hp => by cases hp with | head => rfl | tail _ h => rw [List.mem_singleton.mp h]; rfl) (e_cell Oi rfl rfl ((if_neg (by decide)).trans ((if_neg (by decide)).trans ((if_neg (by decide)).trans ((if_neg (by decide)).trans ((if_neg (by decide)).trans g6))))) ?_)))
            refine ⟨_, _, _, itv_list hA'.hd Lq11, by omega, PlM b₁₁ q lo to, ⟨rfl, by rw [List.take_zero]; exact .nil⟩, (fun j ys b'' j c hc o ho => by obtain ⟨rfl, _⟩ := j; exact ho), ?_, ?_⟩
            · rintro j ys b'' v C' hid' env' hj ⟨rfl, hy⟩ pv O'
              have hjl : j < q.length := by rw [← hqvl]; exact hj
              obtain ⟨tz, ez⟩ := Nq.get (List.getElem?_eq_getElem hjl)
              rw [ez] at pv
              cases pv
              have ht : (q.take (j + 1)).map (fun z => if z = to then lo else z) = (q.take j).map (fun z => if z = to then lo else z) ++ [if q[j] = to then lo else q[j]] := by
                rw [List.take_add_one, List.getElem?_eq_getElem hjl, Option.toList_some, List.map_append]; rfl
              refine e_ifexp (i_cmp (e_local O' rfl rfl (if_pos rfl) (e_cell O' rfl rfl ((if_neg (by decide)).trans ((if_pos rfl).trans ((if_neg (by decide)).trans (if_pos rfl)))) (c_eq_int ⟨_, rfl, fun hc => ?_, fun hc => ?_⟩ _ _))))
              · have hz : q[j] = to := Int.ofNat.inj (eq_of_beq hc)
                exact e_cell O' rfl rfl ((if_neg (by decide)).trans ((if_pos rfl).trans ((if_neg (by decide)).trans ((if_neg (by decide)).trans (if_pos rfl))))) ⟨rfl, by show Nums _ ((q.take (j + 1)).map fun z => if z = to then lo else z); rw [ht, if_pos hz]; exact hy.append (.one _ _)⟩
              · have hz : ¬ q[j] = to := fun e => by rw [e] at hc; simp at hc
                exact e_local O' rfl rfl (if_pos rfl) ⟨rfl, by show Nums _ ((q.take (j + 1)).map fun z => if z = to then lo else z); rw [ht, if_neg hz]; exact hy.append (.one _ _)⟩
            · rintro D2 ys b'' b₁₂ ⟨rfl, hy⟩ e₁₂ nD2 lD2
              rw [List.take_of_length_le (by omega)] at hy
              have e09 : Ext b b₉ := (e0.trans e₈).trans e₈₉
              have e012 : Ext b b₁₂ := ((e09.trans e₁₀).trans e₁₁).trans e₁₂
              refine s_cell Oi rfl rfl (t_nil (t_nil (hN1 _ _ _ ⟨rfl, ((((e₇.trans e₈).trans e₈₉).trans e₁₀).trans e₁₁).trans e₁₂, (if_neg (by decide)).trans ((if_neg (by decide)).trans ((if_neg (by decide)).trans ((if_neg (by decide)).trans ((if_neg (by decide)).trans ((if_neg (by decide)).trans g0))))), true, mrg q lo to, ⟨e012, (if_neg (by decide)).trans ((if_neg (by decide)).trans ((if_neg (by decide)).trans ((if_neg (by decide)).trans ((if_neg (by decide)).trans ((if_neg (by decide)).trans g2))))), (if_neg (by decide)).trans ((if_neg (by decide)).trans ((if_neg (by decide)).trans ((if_neg (by decide)).trans ((if_neg (by decide)).trans ((if_neg (by decide)).trans g3))))), (if_neg (by decide)).trans (if_pos rfl), pm.1, D2, if_pos rfl, ((e09.trans e₁₀).trans e₁₁).none nD2, ys, lD2, hy⟩, (fun h => by cases h), fun _ => ?_⟩)))
              have := pm.2
              cases nw with
              | true => have := j2 rfl; omega
              | false => obtain ⟨y1, _⟩ := j1 rfl; rw [← y1]; omega
          · obtain ⟨e₁₀, hL⟩ := h
            have hnl : ¬ Link rows told q one other := fun z => by rw [hL.mpr z] at hc; cases hc
            refine t_nil (t_nil (hN1 _ _ _ ⟨rfl, ((e₇.trans e₈).trans e₈₉).trans e₁₀, (if_neg (by decide)).trans ((if_neg (by decide)).trans g0), nw, q, ⟨((e0.trans e₈).trans e₈₉).trans e₁₀, (if_neg (by decide)).trans ((if_neg (by decide)).trans g2), (if_neg (by decide)).trans ((if_neg (by decide)).trans g3), (if_neg (by decide)).trans ((if_neg (by decide)).trans g4), g5, pa', (if_neg (by decide)).trans ((if_neg (by decide)).trans g6), g7, qvs, Lq.ext e₁₀, Nq⟩, fun hn => ?_, j2⟩))
            obtain ⟨y1, y2, y3⟩ := j1 hn
            refine ⟨y1, y2, fun y hy => ?_⟩
            by_cases hyo : y = other
            · subst y; rw [← y1]; exact hnl
            · exact y3 y (by omega)
      · rintro b₂ m₂ ⟨e₂', g0, nw, q, hS, j1, j2⟩
        refine t_nil (hN2 _ _ _ ⟨rfl, e₅.trans (e₆.trans e₂'), nw, q, hS, fun hn => ?_, j2⟩)
        obtain ⟨y1, y2, y3⟩ := j1 hn
        refine ⟨y1, fun x hx y hy => ?_, fun y hy => absurd hy (Nat.not_lt_zero _)⟩
        by_cases hxo : x = one
        · subst x; exact y3 y hy
        · exact y2 x (by omega) y hy
    · rintro b₂ m₂ ⟨e₂', nw, q, hS, j1, j2⟩
      refine t_nil ?_
      cases nw with
      | true => exact ⟨cnt q + 1, by have := j2 rfl; omega, true, q, hS, .inl ⟨rfl, rfl⟩⟩
      | false =>
        obtain ⟨y1, y2, _⟩ := j1 rfl
        subst y1
        exact ⟨0, by omega, false, q, hS, .inr ⟨rfl, rfl, closed_of hS.inv hkid ht y2⟩⟩
  · subst hnw
    rcases hi with ⟨h, _⟩ | ⟨_, _, hc⟩
    · cases h
    · exact t_cons (t_ret (e_cell O rfl rfl h4 (hQ _ _ ⟨e', pa, p, rfl, npa, Lp, hp, hc⟩)))
end
end Mine
end
section
open PySem PySem.W PyProof.Rows PySem.Calls PySem.Spec Builtin
set_option maxRecDepth 100000
set_option linter.unusedVariables false
namespace Mine
def findRow (rows : List (Str × List Nat)) (p : List Nat) (q : Str × List Nat) : Option Nat := rows.findIdx? fun r => decide (pk p r = q)
def seekRow (rows : List (Str × List Nat)) (p : List Nat) (op : Str) (cs : List (Option Nat)) : Option Nat := (allS cs).bind fun ks => (findRow rows p (op, ks)).map fun n => p.getD n 0
def placeF (rows : List (Str × List Nat)) (p : List Nat) (x y : Nat) : Pat → Option Nat
  | .var v => some (p.getD (tabOf x y v) 0)
  | .leaf a => seekRow rows p (Pat.leaf a).op []
  | .un op q => seekRow rows p op [placeF rows p x y q]
  | .bin q r => seekRow rows p "f" [placeF rows p x y q, placeF rows p x y r]
theorem place_parts (rows : List (Str × List Nat)) (p : List Nat) (x y : Nat) : ∀ (q : Pat), q.isVar = false → placeF rows p x y q = seekRow rows p q.op (q.kids.map (placeF rows p x y))
  | .var _, h => by cases h
  | .leaf a, _ => rfl
  | .un op q, _ => rfl
  | .bin q r, _ => rfl
def OptV (v : Value) : Option Nat → Prop
  | none => v = .none
  | some c => ∃ t, v = .int (Int.ofNat c) t
inductive OptsV : List Value → List (Option Nat) → Prop
  | nil : OptsV [] []
  | cons {v vs c cs} : OptV v c → OptsV vs cs → OptsV (v :: vs) (c :: cs)
theorem OptsV.push {vs : List Value} {cs : List (Option Nat)} (h : OptsV vs cs) {v : Value} {c : Option Nat} (hv : OptV v c) : OptsV (vs ++ [v]) (cs ++ [c]) := by
  induction h with
  | nil => exact .cons hv .nil
  | cons h1 _ ih => exact .cons h1 ih
theorem OptsV.length {vs : List Value} {cs : List (Option Nat)} (h : OptsV vs cs) : vs.length = cs.length := by
  induction h with
  | nil => rfl
  | cons _ _ ih => simp [ih]
def oD : Option Nat → PyData
  | none => .none
  | some c => .int (Int.ofNat c)
theorem OptV.rd {b : Heap} {v : Value} {c : Option Nat} (h : OptV v c) : RD b v (oD c) := by
  cases c with
  | none => have h' : v = .none := h; rw [h']; exact .none
  | some c => obtain ⟨t, rfl⟩ := h; exact .int ..
theorem OptsV.rd {b : Heap} {vs : List Value} {cs : List (Option Nat)} (h : OptsV vs cs) : RDs b vs (cs.map oD) := by
  induction h with
  | nil => exact .nil
  | cons h1 _ ih => exact .cons h1.rd ih
theorem okD_lot (op : Str) (cs : List (Option Nat)) (h : PyData.strOk op = true) : okD (.list (.str op :: cs.map oD)) = true := by
  have h1 : PyData.canLayAll0 (cs.map oD) = true ∧ PyData.depthAll (cs.map oD) = 0 := by
    induction cs with
    | nil => exact ⟨rfl, rfl⟩
    | cons c cs ih => rw [List.map_cons]; cases c <;> exact ⟨by rw [PyData.canLayAll0, ih.1]; rfl, by rw [PyData.depthAll, ih.2]; rfl⟩
  have h3 : PyData.canLayAll0 (.str op :: cs.map oD) = true := by rw [PyData.canLayAll0, PyData.canLay0, h, h1.1]; rfl
  have h4 : PyData.depthAll (.str op :: cs.map oD) = 0 := by rw [PyData.depthAll, h1.2]; rfl
  rw [okD, PyData.canLay0, h3, PyData.depth, h4]; rfl
theorem lot_any (op : Str) (cs : List (Option Nat)) : ((PyData.str op :: cs.map oD).any fun y => PyData.eqv y .none) = decide (none ∈ cs) := by
  rw [List.any_cons]
  have : PyData.eqv (.str op) .none = false := rfl
  rw [this, Bool.false_or]
  induction cs with
  | nil => rfl
  | cons c cs ih =>
    rw [List.map_cons, List.any_cons, ih]
    cases c with
    | none => simp [oD, PyData.eqv]
    | some c => simp [oD, PyData.eqv]
theorem goodOp.strOk {op : Str} (h : goodOp op) : PyData.strOk op = true := by rcases h with rfl | rfl | rfl | rfl | rfl <;> decide +kernel
section
variable {w : World} {G : Heap} {n : Nat} {o : Own}
inductive PlaceC (b₃ : Heap) (f : Pat → Option Nat) (qs : List Pat) (i : Nat) (ys : List Value) (b' : Heap) : Prop
  | mk (h1 : Ext b₃ b') (h2 : OptsV ys ((qs.take i).map f))
inductive PlaceJ (b₅ : Heap) (lt pl : Addr) (rows : List (Str × List Nat)) (ps : List Nat) (op : Str) (cs : List (Option Nat)) (i : Nat) (b' : Heap) (m' : Locs) : Prop
  | mk (h1 : Ext b₅ b') (h2 : m' "lot" = some (.ref lt)) (h3 : m' "places" = some (.ref pl)) (h4 : ∀ j, j < i → ∀ r, rows[j]? = some r → ∀ ks, allS cs = some ks → pk ps r ≠ (op, ks))
theorem PlaceJ.ext {b₅ : Heap} {lt pl : Addr} {rows : List (Str × List Nat)} {ps : List Nat} {op : Str} {cs : List (Option Nat)} {i : Nat} {b' : Heap} {m' : Locs} (h : PlaceJ b₅ lt pl rows ps op cs i b' m') : Ext b₅ b' := by cases h; assumption
set_option maxHeartbeats 4000000 in
theorem place_ (W : Wld (KK w) G) {rl pl tb : Addr} {rows : List (Str × List Nat)} {ps : List Nat} {x y : Nat} (hz : rows.length ≤ lim) (hpl : ps.length = rows.length) (hx : x < rows.length) (hy : y < rows.length)
    (hk : ∀ (i : Nat) (a : Str × List Nat), rows[i]? = some a → PyData.strOk a.1 = true ∧ a.2.length ≤ lim ∧ ∀ x ∈ a.2, x < rows.length) : ∀ (h : Nat) (p : Pat) {b : Heap} {A : Around} {v : Value}, p.high ≤ h → p.good → AOk (n + h + 3) A → Ok G b o →
    RowsL b rl rows → LsN b pl ps → TabAt w b o tb x y → PatAt b o p v →
    DT w G A (.call (.ref 461) ⟨[.ref rl, .ref pl, v, .ref tb], []⟩) b fun r b₁ => Ext b b₁ ∧ OptV r (placeF rows ps x y p) := by
  have lz := lim_size
  intro h
  induction h using Nat.strongRecOn with
  | _ h ih =>
  intro p b A v hp hg hA k R L T pv
  obtain ⟨a, t, vs, rfl, ho, l, pts⟩ := pv.parts
  have hvl := pts.length
  have hkl := p.kids_len
  refine call_defQ (binds := [("rows", .ref rl), ("places", .ref pl), ("pattern", .ref a), ("table", .ref tb)]) W (fn_place w) hA (fun _ _ _ _ _ => rfl) rfl fun Q hQ L' hid env O => ?_
  have hA' : AOk (n + h + 2) (A.deeper env) := hA.deeper env
  obtain ⟨F, nn, D, hFx, hFy, hFo⟩ := T.ex
  have hkey : ∀ t, (PySem.strKind PG w).is p.op (.str p.op t) = true := fun t => by simp [PySem.strKind, Value.isStrOf]
  have hin : (F p.op).isSome = p.isVar := by
    cases p with
    | var v =>
      obtain ⟨t1, h1⟩ := hFx
      obtain ⟨t2, h2⟩ := hFy
      cases v
      · show (F "?y").isSome = true; rw [h2]; rfl
      · show (F "?x").isSome = true; rw [h1]; rfl
    | leaf a => rw [hFo _ (by cases a <;> decide) (by cases a <;> decide)]; rfl
    | un op q => rw [hFo _ (by rcases hg.1 with h | h | h | h | h <;> (show op ≠ _; rw [h]; decide)) (by rcases hg.1 with h | h | h | h | h <;> (show op ≠ _; rw [h]; decide))]; rfl
    | bin q r => show (F "f").isSome = false; rw [hFo _ (show ("f" : Str) ≠ "?x" by decide) (show ("f" : Str) ≠ "?y" by decide)]; rfl
  refine t_cons (t_if (i_cmp (e_sub (ops := fun o i => [o, i]) (e_local O rfl rfl rfl (e_int fun t1 => ⟨l.sub, c_getItem_tuple (i := 0) l (by simp [sizeLine]; omega) rfl (e_cell O rfl rfl rfl (c_kd_in (k := p.op) D (hkey _) ?_ _ _)) _ _⟩)))))
  rw [hin]
  refine ⟨_, rfl, fun hv => ?_, fun hv => t_nil ?_⟩
  · cases p with
    | leaf _ => cases hv
    | un _ _ => cases hv
    | bin _ _ => cases hv
    | var vv =>
      obtain ⟨pvs, Lp, Np⟩ := L
      have hnl := Np.length
      have htl : tabOf x y vv < ps.length := by rw [hpl]; cases vv; exact hy; exact hx
      obtain ⟨t4, e4⟩ := Np.get (List.getElem?_eq_getElem htl)
      refine t_cons (t_ret (e_sub (ops := fun o i => [o, i]) (e_cell O rfl rfl rfl (e_sub (ops := fun o i => [o, i]) (e_cell O rfl rfl rfl (e_sub (ops := fun o i => [o, i]) (e_local O rfl rfl rfl (e_int fun t3 => ⟨l.sub, c_getItem_tuple (i := 0) l (by simp [sizeLine]; omega) rfl ⟨D.sub, c_tab T (fun t5 => ⟨Lp.sub, ?_⟩) _ _⟩ _ _⟩))))))))
      refine c_getItem_list Lp (Int.natCast_nonneg _) (by omega) e4 (hQ _ _ ⟨.refl, t4, ?_⟩) _ _
      simp [List.getD, List.getElem?_eq_getElem htl]
  · have hop := Pat.good_op hg hv
    have hsk := hop.strOk
    rw [place_parts rows ps x y p hv] at hQ
    refine t_cons (t_assign (e_binop (e_list (e_spl_cons (e_sub (ops := fun o i => [o, i]) (e_local O rfl rfl rfl (e_int fun t3 => ⟨l.sub, c_getItem_tuple (i := 0) l (by simp [sizeLine]; omega) rfl (e_spl_nil (c_newList (by simp [sizeLine]) (fun la b₁ e₁ n₁ l₁ => ?_) _ _)) _ _⟩)))))))
    refine e_comp O rfl rfl rfl rfl rfl rfl (fun p hp => by cases hp with | head => rfl | tail _ h => cases h with | head => rfl | tail _ h => rw [List.mem_singleton.mp h]; rfl) (e_sub (ops := fun o i => [i, o]) (e_local O rfl rfl rfl (e_slice_from (e_int fun t4 sl b₂ e₂ hs => ⟨((l.ext e₁).ext e₂).sub, c_slice_tuple ((l.ext e₁).ext e₂) hs (by simp [sizeLine]; omega) (fun sa b₃ e₃ n₃ l₃ => ?_) _ _⟩))))
    have e₀₃ : Ext b b₃ := e₁.trans (e₂.trans e₃)
    have v₃ : Mv (fun _ => False) b o b₃ o := .ext e₀₃
    have k₃ := k.ext e₀₃
    refine ⟨_, _, _, itv_tuple hA'.hd l₃, by simp [sizeLine]; omega, PlaceC b₃ (placeF rows ps x y) p.kids, ⟨.refl, by rw [List.take_zero]; exact .nil⟩, (fun i ys b' j c hc o ho => by obtain ⟨j, _⟩ := j; exact j c o ho), ?_, ?_⟩
    · rintro i ys b' v C' hid' env' hi' ⟨e', hy'⟩ pv O'
      have e₀ : Ext b b' := e₀₃.trans e'
      obtain ⟨q, hq, hqv⟩ := (pts.move (T := fun _ => False) (.ext e₀)).get pv
      have hqm : q ∈ p.kids := List.mem_of_getElem? hq
      have hqh := kids_high hqm
      refine e_call (e_global W O' rfl (g_law_place w) (e_callWith (keeps3_K W (k_law_place w)) (e_spl_cons (e_cell O' rfl rfl rfl (e_spl_cons (e_cell O' rfl rfl rfl (e_spl_cons (e_local O' rfl rfl rfl (e_spl_cons (e_cell O' rfl rfl rfl (e_spl_nil (CT.of_DT ((ih q.high (by omega) q (Nat.le_refl _) (Pat.good_kids hg q hqm) (hA'.mono (by first | exact lo rfl | omega)) (k.ext e₀) (R.ext e₀) (L.ext e₀) (T.move (T := fun _ => False) (.ext e₀)) hqv).mono ?_) _ _))))))))))))
      rintro r b₅ ⟨e₅, hr⟩
      refine ⟨e'.trans e₅, ?_⟩
      rw [List.take_add_one, hq, Option.toList_some, List.map_append]
      exact hy'.push hr
    · rintro D2 ys b' b₄ ⟨e', hy'⟩ e₄ nD lD
      rw [List.take_of_length_le (by omega)] at hy'
      generalize hcs : p.kids.map (placeF rows ps x y) = cs at hy' hQ
      have hyl := hy'.length
      have hcl : cs.length ≤ 2 := by rw [← hcs]; simpa using hkl
      have e₃₄ := e'.trans e₄
      refine c_add_list ((l₁.ext (e₂.trans e₃)).ext e₃₄) lD (by simp [sizeLine]; omega) (fun lt b₅ e₅ n₅ l₅ => s_local O rfl rfl ?_) _ _
      have e₀₅ : Ext b b₅ := (e₀₃.trans e₃₄).trans e₅
      obtain ⟨rvs, Lr, hrl, hr⟩ := R.ext e₀₅
      refine t_cons (t_for_enum hA'.hd (e_call (e_builtin W O rfl (b_enumerate w).1 (b_enumerate w).2 (by decide) (e_callWith keeps3_type (e_spl_cons (e_cell O rfl rfl rfl (e_spl_nil (c_enumerate Lr (fun e it b₆ e₆ ne ni ge gi hei he hit => ?_) _ _))))))))
      refine ⟨rl, rvs, e, it, rfl, he, hit, ge, gi, hei, ?_, ?_, Lr.ext e₆, PlaceJ b₅ lt pl rows ps p.op cs, ?_, ?_, ?_, ?_⟩
      · obtain ⟨z, hz⟩ := Lr.live; exact fun q => by rw [q, ne] at hz; cases hz
      · obtain ⟨z, hz⟩ := Lr.live; exact fun q => by rw [q, ni] at hz; cases hz
      · intro b₇ hb
        exact ⟨fun c o hc => hb c o (fun q => by rw [q, ne] at hc; cases hc) (fun q => by rw [q, ni] at hc; cases hc) (e₆ c o hc), if_pos rfl, rfl, fun j hj => absurd hj (Nat.not_lt_zero _)⟩
      · intro i b' m' hj o' ho'
        obtain ⟨z, hz⟩ := Lr.live
        have h1 := e₆ _ _ hz
        rw [h1] at ho'; cases ho'
        exact hj.ext _ _ hz
      · rintro i b' m' v T' t' l' ⟨j1, j2, j3, j4⟩ hvi b'' e'' hT'
        have Om := O.more l'
        have hil : i < rows.length := by rw [← hrl]; exact (List.getElem?_eq_some_iff.mp hvi).1
        obtain ⟨q, hq⟩ : ∃ q, rows[i]? = some q := ⟨_, List.getElem?_eq_getElem hil⟩
        obtain ⟨ra, hra, Rq⟩ := hr i q hq
        rw [hra] at hvi
        cases hvi
        obtain ⟨hs1, hk1, hb1⟩ := hk i q hq
        have e₅'' : Ext b₅ b'' := j1.trans e''
        refine t_into (l := [_, _]) (c_unpack_is hA'.hd hT' rfl (a_cons (s_name (s_local Om rfl rfl (a_cons (s_name (s_local Om rfl rfl (a_nil ?_))))))) _ _)
        have l₅'' := l₅.ext e₅''
        have rdl : RD b'' (.ref lt) (.list (.str p.op :: cs.map oD)) := .list l₅'' (.cons (.str ..) hy'.rd)
        have hu : ∀ {z : Str} {w' : Option Value}, m' z = w' → z ≠ "row" → z ≠ "n" → (if z = "row" then some (Value.ref ra) else if z = "n" then some (Value.int (Int.ofNat i) t') else m' z) = w' := fun h h1 h2 => (if_neg h1).trans ((if_neg h2).trans h)
        refine t_cons (t_if (i_boolop (i_and (i_cmp (e_none (e_local Om rfl rfl (hu j2 (by decide) (by decide)) (c_notin_data (n := n) (d := .none) (hA'.mono (by first | exact lo rfl | omega)) rdl .none (okD_lot _ _ hsk) rfl ?_ _ _)))))))
        rw [lot_any]
        refine ⟨_, rfl, fun c => ?_, fun c => ?_⟩
        · -- a part of it stands nowhere
          refine ⟨fun h => absurd h (by decide), fun _ => t_nil (t_nil ⟨e₅'', hu j2 (by decide) (by decide), hu j3 (by decide) (by decide), fun j hj r hr' ks hks => ?_⟩)⟩
          have hm : none ∈ cs := by
            have : decide (none ∈ cs) = true := by simpa using c
            exact of_decide_eq_true this
          rw [allS_some hks] at hm
          obtain ⟨z, _, hz⟩ := List.mem_map.mp hm
          cases hz
        · have hm : none ∉ cs := by
            have : decide (none ∈ cs) = false := by simpa using c
            exact of_decide_eq_false this
          obtain ⟨ks, hks⟩ : ∃ ks, allS cs = some ks := by
            cases e : allS cs with
            | some ks => exact ⟨ks, rfl⟩
            | none => exact absurd (allS_none e) hm
          have hcsk := allS_some hks
          refine i_and (i_cmp (e_spelt (n := n) W (hA'.mono (by first | exact lo rfl | omega)) Om rfl rfl rfl rfl rfl rfl (fun p hp => by rw [List.mem_singleton.mp hp]; rfl) rfl rfl rfl rfl (if_pos rfl) (hu j3 (by decide) (by decide)) (Rq.ext e₅'') (((L.ext e₀₅).ext e₅'')) (fun z hz => by rw [hpl]; exact hb1 z hz) (by omega) hk1 (fun c b₈ t8 us e₈ n₈ l₈ N₈ => ?_)))
          refine e_local Om rfl rfl (hu j2 (by decide) (by decide)) ?_
          have hrow : (PyData.str p.op :: cs.map oD) = rowD (p.op, ks) := by rw [hcsk, List.map_map]; rfl
          have rd1 : RD b₈ (.ref c) (.list (rowD (pk ps q))) := .list l₈ (.cons (.str ..) (.nums N₈))
          have rd2 := rdl.ext e₈
          rw [hrow] at rd2
          refine c_eq_data (n := n) (hA'.mono (by first | exact lo rfl | omega)) rd1 rd2 (okD_row (pk ps q) hs1).1 (okD_row (p.op, ks) hsk).1 ?_ _ _
          rw [keyD_eqv]
          refine ⟨_, rfl, fun c => ?_, fun c => i_and_nil ⟨fun _ => ?_, fun h => absurd h (by decide)⟩⟩
          · have hne := of_decide_eq_false c
            refine ⟨fun h => absurd h (by decide), fun _ => t_nil (t_nil ⟨e₅''.trans e₈, hu j2 (by decide) (by decide), hu j3 (by decide) (by decide), fun j hj r hr' ks' hks' => ?_⟩)⟩
            by_cases hji : j = i
            · subst j
              rw [hq] at hr'; cases hr'
              rw [hks] at hks'; cases hks'
              exact hne
            · exact j4 j (by omega) r hr' ks' hks'
          · have heq := of_decide_eq_true c
            have e₈' : Ext b b₈ := (e₀₅.trans e₅'').trans e₈
            obtain ⟨pvs, Lp, Np⟩ := L.ext e₈'
            have hnl := Np.length
            have hil' : i < ps.length := by omega
            obtain ⟨t9, e9⟩ := Np.get (List.getElem?_eq_getElem hil')
            refine t_cons (t_ret (e_sub (ops := fun o i => [o, i]) (e_cell Om rfl rfl (hu j3 (by decide) (by decide)) (e_local Om rfl rfl ((if_neg (by decide)).trans (if_pos rfl)) ⟨Lp.sub, c_getItem_list Lp (Int.natCast_nonneg _) (by omega) e9 (hQ _ _ ⟨e₈', ?_⟩) _ _⟩))))
            have hfind : findRow rows ps (p.op, ks) = some i := by
              unfold findRow
              rw [List.findIdx?_eq_some_iff_getElem]
              refine ⟨hil, ?_, fun j hj => ?_⟩
              · have : rows[i] = q := Option.some.inj ((List.getElem?_eq_getElem hil).symm.trans hq)
                rw [this]; exact decide_eq_true heq
              · have := j4 j hj _ (List.getElem?_eq_getElem (by omega)) ks hks
                simpa using this
            unfold seekRow
            rw [hks, Option.bind_some, hfind, Option.map_some]
            exact ⟨t9, by simp [List.getD, List.getElem?_eq_getElem hil']⟩
      · rintro b' m' ⟨j1, j2, j3, j4⟩
        refine t_cons (t_ret (e_none (hQ _ _ ⟨e₀₅.trans j1, ?_⟩)))
        rw [hrl] at j4
        have : seekRow rows ps p.op cs = none := by
          unfold seekRow
          cases e : allS cs with
          | none => rfl
          | some ks =>
            rw [Option.bind_some]
            have : findRow rows ps (p.op, ks) = none := by
              unfold findRow
              rw [List.findIdx?_eq_none_iff]
              intro r hr'
              obtain ⟨j, hj⟩ := List.mem_iff_getElem?.mp hr'
              have hjl := (List.getElem?_eq_some_iff.mp hj).1
              have := j4 j hjl r hj ks e
              simpa using this
            rw [this]; rfl
        rw [this]; rfl
end
end Mine
end
section
open PySem PySem.W
set_option maxRecDepth 100000
set_option linter.unusedVariables false
namespace Mine
/-- the states in which i more nodes can be put in -/
def AddN (N : Nat) (told : List (Nat × Nat)) (i : Nat) (S : St) : Prop := ∃ c, PutJ told S c ∧ S.nodes.length + i ≤ 900 ∧ c + 2 * i ≤ N
abbrev AddJ (told : List (Nat × Nat)) (i : Nat) (S : St) : Prop := AddN 30000 told i S
theorem addN_ok {N : Nat} (hN : N ≤ 45000) (told : List (Nat × Nat)) : AddOk (AddN N told) where
  fit := fun i S ⟨c, P, hn, hc⟩ => ⟨P.inv.fit (by omega) (by omega), Nat.le_trans P.inv.cs.2.2.1 (Nat.le_trans (Nat.le_trans (Nat.le_add_right _ _) hc) (Nat.le_trans hN (by decide)))⟩
  step := fun i S q ⟨c, P, hn, hc⟩ _ h2 hb => by
    have A := add_ok P.inv P.met P.wait h2 hb
    have hl := add_len A
    refine ⟨fun hq => ?_, ⟨c + 2, ⟨A.inv, A.met, A.wait⟩, by omega, by omega⟩, A.ext.n, add_num_lt A⟩
    have R := pre_ok P.inv P.met P.wait hq h2 hb
    have hpl : (S.pre q).nodes.length = S.nodes.length + 1 := by show (S.nodes ++ [q]).length = _; simp
    refine ⟨R.inv.fit (by omega) (by omega), R.inv.fit2 (by omega) (by omega) (by show S.wait.length ≤ _; rw [P.wait]; exact Nat.zero_le _), fun x hx => ?_⟩
    obtain ⟨us, hus⟩ := (P.inv.abv (root S.par x)).mpr (root_fix P.inv.le (by rw [P.inv.par]; exact hb x hx))
    exact ⟨us, hus, Nat.le_trans (P.inv.abvlen hus) (by have : lim = 100000 := rfl; omega)⟩
theorem addJ_ok (told : List (Nat × Nat)) : AddOk (AddJ told) := addN_ok (by decide) told
theorem putJ_zero : PutJ [] St.zero 0 := by
  refine ⟨⟨rfl, ?_, ?_, ?_, ?_, ?_, ?_, ?_, ?_, ?_, rfl, ?_, ?_, ?_, ?_⟩, ?_, rfl⟩ <;> try (intro i q h; simp [St.zero] at h; done)
  · intro f _ i p h; simp [St.zero] at h
  · intro i; simp [St.zero]
  · exact Nat.le_refl _
  · exact Nat.le_refl _
  · intro x h; simp [St.zero] at h
  · exact ⟨Nat.le_refl _, Nat.le_refl _, Nat.le_refl _, Nat.le_refl _, Nat.le_refl _⟩
section
variable {told : List (Nat × Nat)} {S : St} {c : Nat}
theorem ev_root (h : Inv told S c) (hf : Fit S) {x y : Nat} (hx : x < S.nodes.length) (hy : y < S.nodes.length) {p : Pat} {d : Nat} (hd : S.ev x y p = some d) : root S.par d = d := by
  have hr : ∀ i, i < S.nodes.length → root S.par (root S.par i) = root S.par i := fun i hi => root_root h.le (by rw [h.par]; exact hi)
  have hs : ∀ q : Str × List Nat, (S.known q).map (root S.par) = some d → root S.par d = d := fun q e => by
    obtain ⟨i, hi, rfl⟩ := Option.map_eq_some_iff.mp e
    exact hr i (hf.known _ _ hi)
  cases p with
  | var v =>
    simp only [St.ev, Option.some.injEq] at hd
    subst hd
    exact hr _ (by cases v; exact hy; exact hx)
  | leaf a => exact hs _ hd
  | un op p => simp only [St.ev] at hd; obtain ⟨_, _, hd⟩ := Option.bind_eq_some_iff.mp hd; exact hs _ hd
  | bin p q => simp only [St.ev] at hd; obtain ⟨_, _, hd⟩ := Option.bind_eq_some_iff.mp hd; obtain ⟨_, _, hd⟩ := Option.bind_eq_some_iff.mp hd; exact hs _ hd
theorem seek_same (P : PutJ told S c) (hc : Closed S.nodes told (root S.par)) {ps : List Nat} (hps : ∀ i, i < S.nodes.length → root S.par i = ps.getD i 0) {op : Str} {cs : List (Option Nat)} (hr : ∀ d, some d ∈ cs → root S.par d = d) : seekOf S op cs = seekRow S.nodes ps op cs := by
  unfold seekOf seekRow
  cases hks : allS cs with
  | none => rfl
  | some ks =>
    rw [Option.bind_some, Option.bind_some]
    have hcs := allS_some hks
    have hkr : ks.map (root S.par) = ks := by
      refine (List.map_congr_left fun z hz => ?_).trans (List.map_id _)
      exact hr z (by rw [hcs]; exact List.mem_map_of_mem hz)
    have hkey : S.key (op, ks) = (op, ks) := by show (op, ks.map (root S.par)) = _; rw [hkr]
    have hpk : ∀ (i : Nat) (q : Str × List Nat), S.nodes[i]? = some q → pk ps q = S.key q := fun i q hq => by
      unfold pk St.key
      congr 1
      exact List.map_congr_left fun z hz => (hps z (Nat.lt_trans ((P.inv.kids i q hq).2 z hz) (List.getElem?_eq_some_iff.mp hq).1)).symm
    rw [hkey]
    cases hk : S.known (op, ks) with
    | some j =>
      obtain ⟨kids, hn, hm⟩ := P.inv.known _ _ hk
      have hm' : kids.map (root S.par) = ks := (hm _ hc).trans hkr
      have hjk : S.key (op, kids) = (op, ks) := by show (op, kids.map (root S.par)) = _; rw [hm']
      cases hf : findRow S.nodes ps (op, ks) with
      | none =>
        unfold findRow at hf
        rw [List.findIdx?_eq_none_iff] at hf
        have := hf _ (List.mem_of_getElem? hn)
        rw [hpk j _ hn, hjk] at this
        simp at this
      | some i =>
        unfold findRow at hf
        obtain ⟨hi, hp, _⟩ := List.findIdx?_eq_some_iff_getElem.mp hf
        have hni : S.nodes[i]? = some S.nodes[i] := List.getElem?_eq_getElem hi
        have hpi := of_decide_eq_true hp
        rw [hpk i _ hni] at hpi
        rw [Option.map_some, Option.map_some]
        have : root S.par i = root S.par j := hc.like i j _ _ hni hn (by have := congrArg Prod.fst hpi; exact this) (by
          have h1 := congrArg Prod.snd hpi
          have h2 := congrArg Prod.snd hjk
          exact h1.trans h2.symm)
        rw [← this, hps i hi]
    | none =>
      cases hf : findRow S.nodes ps (op, ks) with
      | none => rfl
      | some i =>
        unfold findRow at hf
        obtain ⟨hi, hp, _⟩ := List.findIdx?_eq_some_iff_getElem.mp hf
        have hni : S.nodes[i]? = some S.nodes[i] := List.getElem?_eq_getElem hi
        have hpi := of_decide_eq_true hp
        rw [hpk i _ hni] at hpi
        obtain ⟨j, hj, _⟩ := met_at P.met P.wait hni
        rw [hpi, hk] at hj; cases hj
theorem ev_place (P : PutJ told S c) (hn : S.nodes.length ≤ 1000) (hcc : c ≤ 50000) (hc : Closed S.nodes told (root S.par)) {ps : List Nat} (hps : ∀ i, i < S.nodes.length → root S.par i = ps.getD i 0) {x y : Nat} (hx : x < S.nodes.length) (hy : y < S.nodes.length) :
    ∀ p : Pat, S.ev x y p = placeF S.nodes ps x y p
  | .var v => by
    simp only [St.ev, placeF]
    rw [hps _ (by cases v; exact hy; exact hx)]
  | .leaf a => by
    rw [ev_parts S x y (.leaf a) rfl]
    exact seek_same P hc hps (cs := []) (by simp)
  | .un op p => by
    rw [ev_parts S x y (.un op p) rfl]
    have h1 := ev_place P hn hcc hc hps hx hy p
    simp only [placeF, ← h1]
    exact seek_same P hc hps (cs := [S.ev x y p]) fun d hd => ev_root P.inv (P.inv.fit hn hcc) hx hy (p := p) (List.mem_singleton.mp hd).symm
  | .bin p q => by
    rw [ev_parts S x y (.bin p q) rfl]
    have h1 := ev_place P hn hcc hc hps hx hy p
    have h2 := ev_place P hn hcc hc hps hx hy q
    simp only [placeF, ← h1, ← h2]
    refine seek_same P hc hps (cs := [S.ev x y p, S.ev x y q]) fun d hd => ?_
    rcases List.mem_cons.mp hd with hd | hd
    · exact ev_root P.inv (P.inv.fit hn hcc) hx hy (p := p) hd.symm
    · exact ev_root P.inv (P.inv.fit hn hcc) hx hy (p := q) (List.mem_singleton.mp hd).symm
/-- a merge of a told pair -/
theorem merge_ok (h : Inv told S c) (hm : Met S fun _ => False) (ht : ∀ z ∈ told, root S.par z.1 = root S.par z.2) (htl : ∀ z ∈ told, z.1 < S.nodes.length ∧ z.2 < S.nodes.length) {x y : Nat} (hx : x < S.nodes.length) (hy : y < S.nodes.length) :
    Inv (told ++ [(x, y)]) (S.join x y) (c + 1) ∧ Met (S.join x y) (fun _ => False) ∧ (S.join x y).nodes = S.nodes ∧ (∀ z ∈ told ++ [(x, y)], root (S.join x y).par z.1 = root (S.join x y).par z.2) ∧ mu (S.join x y) ≤ mu S ∧ (S.join x y).wait.length ≤ S.wait.length + 2 * S.nodes.length := by
  have h' : Inv (told ++ [(x, y)]) S c := h.more fun f hf => closed_less (fun z hz => List.mem_append_left _ hz) hf
  by_cases hr : root S.par x = root S.par y
  · have e : S.join x y = { S with ec := S.ec + 1 } := by unfold St.join; rw [if_pos hr]
    rw [e]
    refine ⟨⟨h'.par, h'.le, h'.uniq, h'.kids, h'.sound, h'.known, h'.abv, h'.user, h'.abvb, h'.abvs, h'.lots, h'.lot, h'.lotsum, h'.wait, ?_⟩, hm, rfl, fun z hz => ?_, Nat.le_refl _, Nat.le_add_right _ _⟩
    · exact ⟨Nat.le_succ_of_le h.cs.1, Nat.le_succ_of_le h.cs.2.1, Nat.le_succ_of_le h.cs.2.2.1, Nat.succ_le_succ h.cs.2.2.2.1, Nat.le_succ_of_le h.cs.2.2.2.2⟩
    · rcases List.mem_append.mp hz with hz | hz
      · exact ht z hz
      · rw [List.mem_singleton.mp hz]; exact hr
  · obtain ⟨J, hlt⟩ := inv_join h' hx hy hr fun f hf => hf.told (x, y) (by simp)
    refine ⟨J.inv, J.met _ hm, J.nodes, fun z hz => ?_, by have := J.mu; omega, J.wait⟩
    rcases List.mem_append.mp hz with hz | hz
    · obtain ⟨h1, h2⟩ := htl z hz
      exact J.coarse.2 _ _ h1 h2 (ht z hz)
    · rw [List.mem_singleton.mp hz]
      show root (S.join x y).par x = root (S.join x y).par y
      rw [J.rt x hx, J.rt y hy]
      rcases Nat.le_total (root S.par x) (root S.par y) with hl | hl
      · rw [Nat.max_eq_right hl, Nat.min_eq_left hl, if_neg hr, if_pos rfl]
      · rw [Nat.max_eq_left hl, Nat.min_eq_right hl, if_pos rfl, if_neg fun e => hr e.symm]
end
end Mine
end
section
open PySem PySem.W PyProof.Rows PySem.Calls PySem.Spec Builtin
set_option maxRecDepth 100000
set_option linter.unusedVariables false
namespace Mine
/-! the law -/
noncomputable abbrev LN : List (Str × NameKind) := (scS (topS 20)).names
noncomputable abbrev LF (L' : Addr) (hid : List (Addr × Obj)) : Fram := ⟨L', cellsFrom (L' + 1) LN [], hid⟩
inductive RowsO (b : Heap) (o : Own) (rl : Addr) (rows : List (Str × List Nat)) : Prop
  | mk (vs : List Value) (l : OL b o .rows rl vs) (n : vs.length = rows.length) (k : ∀ (i : Nat) (q : Str × List Nat), rows[i]? = some q → ∃ a, vs[i]? = some (.ref a) ∧ FR b o a q)
theorem RowsO.move {T : Role → Prop} {b b₁ : Heap} {o o₁ : Own} {rl : Addr} {rows : List (Str × List Nat)} (h : RowsO b o rl rows) (m : Mv T b o b₁ o₁) (hT : ¬ T .rows) : RowsO b₁ o₁ rl rows := by
  obtain ⟨vs, l, n, k⟩ := h
  exact ⟨vs, l.move m hT, n, fun i q hq => (k i q hq).imp fun a h => ⟨h.1, h.2.move m⟩⟩
theorem RowsO.l {b : Heap} {o : Own} {rl : Addr} {rows : List (Str × List Nat)} (h : RowsO b o rl rows) : RowsL b rl rows := by
  obtain ⟨vs, l, n, k⟩ := h
  exact ⟨vs, l.ls, n, fun i q hq => (k i q hq).imp fun a h => ⟨h.1, h.2.row⟩⟩
inductive ToldO (b : Heap) (o : Own) (tl : Addr) (told : List (Nat × Nat)) : Prop
  | mk (vs : List Value) (l : OL b o .told tl vs) (n : vs.length = told.length) (k : ∀ (i : Nat) (x : Nat × Nat), told[i]? = some x → ∃ a t1 t2, vs[i]? = some (.ref a) ∧ o a = none ∧ Tp b a [.int (Int.ofNat x.1) t1, .int (Int.ofNat x.2) t2])
theorem ToldO.move {T : Role → Prop} {b b₁ : Heap} {o o₁ : Own} {tl : Addr} {told : List (Nat × Nat)} (h : ToldO b o tl told) (m : Mv T b o b₁ o₁) (hT : ¬ T .told) : ToldO b₁ o₁ tl told := by
  obtain ⟨vs, l, n, k⟩ := h
  exact ⟨vs, l.move m hT, n, fun i x hx => (k i x hx).imp fun a h => h.imp fun t1 h => h.imp fun t2 h => ⟨h.1, (tp_move h.2.2 h.2.1 m).2, (tp_move h.2.2 h.2.1 m).1⟩⟩
theorem ToldO.l {b : Heap} {o : Own} {tl : Addr} {told : List (Nat × Nat)} (h : ToldO b o tl told) : ToldL b tl told := by
  obtain ⟨vs, l, n, k⟩ := h
  exact ⟨vs, l.ls, n, fun i x hx => (k i x hx).imp fun a h => h.imp fun t1 h => h.imp fun t2 h => ⟨h.1, h.2.2⟩⟩
/-- the four things of the build, and their names -/
structure LS (w : World) (G b : Heap) (m : Locs) (o : Own) (M : Mem) (S : St) (d rl tl : Addr) (sm : Nat) (rows : List (Str × List Nat)) (told : List (Nat × Nat)) : Prop where
  ok : Ok G b o
  ra : RA w b o M S
  da : DealAt w b o d sm
  ro : RowsO b o rl rows
  to : ToldO b o tl told
  md : m "deal" = some (.ref d)
  mh : m "heap" = some (.ref M.h)
  mr : m "rows" = some (.ref rl)
  mt : m "told" = some (.ref tl)
section
variable {w : World} {G b : Heap} {A : Around} {n : Nat} {o : Own} {env : Env} {L' : Addr} {hid : List (Addr × Obj)} {m : Locs}
theorem c_slice_is {a sl : Addr} {vs : List Value} {n : Nat} {t : Tok} {P : Value → Heap → Prop} (x : b.IsList a vs.toArray) (y : b.IsSliceOf sl .none (.int n t) .none) (hz : vs.length ≤ sizeLine)
    (k : ∀ c b₁, Ext b b₁ → b.get? c = none → Ls b₁ c (vs.take n) → P (.ref c) b₁) : CT w G A (getItem (.ref a) (.ref sl)) b P := by
  obtain ⟨ob, hob, r⟩ := x
  exact CT.push (ob := fun _ => { cls := .type "list", data := .seq (slicePick vs.toArray none (some (n : Int)) none) }) (fun _ => rfl)
    (fun s Q E e _ q => wpAny_getItem_list_slice (items := vs.toArray) ⟨ob, e _ _ hob, r⟩ (isSliceOf_ext y e) .none (.int _ _) .none (fun h => nomatch h) (q 0 s.toks) (by simpa using hz)) fun c b₁ _ e nn z => k c b₁ e nn ⟨0, by rw [slicePick_take] at z; exact z⟩
theorem IsList.ext' {b b₁ : Heap} {a : Addr} {vs : Array Value} (x : b.IsList a vs) (e : Ext b b₁) : b₁.IsList a vs := let ⟨o, h, r⟩ := x; ⟨o, e _ _ h, r⟩
theorem isList_sub {a : Addr} {vs : Array Value} (x : b.IsList a vs) : Sub b (.ref a) := by
  obtain ⟨o, h, hc, r⟩ := x
  exact ⟨"list", _, fun s e => ⟨o, e _ _ h, hc⟩, PySem.F.slot_list_getitem.lookup⟩
theorem e_pt_nil {f : Fram} {pos : Pos} {P : List (Value × Value) → Heap → Prop} (k : P [] b) : ET w G A f (evalPairs (pairTrees [] [] env pos)) b m P := fun s Q E F c => pairTrees_nil_walk (c _ s.heap s.toks b F k)
theorem e_pt_cons {f : Fram} {ke v : PySem.Expr} {ks : List (Option PySem.Expr)} {vs : List PySem.Expr} {pos : Pos} {P : List (Value × Value) → Heap → Prop}
    (k : ET w G A f (eval ke env) b m fun kv b₁ => ET w G A f (eval v env) b₁ m fun vv b₂ => ET w G A f (evalPairs (pairTrees ks vs env pos)) b₂ m fun r => P ((kv, vv) :: r)) : ET w G A f (evalPairs (pairTrees (some ke :: ks) (v :: vs) env pos)) b m P :=
  fun s Q E F c => pairTrees_cons_walk (k s _ E F fun kv h₁ tk b₁ F₁ p => p _ _ E F₁ fun vv h₂ tk₂ b₂ F₂ p₂ => p₂ _ _ E F₂ fun r h₃ tk₃ b₃ F₃ p₃ => c _ h₃ tk₃ b₃ F₃ p₃)
set_option maxHeartbeats 4000000 in
/-- deal, heap, rows, told = .. -/
theorem law_a (W : Wld (KK w) G) (hA : AOk (n + 6) A) (O : EnvOk env (LF L' hid) LN) {sc : Addr} {vs : List Value} {P : Flow → Heap → Locs → Prop} {st : Stmt} (hst : (bodyS (topS 20))[0]? = some st) (k : Ok G b fun _ => none) (hs : m "script" = some (.ref sc)) (hl : b.IsList sc vs.toArray) (hi : Ints vs) (hz : vs.length ≤ lim)
    (K : ∀ b₁ m₁ o M d rl tl, LS w G b₁ m₁ o M St.zero d rl tl 0 [("a", []), ("b", [])] [] → P .next b₁ m₁) : TT w G A (LF L' hid) (exec st env) b m P := by
  have lz := lim_size
  cases hst
  have hkey : ∀ (s : Str) t, (PySem.strKind PG w).is s (.str s t) = true := fun s t => by simp [PySem.strKind, Value.isStrOf]
  refine t_assign_tuple (l := [_, _, _, _]) (hw := (swapped_of O _ _).trans rfl) (e_tuple (e_spl_cons (e_dict (knd := PySem.strKind PG w) W.nolimit fun d b₁ e₁ n₁ nm₁ D₁ => ?_)))
  refine e_pt_cons (e_str fun t1 => e_call (e_builtin W O rfl (b_list w).1 (b_list w).2 (by decide) (e_callWith keeps3_type (e_spl_cons (e_sub (ops := fun o i => [i, o]) (e_local O rfl rfl hs (e_slice_to (e_int fun t2 sl b₂ e₂ hsl => ⟨isList_sub (IsList.ext' (IsList.ext' hl e₁) e₂), ?_⟩))))))))
  refine c_slice_is (n := 70) (IsList.ext' (IsList.ext' hl e₁) e₂) hsl (by omega) (fun l1 b₃ e₃ n₃ l₃ => e_spl_nil (c_list_list l₃ (by rw [List.length_take]; omega) (fun cl b₄ e₄ n₄ l₄ => ?_) _ _)) _ _
  refine e_pt_cons (e_str fun t3 => e_int fun t4 => e_pt_nil ?_)
  have e₁₄ := (e₂.trans e₃).trans e₄
  refine ⟨[("cells", .ref cl), ("spent", .int 0 t4)], ⟨hkey _ _, rfl, hkey _ _, rfl, trivial⟩, D₁.ext e₁₄, k.new n₁, fun b₅ hb₅ D₅ => ?_⟩
  -- the deal, in its role
  have ncl : b.get? cl = none := (e₁.trans (e₂.trans e₃)).none n₄
  have hdl : ∃ z, b₁.get? d = some z := D₁.live
  have hcd : cl ≠ d := fun q => by obtain ⟨z, hz⟩ := hdl; rw [q] at n₄; have := (e₂.trans e₃) _ _ hz; rw [this] at n₄; cases n₄
  have e₀₅ : Ext b b₅ := fun c y hc => hb₅ c y (fun q => by rw [q, n₁] at hc; cases hc) (e₁₄ _ _ (e₁ _ _ hc))
  obtain ⟨od, hod⟩ := dictOf_live D₅
  have m₅ : Mv Hp b (fun _ => none) b₅ (give (fun _ => none) d .deal) := .give e₀₅ n₁ hod
  have k₅ := k.move m₅
  have D5 : DealAt w b₅ (give (fun _ => none) d .deal) d 0 := by
    refine ⟨_, 2, cl, vs.take 70, 0, t4, Nat.le_refl _, ⟨⟨⟨_, D₅, Nat.le_of_eq rfl, fun _ => rfl⟩, nm₁⟩, give_self ..⟩, by decide, ?_, ?_, give_other hcd, ?_, fun v hv => hi v (List.mem_of_mem_take hv), by rw [List.length_take]; omega⟩
    · rfl
    · rfl
    · obtain ⟨nn, h4⟩ := l₄; exact ⟨nn, hb₅ _ _ hcd h4⟩
  generalize hown : give (fun _ => none) d .deal = o₅ at k₅ D5 m₅
  -- the heap
  refine e_spl_cons (e_call (e_global W O rfl (g_Heap w) (e_callWith (keeps3_K W (mk_heap w).2.2.2) (e_spl_nil (call_class W (mk_heap w).1 (mk_heap w).2.1 (mk_heap w).2.2.1 (fun b₆ hx hdx e₆ n₆ n₆' ne₆ i₆ => ?_) _ _)))))
  refine (hp_init (n := n) W (AOk.under_make (n := n + 4) (hA.mono (by first | exact lo rfl | omega)) _ _) (mk_start k₅ e₆ n₆ n₆' ne₆ i₆)).mono ?_
  rintro _ b₇ ⟨rfl, o₇, M, rfl, m₇, R₇⟩
  refine ⟨rfl, ?_⟩
  have k₇ := k₅.move m₇
  have D7 := D5.move m₇ id
  -- the rows
  refine e_spl_cons (e_list (e_spl_cons (e_tuple (e_spl_cons (e_str fun t5 => e_spl_nil (c_newTuple (by simp [sizeLine]) (fun a1 b₈ e₈ n₈ l₈ => ?_) _ _))))))
  refine e_spl_cons (e_tuple (e_spl_cons (e_str fun t6 => e_spl_nil (c_newTuple (by simp [sizeLine]) (fun a2 b₉ e₉ n₉ l₉ => e_spl_nil (c_newList (by simp [sizeLine]) (fun rl ba ea na la => ?_) _ _)) _ _))))
  have k₈ := k₇.ext e₈
  have ka := k₈.ext e₉
  obtain ⟨oa, hoa⟩ := la.live
  have ma : Mv F0 b₉ o₇ ba (give o₇ rl .rows) := .give ea na hoa
  have kka := ka.move ma
  have f1 : FR b₉ o₇ a1 ("a", []) := ⟨⟨t5, [], l₈.ext e₉, .nil⟩, k₇.own_new n₈⟩
  have f2 : FR b₉ o₇ a2 ("b", []) := ⟨⟨t6, [], l₉, .nil⟩, k₈.own_new n₉⟩
  have Ra : RowsO ba (give o₇ rl .rows) rl [("a", []), ("b", [])] := by
    refine ⟨_, ⟨la, give_self ..⟩, rfl, fun i q hq => ?_⟩
    match i, hq with
    | 0, hq => cases hq; exact ⟨a1, rfl, f1.move ma⟩
    | 1, hq => cases hq; exact ⟨a2, rfl, f2.move ma⟩
  have m7a : Mv F0 b₇ o₇ ba (give o₇ rl .rows) := (Mv.ext (e₈.trans e₉)).trans ma
  refine e_spl_cons (e_list (e_spl_nil (c_newList (by simp) (fun tl bb eb nb lb => e_spl_nil (c_newTuple (by simp [sizeLine]) (fun ta bc ec nc lc => ?_) _ _)) _ _)))
  obtain ⟨ob, hob⟩ := lb.live
  have mb : Mv F0 ba (give o₇ rl .rows) bb (give (give o₇ rl .rows) tl .told) := .give eb nb hob
  have mc : Mv F0 bb (give (give o₇ rl .rows) tl .told) bc (give (give o₇ rl .rows) tl .told) := .ext ec
  have mbc := mb.trans mc
  have T0 : OL bb (give (give o₇ rl .rows) tl .told) .told tl [] := ⟨lb, give_self ..⟩
  refine c_unpack_tuple hA.hd lc rfl (a_cons (s_name (s_cell O rfl rfl (a_cons (s_name (s_cell O rfl rfl (a_cons (s_name (s_cell O rfl rfl (a_cons (s_name (s_local O rfl rfl (a_nil ?_))))))))))))) _ _
  refine K _ _ _ M d rl tl ⟨kka.move mbc, R₇.move (m7a.trans mbc) fun r h => h.elim, D7.move (m7a.trans mbc) id, Ra.move mbc id, ⟨[], T0.move mc id, rfl, fun i x hx => by simp at hx⟩, ?_, ?_, ?_, if_pos rfl⟩
  · exact (if_neg (by decide)).trans ((if_neg (by decide)).trans ((if_neg (by decide)).trans (if_pos rfl)))
  · exact (if_neg (by decide)).trans ((if_neg (by decide)).trans (if_pos rfl))
  · exact (if_neg (by decide)).trans (if_pos rfl)
end
end Mine
end
section
open PySem PySem.W PyProof.Rows PySem.Calls PySem.Spec Builtin
set_option maxRecDepth 100000
set_option linter.unusedVariables false
namespace Mine
/-- the two leaves -/
abbrev R0 : List (Str × List Nat) := [("a", []), ("b", [])]
section
variable {w : World} {G b : Heap} {A : Around} {n : Nat} {o : Own} {env : Env} {L' : Addr} {hid : List (Addr × Obj)} {m : Locs} {M : Mem} {S : St} {d rl tl : Addr} {sm : Nat} {rows : List (Str × List Nat)} {told : List (Nat × Nat)}
theorem LS.upd (h : LS w G b m o M S d rl tl sm rows told) {x : Str} {v : Option Value} (h1 : "deal" ≠ x) (h2 : "heap" ≠ x) (h3 : "rows" ≠ x) (h4 : "told" ≠ x) : LS w G b (fun y => if y = x then v else m y) o M S d rl tl sm rows told :=
  ⟨h.ok, h.ra, h.da, h.ro, h.to, (if_neg h1).trans h.md, (if_neg h2).trans h.mh, (if_neg h3).trans h.mr, (if_neg h4).trans h.mt⟩
theorem LS.ext (h : LS w G b m o M S d rl tl sm rows told) {b₁ : Heap} (e : Ext b b₁) : LS w G b₁ m o M S d rl tl sm rows told :=
  ⟨h.ok.ext e, h.ra.ext e, h.da.move (T := F0) (.ext e) id, h.ro.move (T := F0) (.ext e) id, h.to.move (T := F0) (.ext e) id, h.md, h.mh, h.mr, h.mt⟩
theorem LS.hp (h : LS w G b m o M S d rl tl sm rows told) {b₁ : Heap} {o₁ : Own} {S₁ : St} (mv : Mv Hp b o b₁ o₁) (R : RA w b₁ o₁ M S₁) : LS w G b₁ m o₁ M S₁ d rl tl sm rows told :=
  ⟨h.ok.move mv, R, h.da.move mv (by decide), h.ro.move mv (by decide), h.to.move mv (by decide), h.md, h.mh, h.mr, h.mt⟩
theorem LS.dl (h : LS w G b m o M S d rl tl sm rows told) {b₁ : Heap} {sm' : Nat} (mv : Mv Dl b o b₁ o) (D : DealAt w b₁ o d sm') : LS w G b₁ m o M S d rl tl sm' rows told :=
  ⟨h.ok.move mv, h.ra.move mv (fun r h => by rw [h]; rfl), D, h.ro.move mv (by decide), h.to.move mv (by decide), h.md, h.mh, h.mr, h.mt⟩
inductive JB (w : World) (G : Heap) (M : Mem) (d rl tl : Addr) (b₁ : Heap) (o : Own) (i : Nat) (b' : Heap) (m' : Locs) : Prop
  | mk (o' : Own) (S' : St) (h1 : Mv Hp b₁ o b' o') (h2 : LS w G b' m' o' M S' d rl tl 0 R0 []) (h3 : S'.nodes = R0.take i) (h4 : AddJ [] (102 - i) S')
/-- for op in ('a', 'b'): heap.add(op, ()) -/
theorem law_b (W : Wld (KK w) G) (hA : AOk (n + 8) A) (O : EnvOk env (LF L' hid) LN) {P : Flow → Heap → Locs → Prop} {st : Stmt} (hst : (bodyS (topS 20))[1]? = some st) (h : LS w G b m o M St.zero d rl tl 0 R0 [])
    (K : ∀ b₁ m₁ o₁ S₁, LS w G b₁ m₁ o₁ M S₁ d rl tl 0 R0 [] → S₁.nodes = R0 → AddJ [] 100 S₁ → P .next b₁ m₁) : TT w G A (LF L' hid) (exec st env) b m P := by
  cases hst
  refine t_for (e_tuple (e_spl_cons (e_str fun t1 => e_spl_cons (e_str fun t2 => e_spl_nil (c_newTuple (by simp [sizeLine]) (fun ta b₁ e₁ n₁ l₁ => ?_) _ _)))))
  have ota : o ta = none := h.ok.own_new n₁
  refine ⟨_, _, _, itv_tuple hA.hd l₁, JB w G M d rl tl b₁ o, ⟨o, St.zero, .refl, h.ext e₁, rfl, 0, putJ_zero, by decide, by decide⟩, ?_, ?_, ?_⟩
  · rintro i b' m' ⟨o', S', mv, _⟩ c hc z hz
    rw [List.mem_singleton.mp hc] at hz ⊢
    exact mv.keep (by simp [ota]) z hz
  · rintro i b' m' v l hi ⟨o', S', mv, h', hn, hj⟩ pv
    have Om := O.more l
    have hi2 : i < 2 := hi
    obtain ⟨op, t, rfl, hop, hq⟩ : ∃ op t, v = .str op t ∧ goodOp op ∧ R0[i]? = some (op, []) := by
      match i, hi2 with
      | 0, _ => exact ⟨"a", t1, (Option.some.inj pv).symm, by simp [goodOp], rfl⟩
      | 1, _ => exact ⟨"b", t2, (Option.some.inj pv).symm, by simp [goodOp], rfl⟩
    refine s_name (s_local Om rfl rfl ?_)
    have hJ := addJ_ok []
    have hj' : AddJ [] (101 - i + 1) S' := by rw [show 101 - i + 1 = 102 - i from (Nat.succ_sub (Nat.le_trans (Nat.le_of_lt hi2) (by decide))).symm]; exact hj
    have st := hJ.step (101 - i) S' (op, []) hj' hop (by simp) (by simp)
    have ft := hJ.fit _ _ hj
    refine t_cons (t_expr Om (e_mthc W Om rfl rfl ((if_neg (by decide)).trans h'.mh) h'.ra.h.inst.inst (m_heap_add w) rfl (e_spl_cons (e_local Om rfl rfl (if_pos rfl) (e_spl_cons (e_tuple (e_spl_nil (c_newTuple (by simp) (fun tb b₂ e₂ n₂ l₂ => ?_) _ _))))))))
    refine e_spl_nil (CT.of_DT ((hp_add (n := n) W (hA.mono (by first | exact lo rfl | omega)) (h'.ok.ext e₂) (h'.ra.ext e₂) ft.1 ft.2 hop (.inr l₂) (h'.ok.own_new n₂) (ks := []) .nil (by simp) (by simp) st.1).mono ?_))
    rintro _ b₃ ⟨⟨t3, rfl⟩, o₃, m₃, R₃⟩
    have hnone : numOf S'.nodes (op, []) = none := by
      rw [hn]
      match i, hi2, hq with
      | 0, _, hq => rfl
      | 1, _, hq => cases hq; decide
    refine ⟨nr_int, t_nil ⟨o₃, S'.add (op, []), mv.trans ((Mv.ext e₂).trans m₃), ((h'.ext e₂).upd (by decide) (by decide) (by decide) (by decide)).hp m₃ R₃, ?_, ?_⟩⟩
    · obtain ⟨c, Pj, _, _⟩ := hj
      have := (add_ok Pj.inv Pj.met Pj.wait (q := (op, [])) (by simp) (by simp)).nodes
      rw [if_pos hnone] at this
      rw [this, hn, List.take_add_one, hq]; rfl
    · rw [show 102 - (i + 1) = 101 - i from Nat.succ_sub_succ 101 i]; exact st.2.1
  · rintro b' m' ⟨o', S', mv, h', hn, hj⟩
    exact K b' m' o' S' h' hn hj
end
end Mine
end
section
open PySem PySem.W PyProof.Rows PySem.Calls PySem.Spec Builtin
set_option maxRecDepth 100000
set_option linter.unusedVariables false
namespace Mine
abbrev Bd (r : Role) : Prop := r.d < 3 ∨ r = .deal ∨ r = .rows
def RowsOk (rows : List (Str × List Nat)) : Prop := ∀ (i : Nat) (q : Str × List Nat), rows[i]? = some q → goodOp q.1
theorem numOf_none {nodes : List (Str × List Nat)} {q : Str × List Nat} (h : q ∉ nodes) : numOf nodes q = none := by
  unfold numOf
  rw [List.findIdx?_eq_none_iff]
  intro r hr
  exact decide_eq_false fun e => h (e ▸ hr)
theorem rowsD_any (rows : List (Str × List Nat)) (q : Str × List Nat) : ((rows.map fun r => PyData.tuple (rowD r)).any fun d => PyData.eqv d (.tuple (rowD q))) = decide (q ∈ rows) := by
  induction rows with
  | nil => simp
  | cons r rows ih =>
    rw [List.map_cons, List.any_cons, ih]
    have h : PyData.eqv (.tuple (rowD r)) (.tuple (rowD q)) = decide (q = r) := by
      have hi := eqv_iff (.tuple (rowD r)) (.tuple (rowD q)) (by rw [plainD, plain_row]) (by rw [plainD, plain_row])
      by_cases e : q = r
      · subst e; rw [decide_eq_true rfl]; exact hi.mpr rfl
      · rw [decide_eq_false e]
        cases hh : PyData.eqv (.tuple (rowD r)) (.tuple (rowD q)) with
        | false => rfl
        | true => exact absurd (rowD_inj (PyData.tuple.inj (hi.mp hh))).symm e
    rw [h]
    by_cases e : q = r
    · simp [e]
    · simp [e]
theorem okD_rows (rows : List (Str × List Nat)) (h : RowsOk rows) : okD (.list (rows.map fun r => PyData.tuple (rowD r))) = true := by
  have h0 : ∀ r ∈ rows, PyData.canLayAll0 (rowD r) = true ∧ PyData.depthAll (rowD r) = 0 := fun r hr => by
    obtain ⟨i, hi⟩ := List.mem_iff_getElem?.mp hr
    have h1 : ∀ ns : List Nat, PyData.canLayAll0 (ns.map fun n => .int (Int.ofNat n)) = true ∧ PyData.depthAll (ns.map fun n => .int (Int.ofNat n)) = 0 := fun ns => by
      induction ns with
      | nil => exact ⟨rfl, rfl⟩
      | cons n ns ih => rw [List.map_cons]; exact ⟨by rw [PyData.canLayAll0, ih.1]; rfl, by rw [PyData.depthAll, ih.2]; rfl⟩
    exact ⟨by rw [rowD, PyData.canLayAll0, PyData.canLay0, (h i r hi).strOk, (h1 r.2).1]; rfl, by rw [rowD, PyData.depthAll, (h1 r.2).2]; rfl⟩
  have hh : PyData.canLayAll0 (rows.map fun r => PyData.tuple (rowD r)) = true ∧ PyData.depthAll (rows.map fun r => PyData.tuple (rowD r)) ≤ 1 := by
    clear h
    induction rows with
    | nil => exact ⟨rfl, Nat.zero_le _⟩
    | cons r rows ih =>
      have h1 := h0 r (List.mem_cons_self ..)
      have h2 := ih fun r hr => h0 r (List.mem_cons_of_mem _ hr)
      rw [List.map_cons]
      exact ⟨by rw [PyData.canLayAll0, PyData.canLay0, h1.1, h2.1]; rfl, by rw [PyData.depthAll, PyData.depth, h1.2]; exact Nat.max_le.mpr ⟨Nat.le_refl _, h2.2⟩⟩
  rw [okD, PyData.canLay0, hh.1, PyData.depth, Bool.true_and, decide_eq_true_eq]; omega
theorem RowsL.rd {b : Heap} {rl : Addr} {rows : List (Str × List Nat)} (h : RowsL b rl rows) : RD b (.ref rl) (.list (rows.map fun r => PyData.tuple (rowD r))) := by
  obtain ⟨vs, l, n, k⟩ := h
  refine .list l ?_
  clear l
  induction rows generalizing vs with
  | nil => cases vs with | nil => exact .nil | cons _ _ => cases n
  | cons p rows ih =>
    cases vs with
    | nil => cases n
    | cons v vs =>
      obtain ⟨a, h1, h2⟩ := k 0 p rfl
      have hv : v = .ref a := by simpa using h1
      subst hv
      exact .cons h2.rd (ih vs (by simpa using n) fun i x hx => by simpa using k (i + 1) x (by simpa using hx))
section
variable {w : World} {G b : Heap} {A : Around} {n : Nat} {o : Own} {env : Env} {L' : Addr} {hid : List (Addr × Obj)} {m : Locs} {M : Mem} {S : St} {d rl tl : Addr} {sm : Nat} {rows : List (Str × List Nat)} {told : List (Nat × Nat)} {f : Fram} {ns : List (Str × NameKind)}
theorem ls_counted (W : Wld (KK w) G) (hA : AOk (n + 1) A) (h : LS w G b m o M S d rl tl sm rows told) (hsm : sm ≤ lim) {k : Nat} {t : Tok} (hk : 0 < k) {P : Value → Heap → Prop}
    (K : ∀ i t b₁, i < k → Mv Dl b o b₁ o → LS w G b₁ m o M S d rl tl (sm + 1) rows told → P (.int (Int.ofNat i) t) b₁) : CT w G A (call (.ref 444) [.ref d, .int (Int.ofNat k) t]) b P := by
  refine CT.of_DT ((counted_ (n := n) W hA h.ok h.da hsm hk).mono ?_)
  rintro _ b₁ ⟨⟨i, t1, rfl, hi⟩, m₁, D₁⟩
  exact K i t1 b₁ hi m₁ (h.dl m₁ D₁)
inductive JC (w : World) (G : Heap) (M : Mem) (d rl tl : Addr) (b₂ : Heap) (o : Own) (i : Nat) (b' : Heap) (m' : Locs) : Prop
  | mk (o' : Own) (S' : St) (rows' : List (Str × List Nat)) (sm' : Nat) (h1 : Mv Bd b₂ o b' o') (h2 : LS w G b' m' o' M S' d rl tl sm' rows' []) (h3 : S'.nodes = rows') (h4 : RowsOk rows') (h5 : AddJ [] (100 - i) S') (h6 : sm' ≤ 1 + 4 * i) (h7 : 2 ≤ rows'.length) (h8 : rows'.length ≤ 2 + i)
inductive JC2 (w : World) (d : Addr) (bA : Heap) (o₃ : Own) (sm₃ : Nat) (rows₃ : List (Str × List Nat)) (j : Nat) (ys : List Value) (b'' : Heap) : Prop
  | mk (h1 : Mv Dl bA o₃ b'' o₃) (h2 : DealAt w b'' o₃ d (sm₃ + 1 + j)) (ks : List Nat) (h3 : Nums ys ks) (h4 : ks.length = j) (h5 : ∀ x ∈ ks, x < rows₃.length)
set_option maxHeartbeats 4000000 in
/-- the rows' own build -/
theorem law_c (W : Wld (KK w) G) (hA : AOk (n + 8) A) (O : EnvOk env (LF L' hid) LN) {P : Flow → Heap → Locs → Prop} {st : Stmt} (hst : (bodyS (topS 20))[2]? = some st) (h : LS w G b m o M S d rl tl 0 R0 []) (hn : S.nodes = R0) (hj : AddJ [] 100 S)
    (K : ∀ b₁ m₁ o₁ S₁ sm rows, LS w G b₁ m₁ o₁ M S₁ d rl tl sm rows [] → S₁.nodes = rows → RowsOk rows → AddJ [] 90 S₁ → sm ≤ 100 → 2 ≤ rows.length → rows.length ≤ 7 → P .next b₁ m₁) : TT w G A (LF L' hid) (exec st env) b m P := by
  have lz := lim_size
  have hlim : lim = 100000 := rfl
  cases hst
  refine t_for (e_call (e_builtin W O rfl (b_range w).1 (b_range w).2 (by decide) (e_callWith keeps3_type (e_spl_cons (e_call (e_global W O rfl (g_law_counted w) (e_callWith (keeps3_K W (k_law_counted w)) (e_spl_cons (e_cell O rfl rfl h.md (e_spl_cons (e_int fun t1 => e_spl_nil (ls_counted (n := n) (k := 6) W (hA.mono (by first | exact lo rfl | omega)) h (by omega) (by decide) (fun cnt0 t2 b₁ hc0 m₁ h₁ => ?_) _ _))))))))))))
  refine e_spl_nil (c_rangeN (fun ra b₂ e₂ n₂ r₂ => ?_) _ _)
  have ora : o ra = none := h₁.ok.own_new n₂
  have h₂ := h₁.ext e₂
  refine ⟨_, _, _, itv_range hA.hd r₂ (by omega), JC w G M d rl tl b₂ o,
    ⟨o, S, R0, 1, .refl, h₂, hn, fun i q hq => ?_, hj, Nat.le_refl _, Nat.le_refl _, Nat.le_refl _⟩, ?_, ?_, ?_⟩
  · match i, hq with
    | 0, hq => cases hq; simp [goodOp]
    | 1, hq => cases hq; simp [goodOp]
  · rintro i b' m' ⟨o', S', _, _, mv, _⟩ c hc z hz
    rw [List.mem_singleton.mp hc] at hz ⊢
    exact mv.keep (by simp [ora]) z hz
  · rintro i b₃ m₃ v l hi ⟨o₃, S₃, rows₃, sm₃, mv, h₃, hn₃, hok₃, hj₃, hsm₃, h2₃, hl₃⟩ ⟨tv, rfl⟩
    have Om := O.more l
    have hi6 : i < 6 := Nat.lt_of_lt_of_le hi (Nat.le_of_lt hc0)
    refine s_name (s_local Om rfl rfl ?_)
    refine TT.hide (J := fun fl bb mm => fl = .next ∧ JC w G M d rl tl b₂ o (i + 1) bb mm) (by rintro _ _ _ ⟨rfl, h⟩; exact h) fun Q1 hN1 => ?_
    have h₃' : LS w G b₃ (fun y => if y = "turn" then some (.int (Int.ofNat i) tv) else m₃ y) o₃ M S₃ d rl tl sm₃ rows₃ [] := h₃.upd (by decide) (by decide) (by decide) (by decide)
    -- op, many = ..
    refine t_cons (t_assign_tuple (l := [_, _]) (e_sub (ops := fun o i => [o, i]) (e_list (e_spl_cons (e_tuple (e_spl_cons (e_str fun t3 => e_spl_cons (e_int fun t4 => e_spl_nil (c_newTuple (by simp [sizeLine]) (fun a1 b₄ e₄ n₄ l₄ => ?_) _ _)))))))))
    refine e_spl_cons (e_tuple (e_spl_cons (e_str fun t5 => e_spl_cons (e_int fun t6 => e_spl_nil (c_newTuple (by simp [sizeLine]) (fun a2 b₅ e₅ n₅ l₅ => ?_) _ _)))))
    refine e_spl_cons (e_tuple (e_spl_cons (e_str fun t7 => e_spl_cons (e_int fun t8 => e_spl_nil (c_newTuple (by simp [sizeLine]) (fun a3 b₆ e₆ n₆ l₆ => e_spl_nil (c_newList (by simp [sizeLine]) (fun la b₇ e₇ n₇ l₇ => ?_) _ _)) _ _)))))
    have h₄ := h₃'.ext e₄
    have h₅ := h₄.ext e₅
    have h₆ := h₅.ext e₆
    have h₇ := h₆.ext e₇
    refine e_call (e_global W Om rfl (g_law_counted w) (e_callWith (keeps3_K W (k_law_counted w)) (e_spl_cons (e_cell Om rfl rfl h₇.md (e_spl_cons (e_int fun t9 => e_spl_nil (ls_counted (n := n) (k := 3) W (hA.mono (by first | exact lo rfl | omega)) h₇ (by omega) (by decide) (fun j tj b₈ hj3 m₈ h₈ => ?_) _ _)))))))
    have L8 := ls_move l₇ (h₆.ok.own_new n₇) m₈
    obtain ⟨aj, op, many, tp, tm, hlj, Tj, hop, hmany⟩ : ∃ aj op many tp tm, ([.ref a1, .ref a2, .ref a3] : List Value)[j]? = some (.ref aj) ∧ Tp b₈ aj [.str op tp, .int (Int.ofNat many) tm] ∧ goodOp op ∧ many ≤ 2 := by
      match j, hj3 with
      | 0, _ => exact ⟨a1, "f", 1, t3, t4, rfl, (tp_move (((l₄.ext e₅).ext e₆).ext e₇) (h₃'.ok.own_new n₄) m₈).1, by simp [goodOp], by decide⟩
      | 1, _ => exact ⟨a2, "f", 2, t5, t6, rfl, (tp_move ((l₅.ext e₆).ext e₇) (h₄.ok.own_new n₅) m₈).1, by simp [goodOp], by decide⟩
      | 2, _ => exact ⟨a3, "g", 1, t7, t8, rfl, (tp_move (l₆.ext e₇) (h₅.ok.own_new n₆) m₈).1, by simp [goodOp], by decide⟩
    refine ⟨L8.1.sub, c_getItem_list L8.1 (Int.natCast_nonneg _) (by simp [sizeLine]) hlj ?_ _ _⟩
    refine c_unpack_tuple hA.hd Tj rfl (a_cons (s_name (s_local Om rfl rfl (a_cons (s_name (s_local Om rfl rfl (a_nil ?_))))))) _ _
    have h₈' : LS w G b₈ (fun y => if y = "many" then some (.int (Int.ofNat many) tm) else if y = "op" then some (.str op tp) else if y = "turn" then some (.int (Int.ofNat i) tv) else m₃ y) o₃ M S₃ d rl tl (sm₃ + 1) rows₃ [] :=
      (h₈.upd (x := "op") (v := some (.str op tp)) (by decide) (by decide) (by decide) (by decide)).upd (by decide) (by decide) (by decide) (by decide)
    -- row = ..
    refine t_cons (t_assign (e_node W Om rfl (b_tuple w).1 (b_tuple w).2 (e_local Om rfl rfl ((if_neg (by decide)).trans (if_pos rfl)) fun ta b₉ e₉ n₉ l₉ => ?_)))
    have h₉ := h₈'.ext e₉
    have ota : o₃ ta = none := h₈'.ok.own_new n₉
    refine e_comp Om rfl rfl rfl rfl rfl rfl (fun p hp => by cases hp with | head => rfl | tail _ h => rw [List.mem_singleton.mp h]; rfl) (e_call (e_builtin W Om rfl (b_range w).1 (b_range w).2 (by decide) (e_callWith keeps3_type (e_spl_cons (e_local Om rfl rfl (if_pos rfl) (e_spl_nil (c_rangeN (fun rb bA eA nA rA => ?_) _ _))))))) 
    have hA₁ := h₉.ext eA
    have orb : o₃ rb = none := h₉.ok.own_new nA
    refine ⟨_, _, _, itv_range hA.hd rA (by omega), by omega, JC2 w d bA o₃ sm₃ rows₃, ⟨.refl, hA₁.da, [], .nil, rfl, by intro x hx; cases hx⟩, ?_, ?_, ?_⟩
    · rintro j ys b'' ⟨mvd, _⟩ c hc z hz
      rw [List.mem_singleton.mp hc] at hz ⊢
      exact mvd.keep (by simp [orb]) z hz
    · rintro j ys b'' v C' hid' env' hjm ⟨mvd, hD, ks, hN, hkl, hkb⟩ pv O'
      have hB := hA₁.dl mvd hD
      obtain ⟨rvs, Lr, hrl, _⟩ := hB.ro
      refine e_call (e_global W O' rfl (g_law_counted w) (e_callWith (keeps3_K W (k_law_counted w)) (e_spl_cons (e_cell O' rfl rfl (hB.md) (e_spl_cons (e_len W O' rfl (b_len w).1 (e_cell O' rfl rfl (hB.mr) ⟨rl, rvs, rfl, Lr.ls, by omega, fun t9 => ?_⟩) (b_len w).2))))))
      rw [hrl]
      refine e_spl_nil (ls_counted (n := n) W (hA.mono (by first | exact lo rfl | omega)) hB (by omega) (by omega) (fun z tz bC hz mC hC => ?_) _ _)
      exact ⟨mvd.trans mC, hC.da, ks ++ [z], hN.append (.one _ _), by simp [hkl], fun x hx => (List.mem_append.mp hx).elim (hkb x) fun hx => by rw [List.mem_singleton.mp hx]; exact hz⟩
    · rintro D ys bB bC ⟨mvd, hD, ks, hN, hkl, hkb⟩ eC nD lD
      have hB := hA₁.dl mvd hD
      have hC := hB.ext eC
      have hyl := hN.length
      refine ⟨D, ys, rfl, .inl lD, by omega, ?_, fun bE ra eE hra lE => ?_⟩
      · exact ((tp_move (l₉.ext eA) ota mvd).1).ext eC
      have hE := hC.ext eE
      have ora2 : o₃ ra = none := hra.elim (fun h => hC.ok.own_new h) fun h => h ▸ ota
      have frE : FR bE o₃ ra (op, ks) := ⟨⟨_, ys, lE, hN⟩, ora2⟩
      refine s_local Om rfl rfl ?_
      have hE' := hE.upd (x := "row") (v := some (.ref ra)) (by decide) (by decide) (by decide) (by decide)
      have hks : ks.length ≤ 2 := by omega
      -- if row not in rows
      refine t_cons (t_if (i_cmp (e_local Om rfl rfl (if_pos rfl) (e_cell Om rfl rfl hE'.mr (c_notin_data (n := n) (d := .tuple (rowD (op, ks))) (hA.mono (by first | exact lo rfl | omega)) hE.ro.l.rd frE.row.rd (okD_rows _ hok₃) (okD_row (op, ks) hop.strOk).2 ?_ _ _)))))
      rw [rowsD_any]
      refine ⟨_, rfl, fun c => ?_, fun c => t_nil (t_nil ?_)⟩
      · have hnin : (op, ks) ∉ rows₃ := by
          have : decide ((op, ks) ∈ rows₃) = false := by simpa using c
          exact of_decide_eq_false this
        obtain ⟨rvs, Lr, hrl, hrq⟩ := hE.ro
        refine t_cons (t_expr Om (e_lmeth PySem.F.slot_list_append PySem.F.type_list_append (e_cell Om rfl rfl hE'.mr ⟨rl, rvs, rfl, Lr.ls, e_spl_cons (e_local Om rfl rfl (if_pos rfl) (e_spl_nil (o_append hE.ok Lr (by omega) (fun bF mF LrF => ⟨nr_none, ?_⟩) _ _)))⟩)))
        have roF : RowsO bF o₃ rl (rows₃ ++ [(op, ks)]) := by
          refine ⟨_, LrF, by simp [hrl], fun i q hq => ?_⟩
          by_cases hi : i < rows₃.length
          · rw [List.getElem?_append_left hi] at hq
            obtain ⟨a, h1, h2⟩ := hrq i q hq
            exact ⟨a, by rw [List.getElem?_append_left (by rw [hrl]; exact hi)]; exact h1, h2.move mF⟩
          · have hil := (List.getElem?_eq_some_iff.mp hq).1
            simp at hil
            have : i = rows₃.length := by omega
            subst this
            simp at hq
            subst hq
            exact ⟨ra, by rw [← hrl]; simp, frE.move mF⟩
        have hF : LS w G bF (fun y => if y = "row" then some (.ref ra) else if y = "many" then some (.int (Int.ofNat many) tm) else if y = "op" then some (.str op tp) else if y = "turn" then some (.int (Int.ofNat i) tv) else m₃ y) o₃ M S₃ d rl tl (sm₃ + 1 + many) (rows₃ ++ [(op, ks)]) [] :=
          ⟨hE.ok.move mF, hE.ra.ext .refl |>.move (T := fun q => q = .rows) mF fun r h => by rw [h]; rfl, hE'.da.move mF (by decide), roF, hE'.to.move mF (by decide), hE'.md, hE'.mh, hE'.mr, hE'.mt⟩
        have lF := (tp_move lE ora2 mF).1
        have hJ := addJ_ok []
        have hj' : AddJ [] (99 - i + 1) S₃ := by rw [show 99 - i + 1 = 100 - i from (Nat.succ_sub (Nat.le_trans (Nat.le_of_lt hi6) (by decide))).symm]; exact hj₃
        have hkb' : ∀ z ∈ ks, z < S₃.nodes.length := fun z hz => by rw [hn₃]; exact hkb z hz
        have st := hJ.step (99 - i) S₃ (op, ks) hj' hop hks hkb'
        have ft := hJ.fit _ _ hj₃
        refine t_cons (t_expr Om (e_mthc W Om rfl rfl hF.mh hF.ra.h.inst.inst (m_heap_add w) rfl (e_spl_cons (e_local Om rfl rfl ((if_neg (by decide)).trans ((if_neg (by decide)).trans (if_pos rfl))) (e_spl_cons (e_sub (ops := fun o i => [i, o]) (e_local Om rfl rfl (if_pos rfl) (e_slice_from (e_int fun t10 sl bG eG hs => ⟨(lF.ext eG).sub, c_slice_tuple (lF.ext eG) hs (by omega) (fun sa bH eH nH lH => ?_) _ _⟩)))))))))
        have hH := (hF.ext eG).ext eH
        have osa : o₃ sa = none := (hF.ext eG).ok.own_new nH
        refine e_spl_nil (CT.of_DT ((hp_add (n := n) W (hA.mono (by first | exact lo rfl | omega)) hH.ok hH.ra ft.1 ft.2 hop (.inr lH) osa hN hks hkb' st.1).mono ?_))
        rintro _ bI ⟨⟨t11, rfl⟩, oI, mI, RI⟩
        have hnone : numOf S₃.nodes (op, ks) = none := by rw [hn₃]; exact numOf_none hnin
        have hI := hH.hp mI RI
        have mvE : Mv Bd b₃ o₃ bE o₃ := by
          have x1 : Mv Bd b₃ o₃ b₇ o₃ := .ext (((e₄.trans e₅).trans e₆).trans e₇)
          have x2 : Mv Bd b₇ o₃ b₈ o₃ := m₈.weak fun r h => .inr (.inl h)
          have x3 : Mv Bd b₈ o₃ bA o₃ := .ext (e₉.trans eA)
          have x4 : Mv Bd bA o₃ bB o₃ := mvd.weak fun r h => .inr (.inl h)
          exact x1.trans (x2.trans (x3.trans (x4.trans (.ext (eC.trans eE)))))
        have mvI : Mv Bd bE o₃ bI oI := (mF.weak fun r h => .inr (.inr h)).trans ((Mv.ext (eG.trans eH)).trans (mI.weak fun r h => .inl h))
        refine ⟨nr_int, t_nil (t_nil (hN1 _ _ _ ⟨rfl, oI, _, rows₃ ++ [(op, ks)], _, mv.trans (mvE.trans mvI), hI, ?_, fun k q hq => ?_, ?_, by omega, by simp; omega, by simp; omega⟩))⟩
        · obtain ⟨c, Pj, _, _⟩ := hj₃
          have := (add_ok Pj.inv Pj.met Pj.wait (q := (op, ks)) hks hkb').nodes
          rw [if_pos hnone] at this
          rw [this, hn₃]
        · by_cases hk : k < rows₃.length
          · rw [List.getElem?_append_left hk] at hq; exact hok₃ k q hq
          · have hil := (List.getElem?_eq_some_iff.mp hq).1
            simp at hil
            have : k = rows₃.length := by omega
            subst this
            simp at hq
            subst hq
            exact hop
        · rw [show 100 - (i + 1) = 99 - i from Nat.succ_sub_succ 99 i]; exact st.2.1
      · have mvE : Mv Bd b₃ o₃ bE o₃ := by
          have x1 : Mv Bd b₃ o₃ b₇ o₃ := .ext (((e₄.trans e₅).trans e₆).trans e₇)
          have x2 : Mv Bd b₇ o₃ b₈ o₃ := m₈.weak fun r h => .inr (.inl h)
          have x3 : Mv Bd b₈ o₃ bA o₃ := .ext (e₉.trans eA)
          have x4 : Mv Bd bA o₃ bB o₃ := mvd.weak fun r h => .inr (.inl h)
          exact x1.trans (x2.trans (x3.trans (x4.trans (.ext (eC.trans eE)))))
        obtain ⟨c, Pj, q1, q2⟩ := hj₃
        exact hN1 _ _ _ ⟨rfl, o₃, S₃, rows₃, _, mv.trans mvE, hE', hn₃, hok₃, ⟨c, Pj, Nat.le_trans (Nat.add_le_add_left (Nat.sub_le_sub_left (Nat.le_succ i) 100) _) q1, Nat.le_trans (Nat.add_le_add_left (Nat.mul_le_mul_left 2 (Nat.sub_le_sub_left (Nat.le_succ i) 100)) c) q2⟩, by omega, h2₃, by omega⟩
  · rintro b' m' ⟨o', S', rows', sm', mv, h', hn', hok', hj', hsm', h2', hl'⟩
    have hc : cnt0 ≤ 5 := by omega
    refine K b' m' o' S' sm' rows' h' hn' hok' ?_ (by omega) h2' (by omega)
    obtain ⟨c, Pj, h1, h2⟩ := hj'
    exact ⟨c, Pj, by omega, by omega⟩
end
end Mine
end
section
open PySem PySem.W PyProof.Rows PySem.Calls PySem.Spec Builtin
set_option maxRecDepth 100000
set_option linter.unusedVariables false
namespace Mine
/-- what is told, joined -/
structure ToldJ (told : List (Nat × Nat)) (S : St) (rows : List (Str × List Nat)) (c : Nat) : Prop where
  inv : Inv told S c
  met : Met S fun _ => False
  nodes : S.nodes = rows
  eq : ∀ z ∈ told, root S.par z.1 = root S.par z.2
  lt : ∀ z ∈ told, z.1 < rows.length ∧ z.2 < rows.length
  mu : mu S ≤ 200
theorem tot_le1 {g : Nat → Nat} {n : Nat} (h : ∀ i, g i ≤ 1) : tot g n ≤ n := by
  induction n with
  | zero => exact Nat.le_refl _
  | succ n ih => rw [tot]; have := h n; omega
theorem mu_le {S : St} (hw : S.wait = []) (hs : S.nodes.length ≤ 7) : mu S ≤ 200 := by
  have hr : rootsN S ≤ S.nodes.length := tot_le1 fun i => by split <;> omega
  unfold Mine.mu
  rw [hw]
  have h3 : rootsN S * (2 * S.nodes.length + 1) ≤ 7 * 15 := Nat.mul_le_mul (by omega) (by omega)
  show 0 + _ ≤ _
  omega
theorem ToldJ.start {S : St} {rows : List (Str × List Nat)} (hj : AddJ [] 90 S) (hn : S.nodes = rows) (h7 : rows.length ≤ 7) : ∃ c, c ≤ 29820 ∧ ToldJ [] S rows c := by
  obtain ⟨c, P, h1, h2⟩ := hj
  exact ⟨c, by omega, P.inv, P.met, hn, by simp, by simp, mu_le P.wait (by rw [hn]; exact h7)⟩
theorem ToldJ.merge {told : List (Nat × Nat)} {S : St} {rows : List (Str × List Nat)} {c x y : Nat} (h : ToldJ told S rows c) (hx : x < rows.length) (hy : y < rows.length) : ToldJ (told ++ [(x, y)]) (S.join x y) rows (c + 1) := by
  obtain ⟨h1, h2, h3, h4, h5, h6⟩ := merge_ok h.inv h.met h.eq (fun z hz => by rw [h.nodes]; exact h.lt z hz) (x := x) (y := y) (by rw [h.nodes]; exact hx) (by rw [h.nodes]; exact hy)
  refine ⟨h1, h2, h3.trans h.nodes, h4, fun z hz => ?_, Nat.le_trans h5 h.mu⟩
  rcases List.mem_append.mp hz with hz | hz
  · exact h.lt z hz
  · rw [List.mem_singleton.mp hz]; exact ⟨hx, hy⟩
theorem ToldJ.fit {told : List (Nat × Nat)} {S : St} {rows : List (Str × List Nat)} {c : Nat} (h : ToldJ told S rows c) (h7 : rows.length ≤ 7) (hc : c ≤ 40000) : Fit S ∧ Fit2 S := by
  have hs : S.nodes.length ≤ 7 := by rw [h.nodes]; exact h7
  have hw : S.wait.length ≤ Mine.mu S := by unfold Mine.mu; omega
  have := h.mu
  exact ⟨h.inv.fit (by omega) (by omega), h.inv.fit2 (by omega) (by omega) (by omega)⟩
abbrev Be (r : Role) : Prop := r.d < 3 ∨ r = .deal ∨ r = .told
section
variable {w : World} {G b : Heap} {A : Around} {n : Nat} {o : Own} {env : Env} {L' : Addr} {hid : List (Addr × Obj)} {m : Locs} {M : Mem} {S : St} {d rl tl : Addr} {sm : Nat} {rows : List (Str × List Nat)} {told : List (Nat × Nat)} {f : Fram} {ns : List (Str × NameKind)}
theorem c_getItem_last {a : Addr} {vs : List Value} {i : Int} {u : Tok} {v : Value} {P : Value → Heap → Prop} (x : Ls b a (vs ++ [v])) (hi : i = -1) (k : P v b) :
    CT w G A (getItem (.ref a) (.int i u)) b P := CT.still fun s Q E e _ q => by
  subst hi
  exact wpAny_getItem_list_neg (x.ext e).is (by decide) (by simp; omega) (by decide) (by rw [show (-1 + ((vs ++ [v]).toArray.size : Int)).toNat = vs.length by simp; omega]; simp) (q _ s.toks k)
theorem c_add_str {x y : Str} {t u : Tok} {P : Value → Heap → Prop} (hz : x.length + y.length ≤ sizeLine) (k : ∀ t, P (.str (x ++ y) t) b) : CT w G A (binaryOp .Add (.str x t) (.str y u)) b P :=
  CT.still fun s Q E _ _ q => PyProof.Rows.add_str (fun t' tk => q _ _ (k _)) hz
inductive JD (w : World) (G : Heap) (M : Mem) (d rl tl : Addr) (sm : Nat) (rows : List (Str × List Nat)) (b₂ : Heap) (o : Own) (c0 : Nat) (i : Nat) (b' : Heap) (m' : Locs) : Prop
  | mk (o' : Own) (S' : St) (told' : List (Nat × Nat)) (sm' c' : Nat) (h1 : Mv Be b₂ o b' o') (h2 : LS w G b' m' o' M S' d rl tl sm' rows told') (h3 : ToldJ told' S' rows c') (h4 : c' ≤ c0 + i) (h5 : sm' ≤ sm + 1 + 2 * i) (h6 : told'.length = i)
set_option maxHeartbeats 4000000 in
theorem law_d (W : Wld (KK w) G) (hA : AOk (n + 8) A) (O : EnvOk env (LF L' hid) LN) {P : Flow → Heap → Locs → Prop} {st : Stmt} (hst : (bodyS (topS 20))[3]? = some st) (h : LS w G b m o M S d rl tl sm rows []) (hn : S.nodes = rows) (hj : AddJ [] 90 S) (hsm : sm ≤ 100) (h2 : 2 ≤ rows.length) (h7 : rows.length ≤ 7)
    (K : ∀ b₁ m₁ o₁ S₁ sm told c, LS w G b₁ m₁ o₁ M S₁ d rl tl sm rows told → ToldJ told S₁ rows c → c ≤ 29830 → sm ≤ 110 → told.length ≤ 2 → P .next b₁ m₁) : TT w G A (LF L' hid) (exec st env) b m P := by
  have lz := lim_size
  have hlim : lim = 100000 := rfl
  cases hst
  refine t_for (e_call (e_builtin W O rfl (b_range w).1 (b_range w).2 (by decide) (e_callWith keeps3_type (e_spl_cons (e_call (e_global W O rfl (g_law_counted w) (e_callWith (keeps3_K W (k_law_counted w)) (e_spl_cons (e_cell O rfl rfl h.md (e_spl_cons (e_int fun t1 => e_spl_nil (ls_counted (n := n) (k := 3) W (hA.mono (by first | exact lo rfl | omega)) h (by omega) (by decide) (fun cnt0 t2 b₁ hc0 m₁ h₁ => ?_) _ _))))))))))))
  refine e_spl_nil (c_rangeN (fun ra b₂ e₂ n₂ r₂ => ?_) _ _)
  have ora : o ra = none := h₁.ok.own_new n₂
  have h₂ := h₁.ext e₂
  obtain ⟨c0, hc00, hT0⟩ := ToldJ.start hj hn h7
  refine ⟨_, _, _, itv_range hA.hd r₂ (by omega), JD w G M d rl tl sm rows b₂ o c0,
    ⟨o, S, [], sm + 1, c0, .refl, h₂, hT0, Nat.le_refl _, Nat.le_refl _, rfl⟩, ?_, ?_, ?_⟩
  · rintro i b' m' ⟨o', S', _, _, _, mv, _⟩ c hc z hz
    rw [List.mem_singleton.mp hc] at hz ⊢
    exact mv.keep (by simp [ora]) z hz
  · rintro i b₃ m₃ v l hi ⟨o₃, S₃, told₃, sm₃, c₃, mv, h₃, hT, hc₃, hsm₃, hl₃⟩ ⟨tv, rfl⟩
    have Om := O.more l
    have hi3 : i < 2 := by omega
    have hlog : (Int.ofNat i).natAbs.log2 < 1920 := by
      match i, hi3 with
      | 0, _ => decide
      | 1, _ => decide
    have hstr : ("m" : Str).length + (Str.ofString (toString (Int.ofNat i))).length ≤ sizeLine := by
      match i, hi3 with
      | 0, _ => exact show 1 + 1 ≤ sizeLine by simp [sizeLine]
      | 1, _ => exact show 1 + 1 ≤ sizeLine by simp [sizeLine]
    refine s_name (s_local Om rfl rfl ?_)
    refine TT.hide (J := fun fl bb mm => fl = .next ∧ JD w G M d rl tl sm rows b₂ o c0 (i + 1) bb mm) (by rintro _ _ _ ⟨rfl, h⟩; exact h) fun Q1 hN1 => ?_
    have h₄ : LS w G b₃ (fun y => if y = "turn" then some (.int (Int.ofNat i) tv) else m₃ y) o₃ M S₃ d rl tl sm₃ rows told₃ := h₃.upd (by decide) (by decide) (by decide) (by decide)
    obtain ⟨tvs, Lt, htl, htq⟩ := h₄.to
    obtain ⟨rvs, Lr, hrl, _⟩ := h₄.ro
    refine t_cons (t_expr Om (e_lmeth PySem.F.slot_list_append PySem.F.type_list_append (e_local Om rfl rfl h₄.mt ⟨tl, tvs, rfl, Lt.ls, ?_⟩)))
    refine e_spl_cons (e_tuple (e_spl_cons (e_call (e_global W Om rfl (g_law_counted w) (e_callWith (keeps3_K W (k_law_counted w)) (e_spl_cons (e_cell Om rfl rfl h₄.md (e_spl_cons (e_len W Om rfl (b_len w).1 (e_cell Om rfl rfl h₄.mr ⟨rl, rvs, rfl, Lr.ls, by omega, fun t9 => ?_⟩) (b_len w).2)))))))))
    rw [hrl]
    refine e_spl_nil (ls_counted (n := n) W (hA.mono (by first | exact lo rfl | omega)) h₄ (by omega) (by omega) (fun x tx b₅ hx m₅ h₅ => ?_) _ _)
    obtain ⟨rvs₅, Lr₅, hrl₅, _⟩ := h₅.ro
    refine e_spl_cons (e_call (e_global W Om rfl (g_law_counted w) (e_callWith (keeps3_K W (k_law_counted w)) (e_spl_cons (e_cell Om rfl rfl h₅.md (e_spl_cons (e_len W Om rfl (b_len w).1 (e_cell Om rfl rfl h₅.mr ⟨rl, rvs₅, rfl, Lr₅.ls, by omega, fun t9 => ?_⟩) (b_len w).2)))))))
    rw [hrl₅]
    refine e_spl_nil (ls_counted (n := n) W (hA.mono (by first | exact lo rfl | omega)) h₅ (by omega) (by omega) (fun y ty b₆ hy m₆ h₆ => ?_) _ _)
    refine e_spl_nil (c_newTuple (by simp [sizeLine]) (fun ta b₇ e₇ n₇ l₇ => e_spl_nil ?_) _ _)
    have h₇ := h₆.ext e₇
    have ota : o₃ ta = none := h₆.ok.own_new n₇
    obtain ⟨tvs₇, Lt₇, htl₇, htq₇⟩ := h₇.to
    refine o_append h₇.ok Lt₇ (by omega) (fun b₈ m₈ Lt₈ => ⟨nr_none, ?_⟩) _ _
    have l₈ := (tp_move l₇ ota m₈).1
    have to₈ : ToldO b₈ o₃ tl (told₃ ++ [(x, y)]) := by
      refine ⟨_, Lt₈, by simp [htl₇], fun i q hq => ?_⟩
      by_cases hi : i < told₃.length
      · rw [List.getElem?_append_left hi] at hq
        obtain ⟨a, t1, t2, h1, h2, h3⟩ := htq₇ i q hq
        exact ⟨a, t1, t2, by rw [List.getElem?_append_left (by rw [htl₇]; exact hi)]; exact h1, h2, (tp_move h3 h2 m₈).1⟩
      · have hil := (List.getElem?_eq_some_iff.mp hq).1
        simp at hil
        have : i = told₃.length := by omega
        subst this
        simp at hq
        subst hq
        exact ⟨ta, tx, ty, by rw [← htl₇]; simp, ota, l₈⟩
    have h₈ : LS w G b₈ (fun y => if y = "turn" then some (.int (Int.ofNat i) tv) else m₃ y) o₃ M S₃ d rl tl (sm₃ + 1 + 1) rows (told₃ ++ [(x, y)]) :=
      ⟨h₇.ok.move m₈, h₇.ra.ext .refl |>.move (T := fun q => q = .told) m₈ fun r h => by rw [h]; rfl, h₇.da.move m₈ (by decide), h₇.ro.move m₈ (by decide), to₈, h₇.md, h₇.mh, h₇.mr, h₇.mt⟩
    refine t_cons (t_expr Om (e_mthc W Om rfl rfl h₈.mh h₈.ra.h.inst.inst (m_heap_merge w) rfl (e_spl_cons (e_sub (ops := fun o i => [o, i]) (e_sub (ops := fun o i => [o, i]) (e_local Om rfl rfl h₈.mt (e_negc fun t3 => ⟨Lt₈.ls.sub, c_getItem_last Lt₈.ls rfl ?_ _ _⟩)))))))
    refine e_int fun t4 => ⟨l₈.sub, c_getItem_tuple (i := 0) l₈ (by simp [sizeLine]) rfl ?_ _ _⟩
    refine e_spl_cons (e_sub (ops := fun o i => [o, i]) (e_sub (ops := fun o i => [o, i]) (e_local Om rfl rfl h₈.mt (e_negc fun t5 => ⟨Lt₈.ls.sub, c_getItem_last Lt₈.ls rfl ?_ _ _⟩))))
    refine e_int fun t6 => ⟨l₈.sub, c_getItem_tuple (i := 1) l₈ (by simp [sizeLine]) rfl ?_ _ _⟩
    refine e_spl_cons (e_tuple (e_spl_cons (e_str fun t7 => e_spl_cons (e_binop (e_str fun t8 => e_call (e_builtin W Om rfl (b_str w).1 (b_str w).2 (by decide) (e_callWith keeps3_type (e_spl_cons (e_local Om rfl rfl (if_pos rfl) (e_spl_nil (c_str_int hlog (fun t9 => c_add_str hstr (fun t10 => ?_) _ _) _ _)))))))))))
    refine e_spl_nil (c_newTuple (by simp [sizeLine]) (fun tb b₉ e₉ n₉ l₉ => e_spl_nil ?_) _ _)
    have h₉ := h₈.ext e₉
    have ft := hT.fit h7 (by omega)
    refine CT.of_DT ((hp_merge (n := n) W (hA.mono (by first | exact lo rfl | omega)) h₉.ok h₉.ra ft.1 ft.2 (by rw [hT.nodes]; exact hx) (by rw [hT.nodes]; exact hy)).mono ?_)
    rintro _ bI ⟨⟨cc, rfl⟩, oI, mI, RI⟩
    have hI := h₉.hp mI RI
    have mv1 : Mv Be b₃ o₃ b₈ o₃ := (m₅.weak fun r h => .inr (.inl h)).trans ((m₆.weak fun r h => .inr (.inl h)).trans ((Mv.ext e₇).trans (m₈.weak fun r h => .inr (.inr h))))
    refine ⟨nr_bool, t_nil (hN1 _ _ _ ⟨rfl, oI, _, _, _, _, mv.trans (mv1.trans ((Mv.ext e₉).trans (mI.weak fun r h => .inl h))), hI, hT.merge hx hy, by omega, by omega, by simp [hl₃]⟩)⟩
  · rintro b' m' ⟨o', S', told', sm', c', mv, h', hT', hc', hsm', hl'⟩
    exact K b' m' o' S' sm' told' c' h' hT' (by omega) (by omega) (by omega)
set_option maxHeartbeats 4000000 in
theorem law_e (W : Wld (KK w) G) (hA : AOk (n + 8) A) (O : EnvOk env (LF L' hid) LN) {P : Flow → Heap → Locs → Prop} {st : Stmt} (hst : (bodyS (topS 20))[4]? = some st) (h : LS w G b m o M S d rl tl sm rows told) {c : Nat} (hT : ToldJ told S rows c) (hc : c ≤ 29830) (h7 : rows.length ≤ 7)
    (K : ∀ b₁ o₁ S₁ c, LS w G b₁ m o₁ M S₁ d rl tl sm rows told → ToldJ told S₁ rows c → S₁.wait = [] → c ≤ 40000 → P .next b₁ m) : TT w G A (LF L' hid) (exec st env) b m P := by
  cases hst
  have hmu := hT.mu
  refine t_expr O (e_mthc W O rfl rfl h.mh h.ra.h.inst.inst (m_heap_settle w) rfl (e_spl_nil ?_))
  have hn : S.nodes.length ≤ 7 := by rw [hT.nodes]; exact h7
  refine CT.of_DT ((hp_settle (n := n) W (hA.mono (by first | exact lo rfl | omega)) (SetJ told S) (setJ_ok told S) (i := 250) h.ok h.ra ⟨c, hT.inv, hT.met, .refl, by omega, by omega, by omega⟩).mono ?_)
  rintro _ b₁ ⟨rfl, o₁, S₁, j, m₁, R₁, ⟨c₁, I₁, M₁, C₁, n₁, mu₁, hc₁⟩, hw₁⟩
  refine ⟨nr_none, K b₁ o₁ S₁ _ (h.hp m₁ R₁) ⟨I₁, M₁, C₁.1.trans hT.nodes, fun z hz => ?_, hT.lt, ?_⟩ hw₁ ?_⟩
  · have := hT.lt z hz
    exact C₁.2 _ _ (by rw [hT.nodes]; exact this.1) (by rw [hT.nodes]; exact this.2) (hT.eq z hz)
  · exact mu_le hw₁ (by rw [C₁.1]; exact hn)
  · omega
end
end Mine
end
section
open PySem PySem.W PyProof.Rows PySem.Calls PySem.Spec Builtin
set_option maxRecDepth 100000
set_option linter.unusedVariables false
namespace Mine
theorem Inv.rowsK {told : List (Nat × Nat)} {S : St} {rows : List (Str × List Nat)} {c : Nat} (h : Inv told S c) (hn : S.nodes = rows) (hok : RowsOk rows) :
    ∀ (i : Nat) (a : Str × List Nat), rows[i]? = some a → PyData.strOk a.1 = true ∧ a.2.length ≤ lim ∧ ∀ x ∈ a.2, x < rows.length := fun i a hi => by
  have hk := h.kids i a (by rw [hn]; exact hi)
  have hil := (List.getElem?_eq_some_iff.mp hi).1
  have hlim : lim = 100000 := rfl
  exact ⟨(hok i a hi).strOk, by omega, fun x hx => by have := hk.2 x hx; omega⟩
/-- places and placer are there -/
structure LP (w : World) (G b : Heap) (m : Locs) (o : Own) (M : Mem) (S : St) (d rl tl : Addr) (sm : Nat) (rows : List (Str × List Nat)) (told : List (Nat × Nat)) (pl : Addr) (ps : List Nat) (hx : Addr) : Prop where
  s : LS w G b m o M S d rl tl sm rows told
  lp : LsN b pl ps
  po : o pl = none
  pc : FI b o hx cPlacer [("heap", .ref M.h)]
  mp : m "places" = some (.ref pl)
  mc : m "placer" = some (.ref hx)
section
variable {w : World} {G b : Heap} {A : Around} {n : Nat} {o : Own} {env : Env} {L' : Addr} {hid : List (Addr × Obj)} {m : Locs} {M : Mem} {S : St} {d rl tl : Addr} {sm : Nat} {rows : List (Str × List Nat)} {told : List (Nat × Nat)} {pl hx tb : Addr} {ps : List Nat} {x y : Nat}
theorem LsN.move {T : Role → Prop} {b₁ : Heap} {o₁ : Own} {a : Addr} {ns : List Nat} (h : LsN b a ns) (ha : o a = none) (mv : Mv T b o b₁ o₁) : LsN b₁ a ns ∧ o₁ a = none :=
  let ⟨vs, l, n⟩ := h; let z := ls_move l ha mv; ⟨⟨vs, z.1, n⟩, z.2⟩
theorem LP.upd (h : LP w G b m o M S d rl tl sm rows told pl ps hx) {x : Str} {v : Option Value} (h1 : "deal" ≠ x) (h2 : "heap" ≠ x) (h3 : "rows" ≠ x) (h4 : "told" ≠ x) (h5 : "places" ≠ x) (h6 : "placer" ≠ x) : LP w G b (fun y => if y = x then v else m y) o M S d rl tl sm rows told pl ps hx :=
  ⟨h.s.upd h1 h2 h3 h4, h.lp, h.po, h.pc, (if_neg h5).trans h.mp, (if_neg h6).trans h.mc⟩
theorem LP.ext (h : LP w G b m o M S d rl tl sm rows told pl ps hx) {b₁ : Heap} (e : Ext b b₁) : LP w G b₁ m o M S d rl tl sm rows told pl ps hx :=
  ⟨h.s.ext e, h.lp.ext e, h.po, h.pc.move (T := F0) (.ext e), h.mp, h.mc⟩
theorem LP.hp (h : LP w G b m o M S d rl tl sm rows told pl ps hx) {b₁ : Heap} {o₁ : Own} {S₁ : St} (mv : Mv Hp b o b₁ o₁) (R : RA w b₁ o₁ M S₁) : LP w G b₁ m o₁ M S₁ d rl tl sm rows told pl ps hx :=
  ⟨h.s.hp mv R, (h.lp.move h.po mv).1, (h.lp.move h.po mv).2, h.pc.move mv, h.mp, h.mc⟩
theorem LP.dl (h : LP w G b m o M S d rl tl sm rows told pl ps hx) {b₁ : Heap} {sm' : Nat} (mv : Mv Dl b o b₁ o) (D : DealAt w b₁ o d sm') : LP w G b₁ m o M S d rl tl sm' rows told pl ps hx :=
  ⟨h.s.dl mv D, (h.lp.move h.po mv).1, h.po, h.pc.move mv, h.mp, h.mc⟩
theorem DealAt.skip {b₁ : Heap} {F : Str → Option Value} {nn : Nat} (h : DealAt w b o d sm) (ht : o tb = none) (hd : KD (PySem.strKind PG w) b tb F nn) (hb : ∀ c x, c ≠ tb → b.get? c = some x → b₁.get? c = some x) : DealAt w b₁ o d sm := by
  obtain ⟨F', n', cl, vs, s, t, hs, D, h1, h2, h3, h4, h5, h6, h7⟩ := h
  have n1 : d ≠ tb := fun q => by have := D.own; rw [q, ht] at this; cases this
  have n2 : cl ≠ tb := fun q => by
    obtain ⟨kvs, hk, _⟩ := hd.ex
    obtain ⟨i, hi⟩ := h5
    have ht := hk.typeIs (s := { heap := b })
    obtain ⟨ob, e1, e2⟩ := ht
    rw [q] at hi
    rw [hi] at e1
    cases e1
    simp at e2
  obtain ⟨i, hi⟩ := h5
  exact ⟨F', n', cl, vs, s, t, hs, ⟨D.kd.at fun z e => hb _ _ n1 e, D.own⟩, h1, h2, h3, h4, ⟨i, hb _ _ n2 hi⟩, h6, h7⟩
set_option maxHeartbeats 4000000 in
theorem law_f (W : Wld (KK w) G) (hA : AOk (n + 8) A) (O : EnvOk env (LF L' hid) LN) {P : Flow → Heap → Locs → Prop} {st : Stmt} (hst : (bodyS (topS 20))[5]? = some st) (h : LS w G b m o M S d rl tl sm rows told) {c : Nat} (hT : ToldJ told S rows c) (hok : RowsOk rows) (h7 : rows.length ≤ 7)
    (K : ∀ b₁ m₁ pl ps hx, LP w G b₁ m₁ o M S d rl tl sm rows told pl ps hx → PInv rows told ps → (Closed rows told fun x => ps.getD x 0) → P .next b₁ m₁) : TT w G A (LF L' hid) (exec st env) b m P := by
  have lz := lim_size
  have hlim : lim = 100000 := rfl
  cases hst
  refine t_assign_swapped (names := ["places", "placer"]) (hw := (swapped_of O _ _).trans rfl) (e_tuple (e_spl_cons (e_call (e_global W O rfl (g_law_places w) (e_callWith (keeps3_K W (k_law_places w)) (e_spl_cons (e_cell O rfl rfl h.mr (e_spl_cons (e_local O rfl rfl h.mt (e_spl_nil ?_))))))))))
  refine CT.of_DT ((places_ (n := n) (st := fun _ => True) W (hA.mono (by first | exact lo rfl | omega)) h.ro.l h.to.l (by omega) (hT.inv.rowsK hT.nodes hok) hT.lt).mono ?_) _ _
  rintro _ b₁ ⟨e₁, pl, ps, rfl, np, Lp, I, C⟩
  have h₁ := h.ext e₁
  have opl : o pl = none := h.ok.own_new np
  refine e_spl_cons (e_call (e_global W O rfl (g_Placer w) (e_callWith (keeps3_K W (mk_placer w).2.2.2) (e_spl_cons (e_cell O rfl rfl h.mh (e_spl_nil (call_class W (mk_placer w).1 (mk_placer w).2.1 (mk_placer w).2.2.1 (fun b₂ hp dx e₂ n₂ n₂' ne₂ i₂ => ?_) _ _)))))))
  refine (pl_init (n := n) W (AOk.under_make (n := n + 1) (hA.mono (by first | exact lo rfl | omega)) _ _) (mk_start h₁.ok e₂ n₂ n₂' ne₂ i₂)).mono ?_
  rintro _ b₃ ⟨rfl, k₃⟩
  refine ⟨rfl, ?_⟩
  have mv : Mv F0 b₁ o b₃ o := k₃.mv
  refine e_spl_nil (c_newTuple (by simp [sizeLine]) (fun ta b₄ e₄ n₄ l₄ => ?_) _ _)
  refine c_unpack_tuple hA.hd l₄ rfl ?_ _ _
  show TT w G A (LF L' hid) (assignInOrder [bindName env "placer", bindName env "places"] [.ref hp, .ref pl]) b₄ m _
  refine a_cons (s_bind (s_local O rfl rfl (a_cons (s_bind (s_local O rfl rfl (a_nil ?_))))))
  have mv' := mv.trans (.ext e₄)
  have L4 := Lp.move opl mv'
  refine K _ _ pl ps hp ⟨⟨h₁.ok.move mv', h₁.ra.move mv' (fun r h => h.elim), h₁.da.move mv' id, h₁.ro.move mv' id, h₁.to.move mv' id, ?_, ?_, ?_, ?_⟩, L4.1, L4.2, k₃.fd.fi.move (T := F0) (.ext e₄), if_pos rfl, (if_neg (by decide)).trans (if_pos rfl)⟩ I C
  · exact (if_neg (by decide)).trans ((if_neg (by decide)).trans h.md)
  · exact (if_neg (by decide)).trans ((if_neg (by decide)).trans h.mh)
  · exact (if_neg (by decide)).trans ((if_neg (by decide)).trans h.mr)
  · exact (if_neg (by decide)).trans ((if_neg (by decide)).trans h.mt)
set_option maxHeartbeats 4000000 in
/-- the table -/
theorem law_g (W : Wld (KK w) G) (hA : AOk (n + 8) A) (O : EnvOk env (LF L' hid) LN) {P : Flow → Heap → Locs → Prop} {st : Stmt} (hst : (bodyS (topS 20))[6]? = some st) (h : LP w G b m o M S d rl tl sm rows told pl ps hx) (hsm : sm ≤ 110) (h2 : 2 ≤ rows.length) (h7 : rows.length ≤ 7)
    (K : ∀ b₁ tb x y, LP w G b₁ (fun z => if z = "table" then some (.ref tb) else m z) o M S d rl tl (sm + 2) rows told pl ps hx → TabAt w b₁ o tb x y → x < rows.length → y < rows.length → P .next b₁ (fun z => if z = "table" then some (.ref tb) else m z)) : TT w G A (LF L' hid) (exec st env) b m P := by
  have lz := lim_size
  have hlim : lim = 100000 := rfl
  cases hst
  have hkey : ∀ (s : Str) t, (PySem.strKind PG w).is s (.str s t) = true := fun s t => by simp [PySem.strKind, Value.isStrOf]
  refine t_assign (e_dict (knd := PySem.strKind PG w) W.nolimit fun tb b₁ e₁ n₁ nm₁ D₁ => ?_)
  have h₁ := h.ext e₁
  have otb : o tb = none := h.s.ok.own_new n₁
  obtain ⟨rvs, Lr, hrl, _⟩ := h₁.s.ro
  refine e_pt_cons (e_str fun t1 => e_call (e_global W O rfl (g_law_counted w) (e_callWith (keeps3_K W (k_law_counted w)) (e_spl_cons (e_cell O rfl rfl h₁.s.md (e_spl_cons (e_len W O rfl (b_len w).1 (e_cell O rfl rfl h₁.s.mr ⟨rl, rvs, rfl, Lr.ls, by omega, fun t9 => ?_⟩) (b_len w).2)))))))
  rw [hrl]
  refine e_spl_nil (ls_counted (n := n) W (hA.mono (by first | exact lo rfl | omega)) h₁.s (by omega) (by omega) (fun x tx b₂ hxx m₂ h₂ => ?_) _ _)
  obtain ⟨rvs₂, Lr₂, hrl₂, _⟩ := h₂.ro
  refine e_pt_cons (e_str fun t2 => e_call (e_global W O rfl (g_law_counted w) (e_callWith (keeps3_K W (k_law_counted w)) (e_spl_cons (e_cell O rfl rfl h₂.md (e_spl_cons (e_len W O rfl (b_len w).1 (e_cell O rfl rfl h₂.mr ⟨rl, rvs₂, rfl, Lr₂.ls, by omega, fun t9 => ?_⟩) (b_len w).2)))))))
  rw [hrl₂]
  refine e_spl_nil (ls_counted (n := n) W (hA.mono (by first | exact lo rfl | omega)) h₂ (by omega) (by omega) (fun y ty b₃ hy m₃ h₃ => e_pt_nil ?_) _ _)
  have mv := m₂.trans m₃
  obtain ⟨ob, hob⟩ := D₁.live
  have hk3 := mv.old tb ob hob
  refine ⟨[("?x", .int (Int.ofNat x) tx), ("?y", .int (Int.ofNat y) ty)], ⟨hkey _ _, rfl, hkey _ _, rfl, trivial⟩, D₁.at fun z e => (mv.old tb z e).2.2 (by simp [otb]), h.s.ok.new n₁, fun b₅ hb₅ D₅ => ?_⟩
  have mv1 : Mv Dl b o b₃ o := (Mv.ext e₁).trans mv
  have m5 : Mv Dl b o b₅ o := ⟨fun c z hc => by
      have ne : c ≠ tb := fun q => by rw [q, n₁] at hc; cases hc
      obtain ⟨q1, ⟨z1, q2⟩, q3⟩ := mv1.old c z hc
      exact ⟨rfl, ⟨z1, hb₅ _ _ ne q2⟩, fun hr => hb₅ _ _ ne (q3 hr)⟩, fun c r e => .inl e⟩
  have hd5 : DealAt w b₅ o d (sm + 1 + 1) := h₃.da.skip otb (D₁.at fun z e => (mv.old tb z e).2.2 (by simp [otb])) hb₅
  have h5 : LP w G b₅ m o M S d rl tl (sm + 2) rows told pl ps hx := h.dl m5 hd5
  have T5 : TabAt w b₅ o tb x y := by
    refine ⟨⟨_, 2, ⟨⟨_, D₅, Nat.le_of_eq rfl, fun _ => rfl⟩, nm₁⟩, ⟨tx, rfl⟩, ⟨ty, rfl⟩, fun s h1 h2 => ?_⟩, otb⟩
    show valueAt [(("?x" : Str), Value.int (Int.ofNat x) tx), ("?y", .int (Int.ofNat y) ty)] s = none
    unfold valueAt
    rw [List.find?_cons_of_neg (by simpa using fun q => h1 q.symm), List.find?_cons_of_neg (by simpa using fun q => h2 q.symm)]; rfl
  have h6 := h5.upd (x := "table") (v := some (.ref tb)) (by decide) (by decide) (by decide) (by decide) (by decide) (by decide)
  refine s_local O rfl rfl ?_
  exact K b₅ tb x y h6 T5 hxx hy
end
end Mine
end
section
open PySem PySem.W PyProof.Rows PySem.Calls PySem.Spec Builtin
set_option maxRecDepth 100000
set_option linter.unusedVariables false
namespace Mine
/-- what was asked -/
inductive SomeE (b : Heap) (o : Own) (x : Pat × Option Nat) (r : Option Value) : Prop
  | mk (a : Addr) (v u : Value) (h1 : r = some (.ref a)) (h2 : o a = none) (h3 : Tp b a [v, u]) (h4 : PatAt b o x.1 v) (h5 : OptV u x.2)
inductive SomeO (b : Heap) (o : Own) (sl : Addr) (xs : List (Pat × Option Nat)) : Prop
  | mk (vs : List Value) (l : OL b o .part sl vs) (n : vs.length = xs.length) (k : ∀ (i : Nat) (x : Pat × Option Nat), xs[i]? = some x → SomeE b o x vs[i]?)
theorem SomeO.move {T : Role → Prop} {b b₁ : Heap} {o o₁ : Own} {sl : Addr} {xs : List (Pat × Option Nat)} (h : SomeO b o sl xs) (m : Mv T b o b₁ o₁) (hT : ¬ T .part) : SomeO b₁ o₁ sl xs := by
  obtain ⟨vs, l, n, k⟩ := h
  refine ⟨vs, l.move m hT, n, fun i x hx => ?_⟩
  obtain ⟨a, v, u, h1, h2, h3, h4, h5⟩ := k i x hx
  exact ⟨a, v, u, h1, (tp_move h3 h2 m).2, (tp_move h3 h2 m).1, h4.move m, h5⟩
/-- the law's plain facts once settled -/
structure Still (told : List (Nat × Nat)) (S : St) (rows : List (Str × List Nat)) (ps : List Nat) (c : Nat) : Prop where
  t : ToldJ told S rows c
  w : S.wait = []
  i : PInv rows told ps
  c : Closed rows told fun x => ps.getD x 0
theorem Still.same {told : List (Nat × Nat)} {S : St} {rows : List (Str × List Nat)} {ps : List Nat} {c : Nat} (h : Still told S rows ps c) : ∀ i, i < rows.length → root S.par i = ps.getD i 0 := by
  have hc := settled_closed h.t.inv h.t.met h.w h.t.eq
  rw [h.t.nodes] at hc
  exact same_places h.i h.c hc (fun i _ => root_le _ i) fun f hf i hi => h.t.inv.fr (by rw [h.t.nodes]; exact hf) (by rw [h.t.nodes]; exact hi)
theorem Still.putJ {told : List (Nat × Nat)} {S : St} {rows : List (Str × List Nat)} {ps : List Nat} {c : Nat} (h : Still told S rows ps c) : PutJ told S c := ⟨h.t.inv, h.t.met, h.w⟩
section
variable {w : World} {G b : Heap} {A : Around} {n : Nat} {o : Own} {env : Env} {L' : Addr} {hid : List (Addr × Obj)} {m : Locs} {M : Mem} {S : St} {d rl tl : Addr} {sm : Nat} {rows : List (Str × List Nat)} {told : List (Nat × Nat)} {pl hx tb sl : Addr} {ps : List Nat} {x y : Nat} {xs : List (Pat × Option Nat)}
/-- all that the asking needs -/
structure LA (w : World) (G b : Heap) (m : Locs) (o : Own) (M : Mem) (S : St) (d rl tl : Addr) (sm : Nat) (rows : List (Str × List Nat)) (told : List (Nat × Nat)) (pl : Addr) (ps : List Nat) (hx tb : Addr) (x y : Nat) (sl : Addr) (xs : List (Pat × Option Nat)) : Prop where
  p : LP w G b m o M S d rl tl sm rows told pl ps hx
  ta : TabAt w b o tb x y
  mt : m "table" = some (.ref tb)
  so : SomeO b o sl xs
  ms : m "some" = some (.ref sl)
theorem LA.upd (h : LA w G b m o M S d rl tl sm rows told pl ps hx tb x y sl xs) {z : Str} {v : Option Value} (hz : z ∉ (["deal", "heap", "rows", "told", "places", "placer", "table", "some"] : List Str)) : LA w G b (fun q => if q = z then v else m q) o M S d rl tl sm rows told pl ps hx tb x y sl xs := by
  have k : ∀ q ∈ (["deal", "heap", "rows", "told", "places", "placer", "table", "some"] : List Str), q ≠ z := fun q hq e => hz (e ▸ hq)
  exact ⟨h.p.upd (k _ (by decide)) (k _ (by decide)) (k _ (by decide)) (k _ (by decide)) (k _ (by decide)) (k _ (by decide)), h.ta, (if_neg (k _ (by decide))).trans h.mt, h.so, (if_neg (k _ (by decide))).trans h.ms⟩
theorem LA.ext (h : LA w G b m o M S d rl tl sm rows told pl ps hx tb x y sl xs) {b₁ : Heap} (e : Ext b b₁) : LA w G b₁ m o M S d rl tl sm rows told pl ps hx tb x y sl xs :=
  ⟨h.p.ext e, h.ta.move (T := F0) (.ext e), h.mt, h.so.move (T := F0) (.ext e) id, h.ms⟩
theorem LA.hp (h : LA w G b m o M S d rl tl sm rows told pl ps hx tb x y sl xs) {b₁ : Heap} {o₁ : Own} {S₁ : St} (mv : Mv Hp b o b₁ o₁) (R : RA w b₁ o₁ M S₁) : LA w G b₁ m o₁ M S₁ d rl tl sm rows told pl ps hx tb x y sl xs :=
  ⟨h.p.hp mv R, h.ta.move mv, h.mt, h.so.move mv (by decide), h.ms⟩
theorem LA.dl (h : LA w G b m o M S d rl tl sm rows told pl ps hx tb x y sl xs) {b₁ : Heap} {sm' : Nat} (mv : Mv Dl b o b₁ o) (D : DealAt w b₁ o d sm') : LA w G b₁ m o M S d rl tl sm' rows told pl ps hx tb x y sl xs :=
  ⟨h.p.dl mv D, h.ta.move mv, h.mt, h.so.move mv (by decide), h.ms⟩
set_option maxHeartbeats 4000000 in
/-- some = [] -/
theorem law_h (W : Wld (KK w) G) (O : EnvOk env (LF L' hid) LN) {P : Flow → Heap → Locs → Prop} {st : Stmt} (hst : (bodyS (topS 20))[7]? = some st) (h : LP w G b m o M S d rl tl sm rows told pl ps hx) (hT : TabAt w b o tb x y) (hm : m "table" = some (.ref tb))
    (K : ∀ b₁ m₁ o₁ sl, LA w G b₁ m₁ o₁ M S d rl tl sm rows told pl ps hx tb x y sl [] → P .next b₁ m₁) : TT w G A (LF L' hid) (exec st env) b m P := by
  cases hst
  refine t_assign (e_list (e_spl_nil (c_newList (by simp) (fun sl b₁ e₁ n₁ l₁ => ?_) _ _)))
  obtain ⟨os, hos⟩ := l₁.live
  have mv : Mv F0 b o b₁ (give o sl .part) := .give e₁ n₁ hos
  refine s_local O rfl rfl ?_
  have hs := h.s
  have h₁ : LP w G b₁ m (give o sl .part) M S d rl tl sm rows told pl ps hx :=
    ⟨⟨hs.ok.move mv, hs.ra.move mv (fun r h => h.elim), hs.da.move mv id, hs.ro.move mv id, hs.to.move mv id, hs.md, hs.mh, hs.mr, hs.mt⟩, (h.lp.move h.po mv).1, (h.lp.move h.po mv).2, h.pc.move mv, h.mp, h.mc⟩
  exact K b₁ _ _ sl ⟨h₁.upd (by decide) (by decide) (by decide) (by decide) (by decide) (by decide), hT.move mv, (if_neg (by decide)).trans hm, ⟨[], ⟨l₁, give_self ..⟩, rfl, fun i x hx => by simp at hx⟩, if_pos rfl⟩
end
end Mine
end
section
open PySem PySem.W PyProof.Rows PySem.Calls PySem.Spec Builtin
set_option maxRecDepth 100000
set_option linter.unusedVariables false
namespace Mine
def forBody : Stmt → List Stmt
  | .For _ _ body _ _ => body
  | _ => []
def ifBody : Stmt → List Stmt
  | .If _ body _ _ => body
  | _ => []
noncomputable abbrev askS : List Stmt := match (bodyS (topS 20))[8]? with | some s => forBody s | none => []
section
variable {w : World} {G b : Heap} {A : Around} {n : Nat} {o : Own} {env : Env} {L' : Addr} {hid : List (Addr × Obj)} {m : Locs} {M : Mem} {S : St} {d rl tl : Addr} {sm : Nat} {rows : List (Str × List Nat)} {told : List (Nat × Nat)} {pl hx tb sl : Addr} {ps : List Nat} {x y : Nat} {xs : List (Pat × Option Nat)}
set_option maxHeartbeats 4000000 in
/-- one, other = .. -/
theorem law_i0 (W : Wld (KK w) G) (hA : AOk (n + 12) A) (O : EnvOk env (LF L' hid) LN) {P : Flow → Heap → Locs → Prop} {st : Stmt} (hst : askS[0]? = some st) (h : LA w G b m o M S d rl tl sm rows told pl ps hx tb x y sl xs) (hsm : sm ≤ 5000)
    (K : ∀ b₁ m₁ p q u v, LA w G b₁ m₁ o M S d rl tl (sm + 22) rows told pl ps hx tb x y sl xs → PatAt b₁ o p u → PatAt b₁ o q v → p.high ≤ 3 → q.high ≤ 3 → p.good → q.good → p.many ≤ 15 → m₁ "one" = some u → m₁ "other" = some v → P .next b₁ m₁) : TT w G A (LF L' hid) (exec st env) b m P := by
  have hlim : lim = 100000 := rfl
  cases hst
  refine t_assign_swapped (names := ["one", "other"]) (hw := (swapped_of O _ _).trans rfl) (e_tuple (e_spl_cons (e_call (e_global W O rfl (g_law_pattern w) (e_callWith (keeps3_K W (k_law_pattern w)) (e_spl_cons (e_cell O rfl rfl h.p.s.md (e_spl_cons (e_int fun t1 => e_spl_nil ?_)))))))))
  refine CT.of_DT ((pattern_ (n := n) W 3 (hA.mono (by first | exact lo rfl | omega)) h.p.s.ok h.p.s.da (by omega)).mono ?_) _ _
  rintro u b₁ ⟨⟨p, hp, hp1, hp2, hp3⟩, m₁, D₁⟩
  have h₁ := h.dl m₁ D₁
  refine e_spl_cons (e_call (e_global W O rfl (g_law_pattern w) (e_callWith (keeps3_K W (k_law_pattern w)) (e_spl_cons (e_cell O rfl rfl h.p.s.md (e_spl_cons (e_int fun t2 => e_spl_nil ?_)))))))
  refine CT.of_DT ((pattern_ (n := n) W 2 (hA.mono (by first | exact lo rfl | omega)) h₁.p.s.ok h₁.p.s.da (by omega)).mono ?_) _ _
  rintro v b₂ ⟨⟨q, hq, hq1, hq2, hq3⟩, m₂, D₂⟩
  have h₂ := h₁.dl m₂ D₂
  refine e_spl_nil (c_newTuple (by simp [sizeLine]) (fun ta b₃ e₃ n₃ l₃ => ?_) _ _)
  have h₃ := h₂.ext e₃
  refine c_unpack_tuple hA.hd l₃ rfl ?_ _ _
  show TT w G A (LF L' hid) (assignInOrder [bindName env "other", bindName env "one"] [v, u]) b₃ m _
  refine a_cons (s_bind (s_local O rfl rfl (a_cons (s_bind (s_local O rfl rfl (a_nil ?_))))))
  exact K b₃ _ p q u v ((h₃.upd (z := "other") (v := some v) (by decide)).upd (z := "one") (v := some u) (by decide)) ((hp.move m₂).move (Mv.ext (T := F0) e₃)) (hq.move (Mv.ext (T := F0) e₃)) hp1 (by omega) hp2 hq2 (by omega) (if_pos rfl) ((if_neg (by decide)).trans (if_pos rfl))
set_option maxHeartbeats 4000000 in
/-- here, there = .. -/
theorem law_i1 (W : Wld (KK w) G) (hA : AOk (n + 12) A) (O : EnvOk env (LF L' hid) LN) {P : Flow → Heap → Locs → Prop} {st : Stmt} (hst : askS[1]? = some st) (h : LA w G b m o M S d rl tl sm rows told pl ps hx tb x y sl xs) {c : Nat} (T : Still told S rows ps c) (hok : RowsOk rows) (h7 : rows.length ≤ 7) (hx' : x < rows.length) (hy : y < rows.length)
    {p q : Pat} {u v : Value} (hp : PatAt b o p u) (hq : PatAt b o q v) (h1 : p.high ≤ 3) (h2 : q.high ≤ 3) (g1 : p.good) (g2 : q.good) (hmu : m "one" = some u) (hmv : m "other" = some v)
    (K : ∀ b₁ m₁ a c, LA w G b₁ m₁ o M S d rl tl sm rows told pl ps hx tb x y sl xs → PatAt b₁ o p u → PatAt b₁ o q v → m₁ "one" = some u → m₁ "other" = some v → OptV a (placeF rows ps x y p) → OptV c (placeF rows ps x y q) → m₁ "here" = some a → m₁ "there" = some c → P .next b₁ m₁) : TT w G A (LF L' hid) (exec st env) b m P := by
  have hlim : lim = 100000 := rfl
  have hk := T.t.inv.rowsK T.t.nodes hok
  have hpl : ps.length = rows.length := T.i.len
  cases hst
  refine t_assign_swapped (names := ["here", "there"]) (hw := (swapped_of O _ _).trans rfl) (e_tuple (e_spl_cons (e_call (e_global W O rfl (g_law_place w) (e_callWith (keeps3_K W (k_law_place w)) (e_spl_cons (e_cell O rfl rfl h.p.s.mr (e_spl_cons (e_local O rfl rfl h.p.mp (e_spl_cons (e_local O rfl rfl hmu (e_spl_cons (e_local O rfl rfl h.mt (e_spl_nil ?_))))))))))))))
  refine CT.of_DT ((place_ (n := n) W (by omega) hpl hx' hy hk 3 p h1 g1 (hA.mono (by first | exact lo rfl | omega)) h.p.s.ok h.p.s.ro.l h.p.lp h.ta hp).mono ?_) _ _
  rintro a b₁ ⟨e₁, r₁⟩
  have h₁ := h.ext e₁
  have hq₁ := hq.move (Mv.ext (T := F0) e₁)
  refine e_spl_cons (e_call (e_global W O rfl (g_law_place w) (e_callWith (keeps3_K W (k_law_place w)) (e_spl_cons (e_cell O rfl rfl h.p.s.mr (e_spl_cons (e_local O rfl rfl h.p.mp (e_spl_cons (e_local O rfl rfl hmv (e_spl_cons (e_local O rfl rfl h.mt (e_spl_nil ?_))))))))))))
  refine CT.of_DT ((place_ (n := n) W (by omega) hpl hx' hy hk 3 q h2 g2 (hA.mono (by first | exact lo rfl | omega)) h₁.p.s.ok h₁.p.s.ro.l h₁.p.lp h₁.ta hq₁).mono ?_) _ _
  rintro c b₂ ⟨e₂, r₂⟩
  have h₂ := h₁.ext e₂
  refine e_spl_nil (c_newTuple (by simp [sizeLine]) (fun ta b₃ e₃ n₃ l₃ => ?_) _ _)
  have h₃ := h₂.ext e₃
  refine c_unpack_tuple hA.hd l₃ rfl ?_ _ _
  show TT w G A (LF L' hid) (assignInOrder [bindName env "there", bindName env "here"] [c, a]) b₃ m _
  refine a_cons (s_bind (s_local O rfl rfl (a_cons (s_bind (s_local O rfl rfl (a_nil ?_))))))
  exact K b₃ _ a c ((h₃.upd (z := "there") (v := some c) (by decide)).upd (z := "here") (v := some a) (by decide)) (hp.move (Mv.ext (T := F0) ((e₁.trans e₂).trans e₃))) (hq₁.move (Mv.ext (T := F0) (e₂.trans e₃))) ((if_neg (by decide)).trans ((if_neg (by decide)).trans hmu)) ((if_neg (by decide)).trans ((if_neg (by decide)).trans hmv)) r₁ r₂ (if_pos rfl) ((if_neg (by decide)).trans (if_pos rfl))
end
end Mine
end
section
open PySem PySem.W PyProof.Rows PySem.Calls PySem.Spec Builtin
set_option maxRecDepth 100000
set_option linter.unusedVariables false
namespace Mine
section
variable {w : World} {G b : Heap} {A : Around} {n : Nat} {o : Own} {env : Env} {L' : Addr} {hid : List (Addr × Obj)} {m : Locs} {M : Mem} {S : St} {d rl tl : Addr} {sm : Nat} {rows : List (Str × List Nat)} {told : List (Nat × Nat)} {pl hx tb sl : Addr} {ps : List Nat} {x y : Nat} {xs : List (Pat × Option Nat)}
theorem Still.ev {c : Nat} (T : Still told S rows ps c) (h7 : rows.length ≤ 7) (hc : c ≤ 45000) (hx : x < rows.length) (hy : y < rows.length) (p : Pat) : S.ev x y p = placeF rows ps x y p := by
  have hn := T.t.nodes
  have h := ev_place (x := x) (y := y) (ps := ps) T.putJ (by rw [hn]; omega) (by omega) (settled_closed T.t.inv T.t.met T.w T.t.eq) (fun i hi => T.same i (by rw [← hn]; exact hi)) (by rw [hn]; exact hx) (by rw [hn]; exact hy) p
  rw [h, hn]
theorem LA.plx (h : LA w G b m o M S d rl tl sm rows told pl ps hx tb x y sl xs) {c : Nat} (T : Still told S rows ps c) (h7 : rows.length ≤ 7) (hc : c ≤ 45000) (hx' : x < rows.length) (hy : y < rows.length) : PL w b o M S hx tb x y :=
  ⟨h.p.s.ra, (T.t.inv.fit (by rw [T.t.nodes]; omega) (by omega)), h.p.pc, h.ta, by rw [T.t.nodes]; exact hx', by rw [T.t.nodes]; exact hy⟩
def I2 (u v : Value) (a c : Option Nat) : Nat → List Value → Prop
  | 0, ys => ys = []
  | 1, ys => ∃ t, ys = [.int (cz a) t]
  | _, ys => ∃ t t', ys = [.int (cz a) t, .int (cz c) t']
set_option maxHeartbeats 4000000 in
/-- the two classes are as told -/
theorem law_i2 (W : Wld (KK w) G) (hA : AOk (n + 12) A) (O : EnvOk env (LF L' hid) LN) {P : Flow → Heap → Locs → Prop} {st : Stmt} (hst : askS[2]? = some st) (h : LA w G b m o M S d rl tl sm rows told pl ps hx tb x y sl xs) {c : Nat} (T : Still told S rows ps c) (hc : c ≤ 45000) (h7 : rows.length ≤ 7) (hx' : x < rows.length) (hy : y < rows.length)
    {p q : Pat} {u v a e : Value} (hp : PatAt b o p u) (hq : PatAt b o q v) (h1 : p.high ≤ 3) (h2 : q.high ≤ 3) (hmu : m "one" = some u) (hmv : m "other" = some v) (ha : OptV a (placeF rows ps x y p)) (he : OptV e (placeF rows ps x y q)) (hma : m "here" = some a) (hme : m "there" = some e)
    (K : ∀ b₁, Ext b b₁ → P .next b₁ m) : TT w G A (LF L' hid) (exec st env) b m P := by
  cases hst
  refine t_if (i_cmp (e_list (e_spl_cons (e_mth W O rfl rfl h.p.mc h.p.pc.inst (m_placer_class_of w) rfl (e_spl_cons (e_local O rfl rfl hmu (e_spl_cons (e_local O rfl rfl h.mt (e_spl_nil ?_)))))))))
  refine CT.of_DT ((pl_class (n := n) W 3 p h1 (hA.mono (by first | exact lo rfl | omega)) h.p.s.ok (h.plx T h7 hc hx' hy) hp).mono ?_)
  rintro _ b₁ ⟨e₁, t, rfl⟩
  have H₁ := h.ext e₁
  refine e_spl_cons (e_mth W O rfl rfl H₁.p.mc H₁.p.pc.inst (m_placer_class_of w) rfl (e_spl_cons (e_local O rfl rfl hmv (e_spl_cons (e_local O rfl rfl H₁.mt (e_spl_nil ?_))))))
  refine CT.of_DT ((pl_class (n := n) W 3 q h2 (hA.mono (by first | exact lo rfl | omega)) H₁.p.s.ok (H₁.plx T h7 hc hx' hy) (hq.move (Mv.ext (T := F0) e₁))).mono ?_)
  rintro _ b₂ ⟨e₂, t', rfl⟩
  rw [T.ev h7 hc hx' hy p, T.ev h7 hc hx' hy q]
  generalize placeF rows ps x y p = pa at ha ⊢
  generalize placeF rows ps x y q = pe at he ⊢
  refine e_spl_nil (c_newList (by simp [sizeLine]) (fun l1 b₃ e₃ n₃ l₃ => ?_) _ _)
  refine e_comp O rfl rfl rfl rfl rfl rfl (fun p hp => by cases hp) (e_tuple (e_spl_cons (e_local O rfl rfl hma (e_spl_cons (e_local O rfl rfl hme (e_spl_nil (c_newTuple (by simp [sizeLine]) (fun ta b₄ e₄ n₄ l₄ => ?_) _ _)))))))
  refine ⟨_, _, _, itv_tuple hA.hd l₄, by simp [sizeLine], fun i ys b' => b₄ = b' ∧ I2 a e pa pe i ys, ⟨rfl, rfl⟩, ?_, ?_, ?_⟩
  · rintro i ys b' ⟨rfl, _⟩ c _ z hz; exact hz
  · rintro i ys b' v C hid' env' hi ⟨rfl, J⟩ pv O'
    have hi2 : i < 2 := hi
    have key : ∃ r, OptV v r ∧ ∀ t, I2 a e pa pe (i + 1) (ys ++ [.int (cz r) t]) := by
      match i, hi2, J, pv with
      | 0, _, J, pv => cases J; cases pv; exact ⟨pa, ha, fun t => ⟨t, rfl⟩⟩
      | 1, _, J, pv => obtain ⟨t0, rfl⟩ := J; cases pv; exact ⟨pe, he, fun t => ⟨t0, t, rfl⟩⟩
    obtain ⟨r, hr, kr⟩ := key
    cases r with
    | none =>
      have hv : v = .none := hr
      subst hv
      exact e_ifexp (i_cmp (e_local O' rfl rfl (if_pos rfl) (e_none (c_is_none ⟨true, rfl, (fun _ => e_negc fun t => ⟨rfl, kr t⟩), (fun c => by cases c)⟩ _ _))))
    | some k =>
      obtain ⟨t5, rfl⟩ := hr
      exact e_ifexp (i_cmp (e_local O' rfl rfl (if_pos rfl) (e_none (c_is_none ⟨false, rfl, (fun c => by cases c), (fun _ => e_local O' rfl rfl (if_pos rfl) ⟨rfl, kr t5⟩)⟩ _ _))))
  · rintro D ys b₅ b₆ ⟨rfl, J⟩ e₆ nD lD
    obtain ⟨t3, t4, rfl⟩ := J
    have dd : ∀ (b : Heap) (l : Addr) (t t' : Tok), Ls b l [.int (cz pa) t, .int (cz pe) t'] → RD b (.ref l) (.list [.int (cz pa), .int (cz pe)]) := fun b l t t' L => .list L (.cons (.int ..) (.cons (.int ..) .nil))
    have eqq : PyData.eqv (.list [.int (cz pa), .int (cz pe)]) (.list [.int (cz pa), .int (cz pe)]) = true := (eqv_iff _ _ rfl rfl).mpr rfl
    refine c_ne_data (n := n) (hA.mono (by first | exact lo rfl | omega)) (dd _ _ _ _ (((l₃.ext e₄)).ext e₆)) (dd _ _ _ _ lD) rfl rfl ⟨false, by rw [eqq]; rfl, (fun c => by cases c), fun _ => t_nil (K _ ((((e₁.trans e₂).trans e₃).trans e₄).trans e₆))⟩ _ _
end
end Mine
end
section
open PySem PySem.W PyProof.Rows PySem.Calls PySem.Spec Builtin
set_option maxRecDepth 100000
set_option linter.unusedVariables false
namespace Mine
section
variable {w : World} {G b : Heap} {A : Around} {n : Nat} {o : Own} {env : Env} {L' : Addr} {hid : List (Addr × Obj)} {m : Locs}
set_option maxHeartbeats 4000000 in
/-- are_one = .. -/
theorem law_i3 (W : Wld (KK w) G) (hA : AOk (n + 12) A) (O : EnvOk env (LF L' hid) LN) {P : Flow → Heap → Locs → Prop} {st : Stmt} (hst : askS[3]? = some st) {pa pe : Option Nat} {a e : Value} (ha : OptV a pa) (he : OptV e pe) (hma : m "here" = some a) (hme : m "there" = some e)
    (K : P .next b (fun z => if z = "are_one" then some (.bool (pa.isSome && decide (pa = pe))) else m z)) : TT w G A (LF L' hid) (exec st env) b m P := by
  cases hst
  cases pa with
  | none =>
    have hv : a = .none := ha
    subst hv
    exact t_assign (e_and (e_cmp (e_local O rfl rfl hma (e_none (c_isnot_none ⟨false, rfl, (fun c => by cases c), (fun _ => s_local O rfl rfl K)⟩ _ _)))))
  | some k =>
    obtain ⟨t, rfl⟩ := ha
    refine t_assign (e_and (e_cmp (e_local O rfl rfl hma (e_none (c_isnot_none ⟨true, rfl, (fun _ => e_cmp (e_local O rfl rfl hma (e_local O rfl rfl hme ?_))), (fun c => by cases c)⟩ _ _)))))
    cases pe with
    | none =>
      have hv : e = .none := he
      subst hv
      have eq1 : PyData.eqv (.int (Int.ofNat k)) .none = false := by
        cases h : PyData.eqv (.int (Int.ofNat k)) .none with
        | false => rfl
        | true => exact absurd ((eqv_iff _ _ rfl rfl).mp h) (by simp)
      refine c_eq_data (n := n) (hA.mono (by first | exact lo rfl | omega)) ⟨_, .int ..⟩ RD.none rfl rfl ?_ _ _
      rw [eq1]
      exact s_local O rfl rfl K
    | some j =>
      obtain ⟨t2, rfl⟩ := he
      refine c_eq_int ?_ _ _
      refine s_local O rfl rfl ?_
      have q : (Int.ofNat k == Int.ofNat j) = ((some k).isSome && decide (some k = some j)) := by
        by_cases h : k = j
        · subst h; simp
        · simp [h]; omega
      rw [q]
      exact K
end
end Mine
end
section
open PySem PySem.W PyProof.Rows PySem.Calls PySem.Spec Builtin
set_option maxRecDepth 100000
set_option linter.unusedVariables false
namespace Mine
abbrev Bp (r : Role) : Prop := r = .part
section
variable {w : World} {G b : Heap} {A : Around} {n : Nat} {o : Own} {env : Env} {L' : Addr} {hid : List (Addr × Obj)} {m : Locs} {M : Mem} {S : St} {d rl tl : Addr} {sm : Nat} {rows : List (Str × List Nat)} {told : List (Nat × Nat)} {pl hx tb sl : Addr} {ps : List Nat} {x y : Nat} {xs : List (Pat × Option Nat)}
theorem SomeO.add {T : Role → Prop} {b₁ : Heap} {p : Pat} {pa : Option Nat} {ta : Addr} {u a : Value} (h : SomeO b o sl xs) {vs : List Value} (Lv : OL b o .part sl vs) (hl : vs.length = xs.length)
    (hq : ∀ (i : Nat) (x : Pat × Option Nat), xs[i]? = some x → SomeE b o x vs[i]?)
    (m₁ : Mv T b o b₁ o) (L₁ : OL b₁ o .part sl (vs ++ [.ref ta])) (ota : o ta = none) (l : Tp b ta [u, a]) (hp : PatAt b o p u) (ha : OptV a pa) : SomeO b₁ o sl (xs ++ [(p, pa)]) := by
  refine ⟨_, L₁, by simp [hl], fun i q hi => ?_⟩
  by_cases hk : i < xs.length
  · rw [List.getElem?_append_left hk] at hi
    obtain ⟨c, v, u', h1, h2, h3, h4, h5⟩ := hq i q hi
    exact ⟨c, v, u', by rw [List.getElem?_append_left (by rw [hl]; exact hk)]; exact h1, h2, (tp_move h3 h2 m₁).1, h4.move m₁, h5⟩
  · have hil := (List.getElem?_eq_some_iff.mp hi).1
    simp at hil
    have : i = xs.length := by omega
    subst this
    simp at hi
    subst hi
    exact ⟨ta, u, a, by rw [← hl]; simp, ota, (tp_move l ota m₁).1, hp.move m₁, ha⟩
set_option maxHeartbeats 4000000 in
/-- some.append((one, here)) -/
theorem law_i5 (W : Wld (KK w) G) (hA : AOk (n + 12) A) (O : EnvOk env (LF L' hid) LN) {P : Flow → Heap → Locs → Prop} {st : Stmt} (hst : askS[5]? = some st) (h : LA w G b m o M S d rl tl sm rows told pl ps hx tb x y sl xs) (hxs : xs.length ≤ 20)
    {p : Pat} {pa : Option Nat} {u a : Value} (hp : PatAt b o p u) (hmu : m "one" = some u) (ha : OptV a pa) (hma : m "here" = some a)
    (K : ∀ b₁, Mv Bp b o b₁ o → LA w G b₁ m o M S d rl tl sm rows told pl ps hx tb x y sl (xs ++ [(p, pa)]) → P .next b₁ m) : TT w G A (LF L' hid) (exec st env) b m P := by
  have lz := lim_size
  have hlim : lim = 100000 := rfl
  cases hst
  obtain ⟨vs, Lv, hl, hq⟩ := h.so
  refine t_expr O (e_lmeth PySem.F.slot_list_append PySem.F.type_list_append (e_local O rfl rfl h.ms ⟨sl, vs, rfl, Lv.ls, e_spl_cons (e_tuple (e_spl_cons (e_local O rfl rfl hmu (e_spl_cons (e_local O rfl rfl hma (e_spl_nil ?_))))))⟩))
  refine c_newTuple (by simp [sizeLine]) (fun ta b₁ e₁ n₁ l₁ => e_spl_nil ?_) _ _
  have h₁ := h.ext e₁
  have ota : o ta = none := h.p.s.ok.own_new n₁
  obtain ⟨vs₁, Lv₁, hl₁, hq₁⟩ := h₁.so
  refine o_append h₁.p.s.ok Lv₁ (by omega) (fun b₂ m₂ L₂ => ⟨nr_none, ?_⟩) _ _
  have so₂ := SomeO.add h₁.so Lv₁ hl₁ hq₁ m₂ L₂ ota l₁ (hp.move (Mv.ext (T := F0) e₁)) ha
  have hs := h₁.p.s
  have s₂ : LS w G b₂ m o M S d rl tl sm rows told := ⟨hs.ok.move m₂, hs.ra.move m₂ (fun r h => by rw [h]; rfl), hs.da.move m₂ (by decide), hs.ro.move m₂ (by decide), hs.to.move m₂ (by decide), hs.md, hs.mh, hs.mr, hs.mt⟩
  exact K b₂ ((Mv.ext e₁).trans m₂) ⟨⟨s₂, (h₁.p.lp.move h₁.p.po m₂).1, h₁.p.po, h₁.p.pc.move m₂, h.p.mp, h.p.mc⟩, h₁.ta.move m₂, h.mt, so₂, h.ms⟩
end
end Mine
end
section
open PySem PySem.W PyProof.Rows PySem.Calls PySem.Spec Builtin
set_option maxRecDepth 100000
set_option linter.unusedVariables false
namespace Mine
section
variable {w : World} {G b : Heap} {A : Around} {f : Fram} {n : Nat} {o : Own} {env : Env} {L' : Addr} {hid : List (Addr × Obj)} {m : Locs} {M : Mem} {S : St} {d rl tl : Addr} {sm : Nat} {rows : List (Str × List Nat)} {told : List (Nat × Nat)} {pl hx tb sl : Addr} {ps : List Nat} {x y : Nat} {xs : List (Pat × Option Nat)}
theorem e_notb {e : PySem.Expr} {pos : Pos} {P : Value → Heap → Prop} (k : ET w G A f (eval e env) b m fun v b₁ => ∃ c, v = .bool c ∧ P (.bool (!c)) b₁) : ET w G A f (eval (.UnaryOp .Not e pos) env) b m P := fun s Q E F c =>
  wpAny_UnaryOp (k s _ E F fun v h₁ tk b₁ F₁ p => by
    obtain ⟨z, rfl, p⟩ := p
    unfold unaryOp
    exact wpAny_bind (wpAny_truthy_bool (wpAny_pure (c _ h₁ tk b₁ F₁ p))))
end
end Mine
end
section
open PySem PySem.W PyProof.Rows PySem.Calls PySem.Spec Builtin
set_option maxRecDepth 100000
set_option linter.unusedVariables false
namespace Mine
section
variable {w : World} {G b : Heap} {A : Around} {f : Fram} {n : Nat} {o : Own} {env : Env} {L' : Addr} {hid : List (Addr × Obj)} {m : Locs} {M : Mem} {S : St} {d rl tl : Addr} {sm : Nat} {rows : List (Str × List Nat)} {told : List (Nat × Nat)} {pl hx tb sl : Addr} {ps : List Nat} {x y : Nat} {xs : List (Pat × Option Nat)}
theorem c_ne_bool (hA : AOk (n + 1) A) {a c : Bool} {P : Value → Heap → Prop} (k : P (.bool (a != c)) b) : CT w G A (compareOp .NotEq (.bool a) (.bool c)) b P := by
  refine c_ne_data (n := n) hA (RD.bool a) (RD.bool c) rfl rfl ?_
  have : PyData.eqv (.bool a) (.bool c) = (a == c) := by cases a <;> cases c <;> decide
  rw [this]; exact k
/-- what holds says -/
def hold (pa pe : Option Nat) (k : Str) : Bool := ((pa.isSome && decide (pa = pe)) == decide (k = "alike"))
theorem hold_comm (pa pe : Option Nat) (k : Str) : hold pa pe k = hold pe pa k := by
  unfold hold
  have : (pa.isSome && decide (pa = pe)) = (pe.isSome && decide (pe = pa)) := by
    by_cases h : pa = pe
    · subst h; rfl
    · have h' : ¬ pe = pa := fun q => h q.symm
      simp [h, h']
  rw [this]
inductive JH (w : World) (G : Heap) (o : Own) (M : Mem) (S : St) (d rl tl : Addr) (sm : Nat) (rows : List (Str × List Nat)) (told : List (Nat × Nat)) (pl : Addr) (ps : List Nat) (hx tb : Addr) (x y : Nat) (sl : Addr) (xs : List (Pat × Option Nat)) (b₃ : Heap) (u v a : Value) (i : Nat) (b' : Heap) (m' : Locs) : Prop
  | mk (h1 : Ext b₃ b') (h2 : LA w G b' m' o M S d rl tl sm rows told pl ps hx tb x y sl xs) (h3 : m' "one" = some u) (h4 : m' "other" = some v) (h5 : m' "here" = some a)
set_option maxHeartbeats 4000000 in
/-- holds, both ways round -/
theorem law_i4 (W : Wld (KK w) G) (hA : AOk (n + 12) A) (O : EnvOk env (LF L' hid) LN) {P : Flow → Heap → Locs → Prop} {st : Stmt} (hst : askS[4]? = some st) (h : LA w G b m o M S d rl tl sm rows told pl ps hx tb x y sl xs) {c : Nat} (T : Still told S rows ps c) (hc : c ≤ 45000) (h7 : rows.length ≤ 7) (hx' : x < rows.length) (hy : y < rows.length)
    {p q : Pat} {u v a : Value} (hp : PatAt b o p u) (hq : PatAt b o q v) (h1 : p.high ≤ 3) (h2 : q.high ≤ 3) (hmu : m "one" = some u) (hmv : m "other" = some v) (hma : m "here" = some a)
    (hm1 : m "are_one" = some (.bool ((placeF rows ps x y p).isSome && decide (placeF rows ps x y p = placeF rows ps x y q))))
    (K : ∀ b₁ m₁, Ext b b₁ → LA w G b₁ m₁ o M S d rl tl sm rows told pl ps hx tb x y sl xs → m₁ "one" = some u → m₁ "here" = some a → P .next b₁ m₁) : TT w G A (LF L' hid) (exec st env) b m P := by
  cases hst
  refine t_for (e_tuple (e_spl_cons (e_tuple (e_spl_cons (e_str fun t1 => e_spl_cons (e_local O rfl rfl hm1 (e_spl_nil (c_newTuple (by simp [sizeLine]) (fun a1 b₁ e₁ n₁ l₁ => ?_) _ _))))))))
  refine e_spl_cons (e_tuple (e_spl_cons (e_str fun t2 => e_spl_cons (e_notb (e_local O rfl rfl hm1 ⟨_, rfl, e_spl_nil (c_newTuple (by simp [sizeLine]) (fun a2 b₂ e₂ n₂ l₂ => ?_) _ _)⟩)))))
  refine e_spl_nil (c_newTuple (by simp [sizeLine]) (fun ta b₃ e₃ n₃ l₃ => ?_) _ _)
  have e₀₃ := (e₁.trans e₂).trans e₃
  refine ⟨_, _, _, itv_tuple hA.hd l₃, JH w G o M S d rl tl sm rows told pl ps hx tb x y sl xs b₃ u v a, ⟨fun _ _ h => h, h.ext e₀₃, hmu, hmv, hma⟩, ?_, ?_, ?_⟩
  · rintro i b' m' ⟨e, _⟩ c _ z hz; exact e _ _ hz
  · rintro i b' m' z l hi ⟨e, H, k1, k2, k3⟩ pv
    have Om := O.more l
    have hi2 : i < 2 := hi
    have bn : ∀ z : Bool, (!z) = (z == false) := by intro z; cases z <;> rfl
    obtain ⟨az, kind, tk, due, rfl, Tz, hd⟩ : ∃ az kind tk due, z = .ref az ∧ Tp b' az [.str kind tk, .bool due] ∧ due = hold (placeF rows ps x y p) (placeF rows ps x y q) kind := by
      match i, hi2, pv with
      | 0, _, pv => cases pv; exact ⟨a1, "alike", t1, _, rfl, ((l₁.ext e₂).ext e₃).ext e, by unfold hold; simp⟩
      | 1, _, pv => cases pv; exact ⟨a2, "unlike", t2, _, rfl, (l₂.ext e₃).ext e, by unfold hold; rw [show decide (("unlike" : Str) = "alike") = false from by decide]; exact bn _⟩
    have hp' := hp.move (Mv.ext (T := F0) (e₀₃.trans e))
    have hq' := hq.move (Mv.ext (T := F0) (e₀₃.trans e))
    refine t_into (l := [_, _]) (c_unpack_tuple hA.hd Tz rfl ?_ _ _)
    refine a_cons (s_name (s_local Om rfl rfl (a_cons (s_name (s_local Om rfl rfl (a_nil ?_))))))
    have H₁ := (H.upd (z := "kind") (v := some (.str kind tk)) (by decide)).upd (z := "due") (v := some (.bool due)) (by decide)
    have j1 : ∀ {z : Str}, z ≠ "due" → z ≠ "kind" → (fun (q : Str) => if q = "due" then some (Value.bool due) else if q = "kind" then some (.str kind tk) else m' q) z = m' z := fun h1 h2 => (if_neg h1).trans (if_neg h2)
    have ev := T.ev h7 hc hx' hy
    refine t_cons (t_if (i_boolop (i_or (i_cmp (e_mth W Om rfl rfl H₁.p.mc H₁.p.pc.inst (m_placer_holds w) rfl (e_spl_cons (e_tuple (e_spl_cons (e_local Om rfl rfl ((if_neg (by decide)).trans (if_pos rfl)) (e_spl_cons (e_local Om rfl rfl ((j1 (by decide) (by decide)).trans k1) (e_spl_cons (e_local Om rfl rfl ((j1 (by decide) (by decide)).trans k2) (e_spl_nil (c_newTuple (by simp [sizeLine]) (fun tz b₄ e₄ n₄ l₄ => ?_) _ _)))))))))))))))
    have H₄ := H₁.ext e₄
    refine e_spl_cons (e_local Om rfl rfl H₄.mt (e_spl_nil ?_))
    refine CT.of_DT ((pl_holds (n := n) W h1 h2 (hA.mono (by first | exact lo rfl | omega)) H₄.p.s.ok (H₄.plx T h7 hc hx' hy) l₄ (hp'.move (Mv.ext (T := F0) e₄)) (hq'.move (Mv.ext (T := F0) e₄))).mono ?_)
    rintro _ b₅ ⟨e₅, rfl⟩
    have H₅ := H₄.ext e₅
    rw [ev p, ev q]
    refine e_local Om rfl rfl (if_pos rfl) (c_ne_bool (n := n) (hA.mono (by first | exact lo rfl | omega)) ⟨false, by rw [hd]; unfold hold; simp, (fun c => by cases c), fun _ => ?_⟩ _ _)
    refine i_or (i_cmp (e_mth W Om rfl rfl H₅.p.mc H₅.p.pc.inst (m_placer_holds w) rfl (e_spl_cons (e_tuple (e_spl_cons (e_local Om rfl rfl ((if_neg (by decide)).trans (if_pos rfl)) (e_spl_cons (e_local Om rfl rfl ((j1 (by decide) (by decide)).trans k2) (e_spl_cons (e_local Om rfl rfl ((j1 (by decide) (by decide)).trans k1) (e_spl_nil (c_newTuple (by simp [sizeLine]) (fun ty b₆ e₆ n₆ l₆ => ?_) _ _))))))))))))
    have H₆ := H₅.ext e₆
    have e₄₆ := (e₄.trans e₅).trans e₆
    refine e_spl_cons (e_local Om rfl rfl H₆.mt (e_spl_nil ?_))
    refine CT.of_DT ((pl_holds (n := n) W h2 h1 (hA.mono (by first | exact lo rfl | omega)) H₆.p.s.ok (H₆.plx T h7 hc hx' hy) l₆ (hq'.move (Mv.ext (T := F0) e₄₆)) (hp'.move (Mv.ext (T := F0) e₄₆))).mono ?_)
    rintro _ b₇ ⟨e₇, rfl⟩
    have H₇ := H₆.ext e₇
    rw [ev p, ev q]
    refine e_local Om rfl rfl (if_pos rfl) (c_ne_bool (n := n) (hA.mono (by first | exact lo rfl | omega)) ⟨false, by rw [hd, hold_comm]; unfold hold; simp, (fun c => by cases c), fun _ => ?_⟩ _ _)
    exact i_or_nil ⟨(fun c => by cases c), fun _ => t_nil (t_nil ⟨fun _ _ z => e₇ _ _ (e₄₆ _ _ (e _ _ z)), H₇, (j1 (by decide) (by decide)).trans k1, (j1 (by decide) (by decide)).trans k2, (j1 (by decide) (by decide)).trans k3⟩)⟩
  · rintro b' m' ⟨e, H, k1, k2, k3⟩
    exact K b' m' (fun _ _ z => e _ _ (e₀₃ _ _ z)) H k1 k3
end
end Mine
end
section
open PySem PySem.W PyProof.Rows PySem.Calls PySem.Spec Builtin
set_option maxRecDepth 100000
set_option linter.unusedVariables false
namespace Mine
/-- what is known of an asked pattern -/
structure AskOk (rows : List (Str × List Nat)) (ps : List Nat) (x y : Nat) (e : Pat × Option Nat) : Prop where
  high : e.1.high ≤ 3
  good : e.1.good
  many : e.1.many ≤ 15
  at_ : e.2 = placeF rows ps x y e.1
section
variable {w : World} {G b : Heap} {A : Around} {n : Nat} {o : Own} {env : Env} {L' : Addr} {hid : List (Addr × Obj)} {m : Locs} {M : Mem} {S : St} {d rl tl : Addr} {sm : Nat} {rows : List (Str × List Nat)} {told : List (Nat × Nat)} {pl hx tb sl : Addr} {ps : List Nat} {x y : Nat} {xs : List (Pat × Option Nat)}
/-- a range, whose object is not looked at again -/
theorem itv_range0 {a : Addr} (hh : A.handled = none) (x : Rg b a n) (hn : n < 2 ^ 60) : ItV w G A b (.ref a) n (fun i v => ∃ t, v = .int (Int.ofNat i) t) [] := by
  obtain ⟨t, u, v, x⟩ := x
  refine ⟨fun c hc => absurd hc (by simp), fun s Q E e q => ?_⟩
  have hsz : Builtin.Range.rangeSize 0 n 1 = n := by rw [rangeSize_one]; split <;> omega
  refine wpAny_pyIter_range (e _ _ x) (small_one (by omega) (by omega) (by omega) (by omega)) (q s.heap.objs.size [s.heap.objs.size] (fun i h => IsRangeIter h s.heap.objs.size (0 + (i : Nat) * 1) ((n : Int) - (i : Nat)) 1) _ s.toks (fun c o y => Heap.get?_push_of_some _ y) (Heap.get?_none_of_le (Nat.le_refl _)) ?_ ?_ ?_)
  · have W := Walks.range (prog := PG) (w := w) hh s.heap.objs.size 0 1 n
    refine ⟨⟨W.sub, W.frame, fun i s' Q' E' hi st q' => W.item i s' Q' E' hi st fun v h' tk pv => ?_, W.done, W.self⟩, fun i h st => ⟨_, st⟩, fun t i v s' Q' E' st q' => own_go t st rfl (by decide +kernel) q'⟩
    obtain ⟨t, rfl⟩ := pv
    exact q' _ h' tk ⟨t, by simp⟩
  · rw [hsz]
    simpa using Heap.get?_push_size s.heap (o := { cls := .type "range_iterator", data := .fields #[rawInt 0, rawInt n, rawInt 1] }) rfl
  · intro c hc; simp at hc; simp [hc]
inductive JI (w : World) (G : Heap) (o : Own) (M : Mem) (S : St) (d rl tl : Addr) (sm : Nat) (rows : List (Str × List Nat)) (told : List (Nat × Nat)) (pl : Addr) (ps : List Nat) (hx tb : Addr) (x y : Nat) (sl : Addr) (i : Nat) (b' : Heap) (m' : Locs) : Prop
  | mk (sm' : Nat) (xs : List (Pat × Option Nat)) (h1 : LA w G b' m' o M S d rl tl sm' rows told pl ps hx tb x y sl xs) (h2 : sm' ≤ sm + 22 * i) (h3 : xs.length = i) (h4 : ∀ e ∈ xs, AskOk rows ps x y e)
set_option maxHeartbeats 4000000 in
/-- the six asks -/
theorem law_i (W : Wld (KK w) G) (hA : AOk (n + 12) A) (O : EnvOk env (LF L' hid) LN) {P : Flow → Heap → Locs → Prop} {st : Stmt} (hst : (bodyS (topS 20))[8]? = some st) (h : LA w G b m o M S d rl tl sm rows told pl ps hx tb x y sl []) (hsm : sm ≤ 200) {c : Nat} (T : Still told S rows ps c) (hc : c ≤ 45000) (hok : RowsOk rows) (h7 : rows.length ≤ 7) (hx' : x < rows.length) (hy : y < rows.length)
    (K : ∀ b₁ m₁ sm₁ xs, LA w G b₁ m₁ o M S d rl tl sm₁ rows told pl ps hx tb x y sl xs → (∀ e ∈ xs, AskOk rows ps x y e) → xs.length = 6 → P .next b₁ m₁) : TT w G A (LF L' hid) (exec st env) b m P := by
  cases hst
  refine t_for (e_call (e_builtin W O rfl (b_range w).1 (b_range w).2 (by decide) (e_callWith keeps3_type (e_spl_cons (e_int fun t1 => e_spl_nil (c_range (n := 6) rfl (fun ra b₂ e₂ n₂ r₂ => ?_) _ _))))))
  refine ⟨_, _, _, itv_range0 hA.hd r₂ (by decide), JI w G o M S d rl tl sm rows told pl ps hx tb x y sl,
    ⟨sm, [], h.ext e₂, Nat.le_refl _, rfl, by intro e he; cases he⟩, ?_, ?_, ?_⟩
  · intro i b' m' _ c hc; simp at hc
  · rintro i b₃ m₃ v l hi ⟨sm₃, xs, h₃, hsm₃, hl, hxs⟩ ⟨tv, rfl⟩
    have Om : EnvOk env (LF L' (l ++ hid)) LN := O.more l
    have hi6 : i < 6 := hi
    refine s_name (s_local Om rfl rfl ?_)
    have h₄ := h₃.upd (z := "turn") (v := some (.int (Int.ofNat i) tv)) (by decide)
    show TT w G A (LF L' (l ++ hid)) (execs _ env) b₃ _ _
    refine t_cons (law_i0 (n := n) (st := _) W hA Om rfl h₄ (by omega) fun b₅ m₅ p q u v h₅ hp hq g1 g2 g3 g4 g5 e1 e2 => ?_)
    refine t_cons (law_i1 (n := n) (st := _) W hA Om rfl h₅ T hok h7 hx' hy hp hq g1 g2 g3 g4 e1 e2 fun b₆ m₆ a c' h₆ hp₆ hq₆ f1 f2 r1 r2 k1 k2 => ?_)
    refine t_cons (law_i2 (n := n) (st := _) W hA Om rfl h₆ T hc h7 hx' hy hp₆ hq₆ g1 g2 f1 f2 r1 r2 k1 k2 fun b₇ e₇ => ?_)
    refine t_cons (law_i3 (n := n) (st := _) W hA Om rfl r1 r2 k1 k2 ?_)
    have h₇ := (h₆.ext e₇).upd (z := "are_one") (v := some (.bool ((placeF rows ps x y p).isSome && decide (placeF rows ps x y p = placeF rows ps x y q)))) (by decide)
    have hp₇ := hp₆.move (Mv.ext (T := F0) e₇)
    have hq₇ := hq₆.move (Mv.ext (T := F0) e₇)
    refine t_cons (law_i4 (n := n) (st := _) W hA Om rfl h₇ T hc h7 hx' hy hp₇ hq₇ g1 g2 ((if_neg (by decide)).trans f1) ((if_neg (by decide)).trans f2) ((if_neg (by decide)).trans k1) (if_pos rfl) fun b₈ m₈ e₈ h₈ f3 k3 => ?_)
    have hp₈ := hp₇.move (Mv.ext (T := F0) e₈)
    refine t_cons (law_i5 (n := n) (st := _) W hA Om rfl h₈ (by omega) hp₈ f3 r1 k3 fun b₉ mv h₉ => t_nil ⟨_, _, h₉, by omega, by simp [hl], fun e he => ?_⟩)
    rcases List.mem_append.mp he with he | he
    · exact hxs e he
    · rw [List.mem_singleton.mp he]
      exact ⟨g1, g3, g5, rfl⟩
  · rintro b' m' ⟨sm', xs, h', _, hl, hxs⟩
    exact K b' m' sm' xs h' hxs hl
end
end Mine
end
section
open PySem PySem.W PyProof.Rows PySem.Calls PySem.Spec Builtin
set_option maxRecDepth 100000
set_option linter.unusedVariables false
namespace Mine
theorem range_getD (ps : List Nat) : (List.range ps.length).map (fun j => ps.getD j 0) = ps := by
  apply List.ext_getElem?
  intro i
  by_cases h : i < ps.length
  · simp [h, List.getD]
  · simp [h]
section
variable {w : World} {G b : Heap} {A : Around} {n : Nat} {o : Own} {env : Env} {L' : Addr} {hid : List (Addr × Obj)} {m : Locs} {M : Mem} {S : St} {d rl tl : Addr} {sm : Nat} {rows : List (Str × List Nat)} {told : List (Nat × Nat)} {pl hx tb sl : Addr} {ps : List Nat} {x y : Nat} {xs : List (Pat × Option Nat)}
inductive SameC (b : Heap) (ps : List Nat) (i : Nat) (ys : List Value) (b' : Heap) : Prop
  | mk (h1 : b = b') (h2 : Nums ys ((List.range i).map fun j => ps.getD j 0))
set_option maxHeartbeats 4000000 in
/-- nothing was put in by asking, and the classes are as found -/
theorem law_j (W : Wld (KK w) G) (hA : AOk (n + 12) A) (O : EnvOk env (LF L' hid) LN) {P : Flow → Heap → Locs → Prop} {st : Stmt} (hst : (bodyS (topS 20))[9]? = some st) (h : LA w G b m o M S d rl tl sm rows told pl ps hx tb x y sl xs) {c : Nat} (T : Still told S rows ps c) (hc : c ≤ 45000) (h7 : rows.length ≤ 7)
    (K : ∀ b₁, Ext b b₁ → P .next b₁ m) : TT w G A (LF L' hid) (exec st env) b m P := by
  have lz := lim_size
  have hlim : lim = 100000 := rfl
  have hn := T.t.nodes
  have hpl : ps.length = rows.length := T.i.len
  have fit := T.t.inv.fit (by rw [hn]; omega) (by omega)
  cases hst
  obtain ⟨rvs, Lr, hrl, _⟩ := h.p.s.ro
  refine t_if (i_boolop (i_or (i_cmp (e_mthc W O rfl rfl h.p.s.mh h.p.s.ra.h.inst.inst (m_heap_size w) rfl (e_spl_nil (CT.of_DT ((hp_size (n := n) W (hA.mono (by first | exact lo rfl | omega)) h.p.s.ra fit).mono ?_)))))))
  rintro _ _ ⟨rfl, t, rfl⟩
  refine e_len W O rfl (b_len w).1 (e_cell O rfl rfl h.p.s.mr ⟨rl, rvs, rfl, Lr.ls, by omega, fun t9 => ?_⟩) (b_len w).2
  rw [hrl, hn]
  refine c_ne_int ⟨false, by simp, (fun c => by cases c), fun _ => ?_⟩ _ _
  refine i_or (i_cmp (e_comp O rfl rfl rfl rfl rfl rfl (fun p hp => by cases hp with | head => rfl | tail _ h => cases h) (e_call (e_builtin W O rfl (b_range w).1 (b_range w).2 (by decide) (e_callWith keeps3_type (e_spl_cons (e_len W O rfl (b_len w).1 (e_cell O rfl rfl h.p.s.mr ⟨rl, rvs, rfl, Lr.ls, by omega, fun t9 => ?_⟩) (b_len w).2)))))))
  rw [hrl]
  refine e_spl_nil (c_rangeN (fun ra b₂ e₂ n₂ r₂ => ?_) _ _)
  have h₂ := h.ext e₂
  refine ⟨_, _, _, itv_range0 hA.hd r₂ (by omega), by omega, SameC b₂ ps, ⟨rfl, .nil⟩, ?_, ?_, ?_⟩
  · intro i ys b' _ c hc; simp at hc
  · rintro i ys b' v C hid' env' hi ⟨rfl, hy⟩ ⟨t2, rfl⟩ O'
    refine e_mthc W O' rfl rfl h.p.s.mh h₂.p.s.ra.h.inst.inst (m_heap_find w) rfl (e_spl_cons (e_local O' rfl rfl (if_pos rfl) (e_spl_nil (CT.of_DT ((hp_find (n := n) W (hA.mono (by first | exact lo rfl | omega)) h₂.p.s.ra fit (by rw [hn]; exact hi)).mono ?_)))))
    rintro _ _ ⟨rfl, t3, rfl⟩
    refine ⟨rfl, ?_⟩
    rw [T.same i hi, List.range_succ, List.map_append]
    exact hy.append (.one _ _)
  · rintro D ys b₅ b₆ ⟨rfl, hy⟩ e₆ nD lD
    rw [← hpl, range_getD] at hy
    have h₆ := h₂.ext e₆
    obtain ⟨pvs, Lp, Np⟩ := h₆.p.lp
    have hpn : plainD (.list ((ps.map Int.ofNat).map .int)) = true := by
      rw [plainD, List.map_map]; exact plain_nums ps
    have eqq : PyData.eqv (.list ((ps.map Int.ofNat).map .int)) (.list ((ps.map Int.ofNat).map .int)) = true := (eqv_iff _ _ hpn hpn).mpr rfl
    refine e_local O rfl rfl h.p.mp (c_ne_data (n := n) (hA.mono (by first | exact lo rfl | omega)) (.list lD (RDs.ints hy)) (.list Lp (RDs.ints Np)) (okD_ints _) (okD_ints _) ⟨false, by rw [eqq]; rfl, (fun c => by cases c), fun _ => ?_⟩ _ _)
    exact i_or_nil ⟨(fun c => by cases c), fun _ => t_nil (K _ (e₂.trans e₆))⟩
end
end Mine
end
section
open PySem PySem.W PyProof.Rows PySem.Calls PySem.Spec Builtin
set_option maxRecDepth 100000
set_option linter.unusedVariables false
namespace Mine
noncomputable abbrev putS : List Stmt := match (bodyS (topS 20))[10]? with | some s => forBody s | none => []
section
variable {w : World} {G b : Heap} {A : Around} {n : Nat} {o : Own} {env : Env} {L' : Addr} {hid : List (Addr × Obj)} {m : Locs} {M : Mem} {S : St} {d rl tl : Addr} {sm : Nat} {rows : List (Str × List Nat)} {told : List (Nat × Nat)} {pl hx tb sl : Addr} {ps : List Nat} {x y : Nat} {xs : List (Pat × Option Nat)}
/-- what a put of p leads to, from the heap as first settled -/
structure Put (told : List (Nat × Nat)) (S₀ S S' : St) (x y : Nat) (p : Pat) (num : Nat) : Prop where
  fit : Fit S'
  lt : num < S'.nodes.length
  ev : S'.ev x y p = some (root S'.par num)
  same : ∀ d, S₀.ev x y p = some d → root S'.par d = root S'.par num ∧ d < S'.nodes.length
  new : ∀ d, S₀.ev x y p = some d → S.nodes.length < S'.nodes.length → root S'.par S.nodes.length < S.nodes.length
  n : S.nodes.length ≤ S'.nodes.length
  hx : x < S'.nodes.length
  hy : y < S'.nodes.length
theorem Put.of {told : List (Nat × Nat)} {S₀ S : St} {c₀ c : Nat} {p : Pat} (P₀ : PutJ told S₀ c₀) (P : PutJ told S c) (e : ExtS S₀ S) (hc₀ : c₀ ≤ 45000) (hn : S.nodes.length + p.many ≤ 1000) (hc : c + 2 * p.many ≤ 48000) (hx : x < S₀.nodes.length) (hy : y < S₀.nodes.length) :
    Put told S₀ S (putF x y p S).1 x y p (putF x y p S).2 ∧ PutJ told (putF x y p S).1 (c + 2 * p.many) ∧ ExtS S₀ (putF x y p S).1 ∧ (putF x y p S).1.nodes.length ≤ S.nodes.length + p.many := by
  have hx1 : x < S.nodes.length := Nat.lt_of_lt_of_le hx e.n
  have hy1 : y < S.nodes.length := Nat.lt_of_lt_of_le hy e.n
  have Q := put_ok p P hn hc hx1 hy1
  have hqn := Q.n
  have e2 := e.trans Q.ext
  have hen := e.n
  have f0 := P₀.inv.fit (S := S₀) (by omega) (by omega)
  have f1 := P.inv.fit (S := S) (by omega) (by omega)
  have f2 := Q.j.inv.fit (by omega) (by omega)
  refine ⟨⟨f2, Q.lt, Q.ev, fun d hd => ?_, fun d hd hlt => ?_, Q.ext.n, Nat.lt_of_lt_of_le hx e2.n, Nat.lt_of_lt_of_le hy e2.n⟩, Q.j, e2, Q.n⟩
  · have h1 := ev_ext P₀.inv e2 hx hy f0 p hd
    have h2 := Q.ev
    rw [h2] at h1
    have h3 : root (putF x y p S).1.par (putF x y p S).2 = d := Option.some.inj h1
    exact ⟨(ev_root Q.j.inv f2 (Nat.lt_of_lt_of_le hx e2.n) (Nat.lt_of_lt_of_le hy e2.n) (p := p) (d := d) (by rw [h2, h3])).trans h3.symm, Nat.lt_of_lt_of_le (ev_lt f0 hx hy hd) e2.n⟩
  · have h1 := ev_ext P₀.inv e hx hy f0 p hd
    exact Q.old d S.nodes.length h1 (fun i hi => Nat.lt_of_le_of_lt (root_le _ _) hi) _ hlt
set_option maxHeartbeats 4000000 in
/-- many, number = .. and settle -/
theorem law_k0 (W : Wld (KK w) G) (hA : AOk (n + 14) A) (O : EnvOk env (LF L' hid) LN) {P : Flow → Heap → Locs → Prop} {st : Stmt} (hst : putS[0]? = some st) (h : LA w G b m o M S d rl tl sm rows told pl ps hx tb x y sl xs) {p : Pat} {u : Value} (hJ : AddN 45000 told p.many S) (hfit : Fit S)
    (hp : PatAt b o p u) (h1 : p.high ≤ 3) (g1 : p.good) (hx' : x < S.nodes.length) (hy : y < S.nodes.length) (hmu : m "one" = some u)
    (K : ∀ b₁ m₁ o₁ t1 t2, Mv Hp b o b₁ o₁ → LA w G b₁ m₁ o₁ M (putF x y p S).1 d rl tl sm rows told pl ps hx tb x y sl xs → (∀ z : Str, z ≠ "many" → z ≠ "number" → m₁ z = m z) → m₁ "many" = some (.int (Int.ofNat S.nodes.length) t1) → m₁ "number" = some (.int (Int.ofNat (putF x y p S).2) t2) → P .next b₁ m₁) : TT w G A (LF L' hid) (exec st env) b m P := by
  cases hst
  refine t_assign_swapped (names := ["many", "number"]) (hw := (swapped_of O _ _).trans rfl) (e_tuple (e_spl_cons (e_mthc W O rfl rfl h.p.s.mh h.p.s.ra.h.inst.inst (m_heap_size w) rfl (e_spl_nil (CT.of_DT ((hp_size (n := n) W (hA.mono (by first | exact lo rfl | omega)) h.p.s.ra hfit).mono ?_))))))
  rintro _ _ ⟨rfl, t1, rfl⟩
  refine e_spl_cons (e_mth W O rfl rfl h.p.mc h.p.pc.inst (m_placer_put w) rfl (e_spl_cons (e_local O rfl rfl hmu (e_spl_cons (e_local O rfl rfl h.mt (e_spl_nil ?_))))))
  refine CT.of_DT ((pl_put (n := n) W (addN_ok (Nat.le_refl _) told) (i := 0) 3 p h1 g1 (hA.mono (by first | exact lo rfl | omega)) h.p.s.ok h.p.s.ra h.p.pc h.ta hx' hy hp (by rwa [Nat.zero_add])).mono ?_)
  rintro _ b₂ ⟨⟨t2, rfl⟩, o₂, m₂, R₂, _⟩
  have h₂ := h.hp m₂ R₂
  refine e_spl_nil (c_newTuple (by simp [sizeLine]) (fun ta b₃ e₃ n₃ l₃ => ?_) _ _)
  have h₃ := h₂.ext e₃
  refine c_unpack_tuple hA.hd l₃ rfl ?_ _ _
  show TT w G A (LF L' hid) (assignInOrder [bindName env "number", bindName env "many"] [.int (Int.ofNat (putF x y p S).2) t2, .int (Int.ofNat S.nodes.length) t1]) b₃ m _
  refine a_cons (s_bind (s_local O rfl rfl (a_cons (s_bind (s_local O rfl rfl (a_nil ?_))))))
  exact K b₃ _ o₂ t1 t2 (m₂.trans (.ext e₃)) ((h₃.upd (z := "number") (v := some (.int (Int.ofNat (putF x y p S).2) t2)) (by decide)).upd (z := "many") (v := some (.int (Int.ofNat S.nodes.length) t1)) (by decide)) (fun z h1 h2 => (if_neg h1).trans (if_neg h2)) (if_pos rfl) ((if_neg (by decide)).trans (if_pos rfl))
set_option maxHeartbeats 4000000 in
theorem law_k1 (W : Wld (KK w) G) (hA : AOk (n + 14) A) (O : EnvOk env (LF L' hid) LN) {P : Flow → Heap → Locs → Prop} {st : Stmt} (hst : putS[1]? = some st) (h : LA w G b m o M S d rl tl sm rows told pl ps hx tb x y sl xs) {c : Nat} (hJ : PutJ told S c) (hn : S.nodes.length ≤ 1000) (hc : c ≤ 50000)
    (K : ∀ b₁ o₁, Mv Hp b o b₁ o₁ → LA w G b₁ m o₁ M S d rl tl sm rows told pl ps hx tb x y sl xs → P .next b₁ m) : TT w G A (LF L' hid) (exec st env) b m P := by
  cases hst
  refine t_expr O (e_mthc W O rfl rfl h.p.s.mh h.p.s.ra.h.inst.inst (m_heap_settle w) rfl (e_spl_nil ?_))
  refine CT.of_DT ((hp_settle (n := n) W (hA.mono (by first | exact lo rfl | omega)) (fun _ S' => S' = S) ?_ (i := 0) h.p.s.ok h.p.s.ra rfl).mono ?_)
  · rintro _ _ rfl
    refine ⟨hJ.inv.fit hn hc, hJ.inv.fit2 hn hc (by rw [hJ.wait]; exact Nat.zero_le _), (by rw [hJ.wait]; intro x hx; cases hx), fun xs x e => ?_⟩
    rw [hJ.wait] at e
    simp at e
  · rintro _ b₁ ⟨rfl, o₁, S₁, j, m₁, R₁, rfl, _⟩
    exact ⟨nr_none, K b₁ o₁ m₁ (h.hp m₁ R₁)⟩
end
end Mine
end
section
open PySem PySem.W PyProof.Rows PySem.Calls PySem.Spec Builtin
set_option maxRecDepth 100000
set_option linter.unusedVariables false
namespace Mine
section
variable {w : World} {G b : Heap} {A : Around} {n : Nat} {o : Own} {env : Env} {L' : Addr} {hid : List (Addr × Obj)} {m : Locs} {M : Mem} {S₀ S S' : St} {d rl tl : Addr} {sm : Nat} {rows : List (Str × List Nat)} {told : List (Nat × Nat)} {pl hx tb sl : Addr} {ps : List Nat} {x y : Nat} {xs : List (Pat × Option Nat)}
set_option maxHeartbeats 4000000 in
/-- its class is where it was put, and where it stood before -/
theorem law_k2 (W : Wld (KK w) G) (hA : AOk (n + 14) A) (O : EnvOk env (LF L' hid) LN) {P : Flow → Heap → Locs → Prop} {st : Stmt} (hst : putS[2]? = some st) (h : LA w G b m o M S' d rl tl sm rows told pl ps hx tb x y sl xs)
    {p : Pat} {num : Nat} {u v : Value} {t : Tok} {r : Option Nat} (Q : Put told S₀ S S' x y p num) (hr : ∀ d, r = some d → S₀.ev x y p = some d) (hp : PatAt b o p u) (h1 : p.high ≤ 3) (hv : OptV v r) (hmu : m "one" = some u) (hmv : m "here" = some v) (hmn : m "number" = some (.int (Int.ofNat num) t))
    (K : ∀ b₁, Ext b b₁ → P .next b₁ m) : TT w G A (LF L' hid) (exec st env) b m P := by
  cases hst
  have px : PL w b o M S' hx tb x y := ⟨h.p.s.ra, Q.fit, h.p.pc, h.ta, Q.hx, Q.hy⟩
  refine t_if (i_boolop (i_or (i_cmp (e_mth W O rfl rfl h.p.mc h.p.pc.inst (m_placer_class_of w) rfl (e_spl_cons (e_local O rfl rfl hmu (e_spl_cons (e_local O rfl rfl h.mt (e_spl_nil ?_)))))))))
  refine CT.of_DT ((pl_class (n := n) W 3 p h1 (hA.mono (by first | exact lo rfl | omega)) h.p.s.ok px hp).mono ?_)
  rintro _ b₁ ⟨e₁, t1, rfl⟩
  have h₁ := h.ext e₁
  rw [Q.ev]
  refine e_mthc W O rfl rfl h₁.p.s.mh h₁.p.s.ra.h.inst.inst (m_heap_find w) rfl (e_spl_cons (e_local O rfl rfl hmn (e_spl_nil (CT.of_DT ((hp_find (n := n) W (hA.mono (by first | exact lo rfl | omega)) h₁.p.s.ra Q.fit Q.lt).mono ?_)))))
  rintro _ _ ⟨rfl, t2, rfl⟩
  refine c_ne_int ⟨false, by simp [cz], (fun c => by cases c), fun _ => ?_⟩ _ _
  have fin : ∀ body : List Stmt, ET w G A (LF L' hid) (allTrue .Or [] env) b₁ m fun c b₁ => (c = true → TT w G A (LF L' hid) (execs body env) b₁ m P) ∧ (c = false → TT w G A (LF L' hid) (execs [] env) b₁ m P) := fun _ => i_or_nil ⟨(fun c => by cases c), fun _ => t_nil (K _ e₁)⟩
  cases r with
  | none =>
    have hv' : v = .none := hv
    subst hv'
    exact i_or (i_boolop (i_and (i_cmp (e_local O rfl rfl hmv (e_none (c_isnot_none ⟨false, rfl, (fun _ => ⟨(fun c => by cases c), fun _ => fin _⟩), (fun c => by cases c)⟩ _ _)))))) 
  | some k =>
    obtain ⟨t3, rfl⟩ := hv
    obtain ⟨k1, k2⟩ := Q.same k (hr k rfl)
    refine i_or (i_boolop (i_and (i_cmp (e_local O rfl rfl hmv (e_none (c_isnot_none ⟨true, rfl, (fun c => by cases c), (fun _ => ?_)⟩ _ _))))))
    refine i_and (i_cmp (e_mthc W O rfl rfl h₁.p.s.mh h₁.p.s.ra.h.inst.inst (m_heap_find w) rfl (e_spl_cons (e_local O rfl rfl hmn (e_spl_nil (CT.of_DT ((hp_find (n := n) W (hA.mono (by first | exact lo rfl | omega)) h₁.p.s.ra Q.fit Q.lt).mono ?_)))))))
    rintro _ _ ⟨rfl, t4, rfl⟩
    refine e_mthc W O rfl rfl h₁.p.s.mh h₁.p.s.ra.h.inst.inst (m_heap_find w) rfl (e_spl_cons (e_local O rfl rfl hmv (e_spl_nil (CT.of_DT ((hp_find (n := n) W (hA.mono (by first | exact lo rfl | omega)) h₁.p.s.ra Q.fit k2).mono ?_)))))
    rintro _ _ ⟨rfl, t5, rfl⟩
    rw [k1]
    exact c_ne_int ⟨false, by simp, (fun _ => ⟨(fun c => by cases c), fun _ => fin _⟩), (fun c => by cases c)⟩ _ _
set_option maxHeartbeats 4000000 in
/-- what is new stands with what was -/
theorem law_k3 (W : Wld (KK w) G) (hA : AOk (n + 14) A) (O : EnvOk env (LF L' hid) LN) {P : Flow → Heap → Locs → Prop} {st : Stmt} (hst : putS[3]? = some st) (h : LA w G b m o M S' d rl tl sm rows told pl ps hx tb x y sl xs)
    {p : Pat} {num : Nat} {v : Value} {t : Tok} {r : Option Nat} (Q : Put told S₀ S S' x y p num) (hr : ∀ d, r = some d → S₀.ev x y p = some d) (hv : OptV v r) (hmv : m "here" = some v) (hmn : m "many" = some (.int (Int.ofNat S.nodes.length) t))
    (K : P .next b m) : TT w G A (LF L' hid) (exec st env) b m P := by
  cases hst
  refine t_if (i_boolop (i_and (i_cmp (e_mthc W O rfl rfl h.p.s.mh h.p.s.ra.h.inst.inst (m_heap_size w) rfl (e_spl_nil (CT.of_DT ((hp_size (n := n) W (hA.mono (by first | exact lo rfl | omega)) h.p.s.ra Q.fit).mono ?_)))))))
  rintro _ _ ⟨rfl, t1, rfl⟩
  have no : ∀ body : List Stmt, (false = true → TT w G A (LF L' hid) (execs body env) b m P) ∧ (false = false → TT w G A (LF L' hid) (execs [] env) b m P) := fun _ => ⟨(fun c => by cases c), fun _ => t_nil K⟩
  refine e_local O rfl rfl hmn (c_ne_int ⟨_, rfl, (fun _ => no _), fun c => ?_⟩ _ _)
  have hlt : S.nodes.length < S'.nodes.length := by
    have := Q.n
    have hne : S'.nodes.length ≠ S.nodes.length := fun e => by rw [e] at c; simp at c
    omega
  cases r with
  | none =>
    have hv' : v = .none := hv
    subst hv'
    exact i_and (i_cmp (e_local O rfl rfl hmv (e_none (c_isnot_none ⟨false, rfl, (fun _ => no _), (fun c => by cases c)⟩ _ _))))
  | some k =>
    obtain ⟨t3, rfl⟩ := hv
    have k1 := Q.new k (hr k rfl) hlt
    refine i_and (i_cmp (e_local O rfl rfl hmv (e_none (c_isnot_none ⟨true, rfl, (fun c => by cases c), (fun _ => ?_)⟩ _ _))))
    refine i_and (i_cmp (e_mthc W O rfl rfl h.p.s.mh h.p.s.ra.h.inst.inst (m_heap_find w) rfl (e_spl_cons (e_local O rfl rfl hmn (e_spl_nil (CT.of_DT ((hp_find (n := n) W (hA.mono (by first | exact lo rfl | omega)) h.p.s.ra Q.fit hlt).mono ?_)))))))
    rintro _ _ ⟨rfl, t4, rfl⟩
    refine e_local O rfl rfl hmn (c_ge_int ⟨false, ?_, (fun _ => no _), (fun c => by cases c)⟩ _ _)
    congr 1
    exact decide_eq_false (by simp only [Int.ofNat_eq_natCast]; omega)
end
end Mine
end
section
open PySem PySem.W PyProof.Rows PySem.Calls PySem.Spec Builtin
set_option maxRecDepth 100000
set_option linter.unusedVariables false
namespace Mine
section
variable {w : World} {G b : Heap} {A : Around} {n : Nat} {o : Own} {env : Env} {L' : Addr} {hid : List (Addr × Obj)} {m : Locs} {M : Mem} {S : St} {d rl tl : Addr} {sm : Nat} {rows : List (Str × List Nat)} {told : List (Nat × Nat)} {pl hx tb sl : Addr} {ps : List Nat} {x y : Nat} {xs : List (Pat × Option Nat)}
inductive JK (w : World) (G : Heap) (M : Mem) (S : St) (d rl tl : Addr) (sm : Nat) (rows : List (Str × List Nat)) (told : List (Nat × Nat)) (pl : Addr) (ps : List Nat) (hx tb : Addr) (x y : Nat) (sl : Addr) (xs : List (Pat × Option Nat)) (c : Nat) (b₂ : Heap) (o : Own) (i : Nat) (b' : Heap) (m' : Locs) : Prop
  | mk (o' : Own) (S' : St) (c' : Nat) (h1 : Mv Hp b₂ o b' o') (h2 : LA w G b' m' o' M S' d rl tl sm rows told pl ps hx tb x y sl xs) (h3 : PutJ told S' c') (h4 : ExtS S S') (h5 : c' ≤ c + 30 * i) (h6 : S'.nodes.length ≤ 7 + 15 * i)
set_option maxHeartbeats 4000000 in
/-- two are put -/
theorem law_k (W : Wld (KK w) G) (hA : AOk (n + 14) A) (O : EnvOk env (LF L' hid) LN) {P : Flow → Heap → Locs → Prop} {st : Stmt} (hst : (bodyS (topS 20))[10]? = some st) (h : LA w G b m o M S d rl tl sm rows told pl ps hx tb x y sl xs) {c : Nat} (T : Still told S rows ps c) (hc : c ≤ 40000) (h7 : rows.length ≤ 7) (hx' : x < rows.length) (hy : y < rows.length)
    (hxs : ∀ e ∈ xs, AskOk rows ps x y e) (hl : xs.length = 6) (K : ∀ b₁ m₁, P .next b₁ m₁) : TT w G A (LF L' hid) (exec st env) b m P := by
  have lz := lim_size
  have hlim : lim = 100000 := rfl
  have hn := T.t.nodes
  cases hst
  obtain ⟨vs, Lv, hvl, hq⟩ := h.so
  refine t_for (e_sub (ops := fun o i => [i, o]) (e_local O rfl rfl h.ms (e_slice_to (e_int fun t1 ss b₁ e₁ hsl => ⟨(Lv.ls.ext e₁).sub, c_slice_list (n := 2) (Lv.ls.ext e₁) hsl (by omega) (fun l1 b₂ e₂ n₂ L₂ => ?_) _ _⟩))))
  have e₀₂ := e₁.trans e₂
  have h₁ := h.ext e₁
  have h₂ := h.ext e₀₂
  have ol1 : o l1 = none := h₁.p.s.ok.own_new n₂
  refine ⟨_, _, _, itv_list hA.hd L₂, JK w G M S d rl tl sm rows told pl ps hx tb x y sl xs c b₂ o,
    ⟨o, S, c, .refl, h₂, T.putJ, .refl, Nat.le_refl _, by rw [hn]; exact h7⟩, ?_, ?_, ?_⟩
  · rintro i b' m' ⟨o', S', c', mv, _⟩ a ha z hz
    rw [List.mem_singleton.mp ha] at hz ⊢
    exact mv.keep (by simp [ol1]) z hz
  · rintro i b₃ m₃ v l hi ⟨o₃, S₃, c₃, mv, h₃, J₃, E₃, hc₃, hn₃⟩ pv
    have Om : EnvOk env (LF L' (l ++ hid)) LN := O.more l
    have hi2 : i < 2 := by rw [List.length_take] at hi; omega
    have hvi : vs[i]? = some v := by rw [List.getElem?_take, if_pos hi2] at pv; exact pv
    obtain ⟨e, he⟩ : ∃ e, xs[i]? = some e := ⟨_, List.getElem?_eq_getElem (by omega)⟩
    obtain ⟨a, u, r, hva, oa, Ta, hp, hr⟩ := hq i e he
    rw [hva] at hvi
    cases hvi
    have me := hxs e (List.mem_of_getElem? he)
    have mv03 : Mv Hp b o b₃ o₃ := (Mv.ext e₀₂).trans mv
    have Ta₃ := (tp_move Ta oa mv03).1
    have hp₃ := hp.move mv03
    refine t_into (l := [_, _]) (c_unpack_tuple hA.hd Ta₃ rfl ?_ _ _)
    refine a_cons (s_name (s_local Om rfl rfl (a_cons (s_name (s_local Om rfl rfl (a_nil ?_))))))
    have h₄ := (h₃.upd (z := "one") (v := some u) (by decide)).upd (z := "here") (v := some r) (by decide)
    have hE := me.at_
    have hpm := me.many
    have hS : S.nodes.length = rows.length := by rw [hn]
    have hEn := E₃.n
    obtain ⟨Q, J₅, E₅, hn₅⟩ := Put.of (x := x) (y := y) (p := e.1) T.putJ J₃ E₃ (by omega) (by omega) (by omega) (by omega) (by omega)
    have hrr : ∀ d, e.2 = some d → S.ev x y e.1 = some d := fun d hd => by rw [T.ev h7 (by omega) hx' hy e.1, ← hE]; exact hd
    show TT w G A (LF L' (l ++ hid)) (execs _ env) b₃ _ _
    refine t_cons (law_k0 (n := n) (st := _) W hA Om rfl h₄ ⟨c₃, J₃, by omega, by omega⟩ (J₃.inv.fit (by omega) (by omega)) hp₃ me.high me.good (by omega) (by omega) ((if_neg (by decide)).trans (if_pos rfl)) fun b₅ m₅ o₅ t2 t3 mv₅ h₅ hm₅ k1 k2 => ?_)
    have one₅ : m₅ "one" = some u := (hm₅ _ (by decide) (by decide)).trans ((if_neg (by decide)).trans (if_pos rfl))
    have here₅ : m₅ "here" = some r := (hm₅ _ (by decide) (by decide)).trans (if_pos rfl)
    refine t_cons (law_k1 (n := n) (st := _) W hA Om rfl h₅ J₅ (by omega) (by omega) fun b₆ o₆ mv₆ h₆ => ?_)
    have hp₆ := (hp₃.move mv₅).move mv₆
    refine t_cons (law_k2 (n := n) (st := _) W hA Om rfl h₆ Q hrr hp₆ me.high hr one₅ here₅ k2 fun b₇ e₇ => ?_)
    have h₇ := h₆.ext e₇
    refine t_cons (law_k3 (n := n) (st := _) W hA Om rfl h₇ Q hrr hr here₅ k1 (t_nil ⟨o₆, _, _, (mv.trans mv₅).trans (mv₆.trans (.ext e₇)), h₇, J₅, E₅, by omega, by omega⟩))
  · rintro b' m' _
    exact K b' m'
set_option maxHeartbeats 8000000 in
/-- the law, from its script on -/
theorem law_body (W : Wld (KK w) G) (hA : AOk (n + 14) A) (O : EnvOk env (LF L' hid) LN) {sc : Addr} {vs : List Value} (k : Ok G b fun _ => none) (hs : m "script" = some (.ref sc)) (hl : b.IsList sc vs.toArray) (hi : Ints vs) (hz : vs.length ≤ lim) :
    TT w G A (LF L' hid) (execs (bodyS (topS 20)) env) b m fun fl _ _ => fl = .ret (.bool true) := by
  refine t_cons (law_a (n := n) (st := _) W (hA.mono (by first | exact lo rfl | omega)) O rfl k hs hl hi hz fun b₁ m₁ o₁ M d rl tl h₁ => ?_)
  refine t_cons (law_b (n := n) (st := _) W (hA.mono (by first | exact lo rfl | omega)) O rfl h₁ fun b₂ m₂ o₂ S₂ h₂ n₂ j₂ => ?_)
  refine t_cons (law_c (n := n) (st := _) W (hA.mono (by first | exact lo rfl | omega)) O rfl h₂ n₂ j₂ fun b₃ m₃ o₃ S₃ sm₃ rows h₃ n₃ ok₃ j₃ hsm₃ hl2 hl7 => ?_)
  refine t_cons (law_d (n := n) (st := _) W (hA.mono (by first | exact lo rfl | omega)) O rfl h₃ n₃ j₃ hsm₃ hl2 hl7 fun b₄ m₄ o₄ S₄ sm₄ told c₄ h₄ T₄ hc₄ hsm₄ htl => ?_)
  refine t_cons (law_e (n := n) (st := _) W (hA.mono (by first | exact lo rfl | omega)) O rfl h₄ T₄ hc₄ hl7 fun b₅ o₅ S₅ c₅ h₅ T₅ w₅ hc₅ => ?_)
  refine t_cons (law_f (n := n) (st := _) W (hA.mono (by first | exact lo rfl | omega)) O rfl h₅ T₅ ok₃ hl7 fun b₆ m₆ pl ps hx h₆ I₆ C₆ => ?_)
  refine t_cons (law_g (n := n) (st := _) W (hA.mono (by first | exact lo rfl | omega)) O rfl h₆ hsm₄ hl2 hl7 fun b₇ tb x y h₇ ta₇ hxx hyy => ?_)
  have T₇ : Still told S₅ rows ps c₅ := ⟨T₅, w₅, I₆, C₆⟩
  refine t_cons (law_h (st := _) W O rfl h₇ ta₇ (if_pos rfl) fun b₈ m₈ o₈ sl h₈ => ?_)
  refine t_cons (law_i (n := n) (st := _) W (hA.mono (by first | exact lo rfl | omega)) O rfl h₈ (by omega) T₇ (by omega) ok₃ hl7 hxx hyy fun b₉ m₉ sm₉ xs h₉ hxs hxl => ?_)
  refine t_cons (law_j (n := n) (st := _) W (hA.mono (by first | exact lo rfl | omega)) O rfl h₉ T₇ (by omega) hl7 fun ba ea => ?_)
  refine t_cons (law_k (n := n) (st := _) W hA O rfl (h₉.ext ea) T₇ hc₅ hl7 hxx hyy hxs hxl fun bb mb => ?_)
  exact t_cons (t_ret (e_bool rfl))
end
end Mine
end
section
open PySem PySem.W PyProof.Rows PySem.Calls PySem.Spec Builtin
set_option maxRecDepth 100000
set_option linter.unusedVariables false
namespace Mine
/-- the frame's names hold the parameters, its cells too -/
theorem start_fm {G h h₁ : Heap} {L : Addr} {cl : List (Str × Addr)} {m mb : Locs} {ns : List (Str × NameKind)} (hns : h₁.Ns L mb) (hm : ∀ x, cl.lookup x = none → mb x = m x) (hc : ∀ x c, cl.lookup x = some c → h₁.IsCell c (m x))
    (nd : (cl.map (·.1)).Nodup) (one : ∀ x y c, cl.lookup x = some c → cl.lookup y = some c → x = y) (above : ∀ x c, (x, c) ∈ cl → L < c) (hL : h.objs.size ≤ L) (k : Ext h h₁) : Fm h h ⟨L, cl, []⟩ h₁ m := by
  have fresh : ∀ c, L ≤ c → h.get? c = none := fun c hc => Heap.get?_none_of_le (Nat.le_trans hL hc)
  refine ⟨⟨mb, hns, hm⟩, hc, one, fun x c hx => ⟨Nat.ne_of_gt (above x c hx), ?_⟩, fun p hp => absurd hp (by simp), fun p hp => absurd hp (by simp), k, fun c hc => ?_, fun c o e => e⟩
  · obtain ⟨o, ho, _⟩ := hc x c (lookup_of_mem_nodup nd hx)
    exact ⟨o, ho⟩
  · simp only [Fram.fa, List.mem_cons, List.mem_append, List.mem_map, List.map_nil, List.not_mem_nil, or_false] at hc
    rcases hc with rfl | ⟨p, hp, rfl⟩
    · exact fresh _ (Nat.le_refl _)
    · exact fresh _ (Nat.le_of_lt (above p.1 p.2 hp))
section
variable {w : World} {A : Around} {K : Frag}
/-- a def of the text, called from the outside -/
theorem start_def {g : Addr} {name qual : Str} {params : Arguments} {body : List Stmt} {scope : Scope} {args : List Value} {binds : List (Str × Value)} {P : Value → Prop} {n : Nat} {s : Shared} {R : Result → Shared → Prop}
    (W : Wld K s.heap) (FI : FnIn K g name qual params body scope) (hA : AOk (n + 1) A)
    (hb : ∀ doc pm an cdv ct, bindArgs (fnOf name qual params body scope .none .none doc pm an cdv ct) ⟨args, []⟩ = pure binds)
    (hok : okB scope.names (binds.map (·.1)) = true)
    (h : ∀ L env, EnvOk env ⟨L, cellsFrom (L + 1) scope.names [], []⟩ scope.names → TT w s.heap (A.deeper env) ⟨L, cellsFrom (L + 1) scope.names [], []⟩ (execs body env) s.heap (fun x => binds.reverse.lookup x)
      fun fl _ _ => P (match fl with | .ret v => v | _ => .none))
    (hR : ∀ v h₁ tk, P v → Ext s.heap h₁ → R (.ok (.ret v)) { s with heap := h₁, toks := tk }) : codeAny (model PG w) A (.call (.ref g) ⟨args, []⟩) R s := by
  obtain ⟨⟨doc, pm, an, cdv, ct, oc, od, osl, ho, hcd⟩, hco, hgen, hkd⟩ := FI
  simp only [okB, Bool.and_eq_true, decide_eq_true_eq] at hok
  obtain ⟨hnd, hall⟩ := hok
  have hcn : ∀ n, (cellsFrom n scope.names []).map (·.1) = (cellsFrom 0 scope.names []).map (·.1) := fun n => cellsFrom_names scope.names n 0 [] [] rfl
  have hkinds : ∀ n, ∀ x ∈ binds, (scope.names.lookup x.1 = some .local ∧ x.1 ∉ (cellsFrom n scope.names []).map (·.1)) ∨ (scope.names.lookup x.1 = some .cell ∧ x.1 ∈ (cellsFrom n scope.names []).map (·.1)) := by
    intro n x hx
    rw [hcn n]
    have := List.all_eq_true.mp hall x.1 (List.mem_map_of_mem hx)
    simpa using this
  refine codeAny_call_function hA.room (W.X _ _ ho) rfl hco hgen rfl (codeRec_of W.X hcd) ?_
  rw [hb]
  refine wpAny_pure (wpAny_newFunctionEnv_cells hkd (fun x hx => ?_) fun env he s' x => ?_)
  · rcases hkinds (s.heap.objs.size + 1) x hx with h | h
    · exact .inl h.1
    · exact .inr ⟨h.1, lookup_some_of_key h.2⟩
  subst he
  refine ⟨W.nolimit.keeps x.toInCall.keep, codeAny_func ?_⟩
  obtain ⟨h₁, tk, rfl, hk₁⟩ := x.done
  generalize hcl : cellsFrom (s.heap.objs.size + 1) scope.names [] = cl at x
  have hcl' : cellsFrom (s.heap.objs.size + 1) scope.names [] = cl := hcl
  have ndl : (cl.map (·.1)).Nodup := by rw [← hcl, hcn]; exact hnd
  have kindOf : ∀ (env : Env), env.scope = scope → ∀ y, env.kindOf y = scope.names.lookup y := fun env e y => by unfold Env.kindOf; rw [e]
  have F' : Fm s.heap s.heap ⟨s.heap.objs.size, cl, []⟩ h₁ (fun x => binds.reverse.lookup x) := by
    refine start_fm (G := s.heap) (ns := []) x.toInCall.ns (fun y hy => ?_) (fun y c hy => ?_) ndl (fun y z c hy hz => name_of_addr x.apart (mem_of_lookup hy) (mem_of_lookup hz)) (fun y c hy => x.above y c hy) (Nat.le_refl _) hk₁
    · by_cases hm : y ∈ binds.map (·.1)
      · obtain ⟨p, hp, rfl⟩ := List.mem_map.mp hm
        rcases hkinds (s.heap.objs.size + 1) p hp with h | h
        · rw [bindL_local (by rw [kindOf _ rfl]; exact h.1)]; simp
        · rw [hcl'] at h
          have := lookup_some_of_key h.2
          rw [hy] at this; cases this
      · rw [bindL_other _ _ hm, lookup_none_of hm]
    · have hc := x.cell y c hy
      have nl : scope.names.lookup y ≠ some .local ∨ y ∉ binds.map (·.1) := by
        by_cases hm : y ∈ binds.map (·.1)
        · obtain ⟨p, hp, rfl⟩ := List.mem_map.mp hm
          rcases hkinds (s.heap.objs.size + 1) p hp with h | h
          · rw [hcl'] at h
            exact absurd (List.mem_map_of_mem (f := (·.1)) (mem_of_lookup hy)) h.2
          · left; rw [h.1]; decide
        · exact .inr hm
      by_cases hl : scope.names.lookup y = some .local
      · have hm := nl.resolve_left (fun q => q hl)
        have other : ∀ (binds : List (Str × Value)) (m : Locs) (kf : Str → Option NameKind), y ∉ binds.map (·.1) → bindC kf binds m y = m y := by
          intro binds
          induction binds with
          | nil => intros; rfl
          | cons p r ih =>
            obtain ⟨n, v⟩ := p
            intro m kf h
            simp only [List.map_cons, List.mem_cons, not_or] at h
            rw [bindC, ih _ _ h.2]
            by_cases k : kf n = some .local <;> simp [k, h.1]
        rw [other _ _ _ hm] at hc
        rw [lookup_none_of hm]; exact hc
      · rw [bindC_cell (by rw [kindOf _ rfl]; exact hl)] at hc
        simpa using hc
  refine h s.heap.objs.size _ ?_ _ _ _ (by rw [hcl']; exact F') fun fl h₂ tk₂ b₂ m₂ F₂ p => ?_
  · exact ⟨hkd, rfl, rfl, rfl, rfl, hcl'.symm⟩
  · exact hR _ h₂ tk₂ p F₂.gh
end
theorem fn_law (w : World) : FnIn (KK w) 466 (nmS (topS 20)) "law" (parS (topS 20)) (bodyS (topS 20)) (scS (topS 20)) where
  ex := ⟨_, _, _, _, _, _, _, _, rfl, rfl⟩
  co := rfl
  gen := rfl
  kind := rfl
theorem g_law (w : World) : nsIn (KK w) mainGlobals "law" = some (some (.ref 466)) := rfl
theorem intsOf {vs : List Value} {ns : List Int} (h : IntsAre vs ns) : Ints vs := by
  induction h with
  | nil => intro v hv; cases hv
  | cons n t _ ih =>
    intro v hv
    rcases List.mem_cons.mp hv with rfl | hv
    · exact ⟨n, t, rfl⟩
    · exact ih v hv
set_option maxHeartbeats 8000000 in
/-- the law, called -/
theorem law_call {w : World} {s : Shared} {sc : Addr} {vs : List Value} {ns : List Int} {R : Result → Shared → Prop} (W : Wld (KK w) s.heap) (hl : s.heap.IsList sc vs.toArray) (hi : IntsAre vs ns) (hz : vs.length ≤ lim)
    (hR : ∀ h₁ tk, Ext s.heap h₁ → R (.ok (.ret (.bool true))) { s with heap := h₁, toks := tk }) : codeAny (model PG w) callerA (.call (.ref 466) ⟨[.ref sc], []⟩) R s := by
  refine start_def (n := 14) (binds := [("script", .ref sc)]) (P := fun v => v = .bool true) W (fn_law w) ⟨rfl, by decide, by decide⟩ (fun _ _ _ _ _ => rfl) rfl (fun L env O => ?_) fun v h₁ tk p e => by subst p; exact hR h₁ tk e
  have hA : AOk 15 callerA := ⟨rfl, by decide, by decide⟩
  intro s' Q E F kk
  refine law_body (n := 0) W (hA.deeper env) O (sc := sc) (vs := vs) ⟨.refl, (fun d r h => by cases h), (fun d r h => by cases h)⟩ rfl hl (intsOf hi) hz s' Q E F fun fl h₁ tk b₁ m₁ F₁ p => ?_
  subst p
  exact kk _ h₁ tk b₁ m₁ F₁ rfl
end Mine
end
section
open PySem PySem.W PyProof.Rows
namespace Mine
theorem hd.tw17311223219408574766 : True := trivial
theorem hd.tw17087091549796120035 : True := trivial
theorem hd.tw6924109203229866365 : True := trivial
theorem hd.tw13047593935725612058 : True := trivial
theorem hd.tw8587404781116728655 : True := trivial
theorem hd.tw7519716089354478335 : True := trivial
theorem hd.tw978945382295711627 : True := trivial
theorem hd.tw11034497122203965937 : True := trivial
theorem hd.tw6293948785866598258 : True := trivial
theorem hd.tw5961118342813265553 : True := trivial
theorem hd.tw12591134339009171964 : True := trivial
theorem hd.tw4138081844389336918 : True := trivial
theorem hd.tw10093956403538511899 : True := trivial
theorem hd.tw4377701919642642989 : True := trivial
theorem hd.tw9577689765879766989 : True := trivial
theorem hd.tw10216474801634566288 : True := trivial
theorem hd.tw5148922909946612681 : True := trivial
theorem hd.tw5781342201191254626 : True := trivial
theorem hd.tw5732804406350252772 : True := trivial
theorem hd.tw1452849714261714991 : True := trivial
theorem hd.tw16302227732802510677 : True := trivial
theorem hd.tw14620637471214046174 : True := trivial
theorem hd.tw12631932088317031055 : True := trivial
theorem hd.tw15043168886218598503 : True := trivial
theorem hd.tw2867327485932766208 : True := trivial
theorem hd.tw6990203504111849199 : True := trivial
theorem hd.tw11652457597714270106 : True := trivial
theorem hd.tw15103106377680225435 : True := trivial
theorem hd.tw3259873300814134281 : True := trivial
theorem hd.tw697623264460660564 : True := trivial
theorem hd.tw13372043803930879067 : True := trivial
theorem hd.tw307737655149646647 : True := trivial
theorem hd.tw3953601041324332601 : True := trivial
theorem hd.tw11117797201346649052 : True := trivial
theorem hd.tw2216850387143573719 : True := trivial
theorem hd.tw8684328023851190084 : True := trivial
theorem hd.tw10507497572311344420 : True := trivial
theorem hd.tw18322514126500204803 : True := trivial
theorem hd.tw6838551448383532254 : True := trivial
theorem hd.tw461538923250603899 : True := trivial
theorem hd.tw18241275227582772068 : True := trivial
theorem hd.tw5592360268479517082 : True := trivial
theorem hd.tw1847840615245081061 : True := trivial
theorem hd.tw13066319289922817542 : True := trivial
theorem hd.tw8047900516022102942 : True := trivial
theorem hd.tw14896477498954680388 : True := trivial
theorem hd.tw8343274005884668182 : True := trivial
theorem hd.tw6998783941825042932 : True := trivial
theorem hd.tw8801323125487838256 : True := trivial
theorem hd.tw16772102934027710169 : True := trivial
theorem hd.tw12936449754285732098 : True := trivial
theorem hd.tw17599816209265215132 : True := trivial
theorem hd.tw2114630138375439770 : True := trivial
theorem hd.tw10012880186880212623 : True := trivial
theorem hd.tw17650839729002327288 : True := trivial
theorem hd.tw7540741092611519060 : True := trivial
theorem hd.tw12092154237167983948 : True := trivial
theorem hd.tw6528754448969337418 : True := trivial
theorem hd.tw14598272352848978880 : True := trivial
theorem hd.tw5373601922739893978 : True := trivial
theorem hd.tw17447410573909459338 : True := trivial
theorem hd.tw8770205317985620760 : True := trivial
theorem hd.tw7540655947842036084 : True := trivial
theorem hd.tw14353793391729792155 : True := trivial
theorem hd.tw4014540891139286612 : True := trivial
theorem hd.tw4990156530697904881 : True := trivial
theorem hd.tw12588582704262371052 : True := trivial
theorem hd.tw5282504435634884242 : True := trivial
theorem hd.tw11893437276241958245 : True := trivial
theorem hd.tw11953376511379268794 : True := trivial
theorem hd.tw1382963296337349011 : True := trivial
theorem hd.tw3182187488490625086 : True := trivial
theorem hd.tw18300207936620678264 : True := trivial
theorem hd.tw13518370688599389936 : True := trivial
theorem hd.tw13342606739435360313 : True := trivial
theorem hd.tw11249132867342737325 : True := trivial
theorem hd.tw5562173858411828344 : True := trivial
theorem hd.tw13919464512627920130 : True := trivial
theorem hd.tw7891253978561527248 : True := trivial
theorem hd.tw2167537188350426706 : True := trivial
theorem hd.tw5278057926702712004 : True := trivial
theorem hd.tw13903934854276604550 : True := trivial
theorem hd.tw3443669649825651883 : True := trivial
theorem hd.tw6423634429210846174 : True := trivial
theorem hd.tw3915529967508079626 : True := trivial
theorem hd.tw6482722132109649516 : True := trivial
theorem hd.tw3480954088277226078 : True := trivial
theorem hd.tw9271970288684553227 : True := trivial
theorem hd.tw13609717118414637909 : True := trivial
theorem hd.tw13384067686631765065 : True := trivial
theorem hd.tw12173100003817136821 : True := trivial
theorem hd.tw7082855905992002993 : True := trivial
theorem hd.tw11631869004601391166 : True := trivial
theorem hd.tw4478964076566166474 : True := trivial
theorem hd.tw10111801491309104144 : True := trivial
theorem hd.tw16456969618363192440 : True := trivial
theorem hd.tw7721951785955056133 : True := trivial
theorem hd.tw14294001040229213422 : True := trivial
theorem hd.tw13280443560766958183 : True := trivial
theorem hd.tw10525666975642140466 : True := trivial
theorem hd.tw7510230149288206974 : True := trivial
theorem hd.tw8493152586797012548 : True := trivial
theorem hd.tw2502866573005156581 : True := trivial
theorem hd.tw1299046323782801668 : True := trivial
theorem hd.tw5987830557187376847 : True := trivial
theorem hd.tw17901334829092211166 : True := trivial
theorem hd.tw2195365466389143174 : True := trivial
theorem hd.tw7628703163842673926 : True := trivial
theorem hd.tw16037735763661986305 : True := trivial
theorem hd.tw6598312636042714100 : True := trivial
theorem hd.tw3759623122121258479 : True := trivial
theorem hd.tw1865391376527767206 : True := trivial
theorem hd.tw16155205043701107222 : True := trivial
theorem hd.tw8117029840178788049 : True := trivial
theorem hd.tw9427301549700849589 : True := trivial
theorem hd.tw9421340871869096474 : True := trivial
theorem hd.tw7610815399733428385 : True := trivial
theorem hd.tw1882180444382439491 : True := trivial
theorem hd.tw7292484366425897655 : True := trivial
theorem hd.tw701787995468756871 : True := trivial
theorem hd.tw7914949630228597729 : True := trivial
theorem hd.tw12050417470231563642 : True := trivial
theorem hd.tw7676003278276379012 : True := trivial
theorem hd.tw10844753989422098599 : True := trivial
theorem hd.tw190519026028168232 : True := trivial
theorem hd.tw16056359734778111409 : True := trivial
theorem hd.tw920214292312260371 : True := trivial
theorem hd.tw9277588360372424766 : True := trivial
theorem hd.tw17047115858639842297 : True := trivial
theorem hd.tw17420951861521290806 : True := trivial
theorem hd.tw5978321128707920903 : True := trivial
theorem hd.tw6060742912462422084 : True := trivial
theorem hd.tw2457190517430149469 : True := trivial
theorem hd.tw1118553966540926140 : True := trivial
theorem hd.tw9783614193127449063 : True := trivial
theorem hd.tw8965841893048198262 : True := trivial
theorem hd.tw5635641802508607975 : True := trivial
theorem hd.tw13483081372092288885 : True := trivial
theorem hd.tw8977307856219701671 : True := trivial
theorem hd.tw4706079058837389440 : True := trivial
theorem hd.tw14060154772996877548 : True := trivial
theorem hd.tw8727321023445011275 : True := trivial
theorem hd.tw7654286748164834634 : True := trivial
theorem hd.tw2274498078352570744 : True := trivial
theorem hd.tw9244321171653502345 : True := trivial
theorem hd.tw4993660671451451078 : True := trivial
theorem hd.tw8538877666451538035 : True := trivial
theorem hd.tw3085183777334472315 : True := trivial
theorem hd.tw1129884963351977449 : True := trivial
theorem hd.tw5716766192118558609 : True := trivial
theorem hd.tw7085514621470718492 : True := trivial
theorem hd.tw16006246977917349235 : True := trivial
theorem hd.tw6830512106363814048 : True := trivial
theorem hd.tw13855946660403688772 : True := trivial
theorem hd.tw5245234834050458271 : True := trivial
theorem hd.tw10258999931320997221 : True := trivial
theorem hd.tw10170382586518783626 : True := trivial
theorem hd.tw2284436838669742495 : True := trivial
theorem hd.tw15166520500009309586 : True := trivial
theorem hd.tw8351282476255451920 : True := trivial
theorem hd.tw16412773359747925120 : True := trivial
theorem hd.tw16794629799341752650 : True := trivial
theorem hd.tw11011131195910976488 : True := trivial
theorem hd.tw17673860158736603733 : True := trivial
theorem hd.tw10403243965636340961 : True := trivial
theorem hd.tw7366208706002141716 : True := trivial
theorem hd.tw4172343393113369950 : True := trivial
theorem hd.tw4015398097383911347 : True := trivial
theorem hd.tw12393119488966705847 : True := trivial
theorem hd.tw16945582573551092051 : True := trivial
theorem hd.tw361575752280415930 : True := trivial
theorem hd.tw15987713032478767096 : True := trivial
theorem hd.tw8004679753235328684 : True := trivial
theorem hd.tw12058812876911547015 : True := trivial
theorem hd.tw17130151131035750659 : True := trivial
theorem hd.tw16853341256802265648 : True := trivial
theorem hd.tw13217225542625558698 : True := trivial
theorem hd.tw11213053971927718326 : True := trivial
theorem hd.tw1588505670450824345 : True := trivial
theorem hd.tw4523669819894539328 : True := trivial
theorem hd.tw15527848837575444561 : True := trivial
theorem hd.tw13638418597567726942 : True := trivial
theorem hd.tw14772383043592177042 : True := trivial
theorem hd.tw3381375190539634487 : True := trivial
theorem hd.tw17986969038992634876 : True := trivial
theorem hd.tw13828106393651249627 : True := trivial
theorem hd.tw17588044629489971554 : True := trivial
theorem hd.tw6906073325868019850 : True := trivial
theorem hd.tw10727248033764811480 : True := trivial
theorem hd.tw5280058147038818656 : True := trivial
theorem hd.tw4851647983119433812 : True := trivial
theorem hd.tw16473244170626142550 : True := trivial
theorem hd.tw226724450230711188 : True := trivial
theorem hd.tw6186238094035137676 : True := trivial
theorem hd.tw10743916045514856203 : True := trivial
theorem hd.tw10784824025267889561 : True := trivial
theorem hd.tw14705683404202351889 : True := trivial
theorem hd.tw3404104791013757517 : True := trivial
theorem hd.tw2304311442786299043 : True := trivial
theorem hd.tw12487502673411948298 : True := trivial
theorem hd.tw3109861748172591687 : True := trivial
theorem hd.tw8652628183442184457 : True := trivial
theorem hd.tw15083628210047938546 : True := trivial
theorem hd.tw6196171512934965099 : True := trivial
theorem hd.tw1450087424629197153 : True := trivial
theorem hd.tw17950676927832955104 : True := trivial
theorem hd.tw13642289790063256904 : True := trivial
theorem hd.tw10458740792067480800 : True := trivial
theorem hd.tw2815220025927836654 : True := trivial
theorem hd.tw3219085151875037572 : True := trivial
theorem hd.tw17183224562656869120 : True := trivial
theorem hd.tw1506431575118746342 : True := trivial
theorem hd.tw13866372431405929976 : True := trivial
theorem hd.tw12112201142124510154 : True := trivial
theorem hd.tw15833661619300960221 : True := trivial
theorem hd.tw12394076208661396346 : True := trivial
theorem hd.tw13038990169509382042 : True := trivial
theorem hd.tw16091413853298234908 : True := trivial
theorem hd.tw5238241317806426387 : True := trivial
theorem hd.tw3530705653197291679 : True := trivial
theorem hd.tw84519696092419186 : True := trivial
theorem hd.tw16904818350239718627 : True := trivial
theorem hd.tw4282304852377368616 : True := trivial
theorem hd.tw1712922718373300912 : True := trivial
theorem hd.tw13322179722446271537 : True := trivial
theorem hd.tw8716120427605611371 : True := trivial
theorem hd.tw15837987909243819085 : True := trivial
theorem hd.tw8960069828448710407 : True := trivial
theorem hd.tw7120233287515763914 : True := trivial
theorem hd.tw7763873220885509757 : True := trivial
theorem hd.tw6882427118574961969 : True := trivial
theorem hd.tw6276725880618359904 : True := trivial
theorem hd.tw2845679848157327705 : True := trivial
theorem hd.tw991583007596301734 : True := trivial
theorem hd.tw15279998641719260112 : True := trivial
theorem hd.tw5505005885091257285 : True := trivial
theorem hd.tw3789350110615891812 : True := trivial
theorem hd.tw13466754112058979494 : True := trivial
theorem hd.tw4478166936697009375 : True := trivial
theorem hd.tw15048261121198461528 : True := trivial
theorem hd.tw1589133516308662214 : True := trivial
theorem hd.tw17491280204586788870 : True := trivial
theorem hd.tw15643275761693703936 : True := trivial
theorem hd.tw13431754692932380062 : True := trivial
theorem hd.tw1781861727890032366 : True := trivial
theorem hd.tw5174551420813472067 : True := trivial
theorem hd.tw1610171440888473627 : True := trivial
theorem hd.tw9170477692918782315 : True := trivial
theorem hd.tw18103342009636024947 : True := trivial
theorem hd.tw6136932545381038964 : True := trivial
theorem hd.tw15967140613478806237 : True := trivial
theorem hd.tw16194383521188589630 : True := trivial
theorem hd.tw1699103778626983548 : True := trivial
theorem hd.tw11210553801493137410 : True := trivial
theorem hd.tw6123773746684550334 : True := trivial
theorem hd.tw7068711184596962023 : True := trivial
theorem hd.tw13285133528070534704 : True := trivial
theorem hd.tw1413172679324656950 : True := trivial
theorem hd.tw9719896912496429819 : True := trivial
theorem hd.tw5902613922787404954 : True := trivial
theorem hd.tw9908193460736022307 : True := trivial
theorem hd.tw442638132926106271 : True := trivial
theorem hd.tw11713075325732132258 : True := trivial
theorem hd.tw8428860471423672150 : True := trivial
theorem hd.tw9731375825926819010 : True := trivial
theorem hd.tw1580110805410547442 : True := trivial
theorem hd.tw10583446816852156582 : True := trivial
theorem hd.tw12949589719889679912 : True := trivial
theorem hd.tw8879563391730754479 : True := trivial
theorem hd.tw8268277133935991078 : True := trivial
theorem hd.tw14955159897011116063 : True := trivial
theorem hd.tw8242931771332617035 : True := trivial
theorem hd.tw10024716035694756283 : True := trivial
theorem hd.tw3941438180925939637 : True := trivial
theorem hd.tw10404513684093684653 : True := trivial
theorem hd.tw10246146449241189800 : True := trivial
theorem hd.tw14713601330101548304 : True := trivial
theorem hd.tw5130813555471234732 : True := trivial
theorem hd.tw7512474625130614241 : True := trivial
theorem hd.tw16259696140248634718 : True := trivial
theorem hd.tw15089522573102190283 : True := trivial
theorem hd.tw11917015161858427179 : True := trivial
theorem hd.tw7382370116671421104 : True := trivial
theorem hd.tw9748044761591592747 : True := trivial
theorem hd.tw16154546982801380032 : True := trivial
theorem hd.tw10292235466723388172 : True := trivial
theorem hd.tw18166333605607142505 : True := trivial
theorem hd.tw212345690472687942 : True := trivial
theorem hd.tw16299908979028503884 : True := trivial
theorem hd.tw1359830224848277088 : True := trivial
theorem hd.tw12744807935193187038 : True := trivial
theorem hd.tw11054480109507316185 : True := trivial
theorem hd.tw11631947586910100387 : True := trivial
theorem hd.tw2327210489368252092 : True := trivial
theorem hd.tw14560493823538711346 : True := trivial
theorem hd.tw2386827423013361158 : True := trivial
theorem hd.tw100483095206116625 : True := trivial
theorem hd.tw5480042469492414594 : True := trivial
theorem hd.tw9398405308114057262 : True := trivial
theorem hd.tw5629675986466331604 : True := trivial
theorem hd.tw13790719812936386609 : True := trivial
theorem hd.tw6164396464334811476 : True := trivial
theorem hd.tw18245042118932799458 : True := trivial
theorem hd.tw10919297434634762262 : True := trivial
theorem hd.tw17919194246423945575 : True := trivial
theorem hd.tw2315301623876862497 : True := trivial
theorem hd.tw2101469004524951375 : True := trivial
theorem hd.tw9702936160620672325 : True := trivial
theorem hd.tw6469175993241445255 : True := trivial
theorem hd.tw8934143017859847078 : True := trivial
theorem hd.tw8025032847418708242 : True := trivial
theorem hd.tw464777395874653626 : True := trivial
theorem hd.tw1013155817946168525 : True := trivial
theorem hd.tw1836080755315867724 : True := trivial
theorem hd.tw16970440968685349367 : True := trivial
theorem hd.tw1409312971732116557 : True := trivial
theorem hd.tw4870687313549177768 : True := trivial
theorem hd.tw1011335219593555734 : True := trivial
theorem hd.tw5292301768408028288 : True := trivial
theorem hd.tw6683769817339685419 : True := trivial
theorem hd.tw162610821266807592 : True := trivial
theorem hd.tw1954109241102656831 : True := trivial
theorem hd.tw6965799899956892507 : True := trivial
theorem hd.tw18093812233618175256 : True := trivial
theorem hd.tw12399718760709695909 : True := trivial
theorem hd.tw1222794163293265305 : True := trivial
theorem hd.tw13409441903868389331 : True := trivial
theorem hd.tw5054737718236178183 : True := trivial
theorem hd.tw9763420282994701918 : True := trivial
theorem hd.tw4360684699965382250 : True := trivial
theorem hd.tw631698841614932220 : True := trivial
theorem hd.tw8735263284916673568 : True := trivial
theorem hd.tw17893044597097874663 : True := trivial
theorem hd.tw13267510147771200024 : True := trivial
theorem hd.tw14906377314874228009 : True := trivial
theorem hd.tw15042006015671813226 : True := trivial
theorem hd.tw6931407450589930559 : True := trivial
theorem hd.tw15910714762333108613 : True := trivial
theorem hd.tw9788025985476950048 : True := trivial
theorem hd.tw257007361410690125 : True := trivial
theorem hd.tw17491317419825422843 : True := trivial
theorem hd.tw18343703819029505601 : True := trivial
theorem hd.tw17681399029576232318 : True := trivial
theorem hd.tw8959176491354863721 : True := trivial
theorem hd.tw2930668341846507884 : True := trivial
theorem hd.tw13277076834127875243 : True := trivial
theorem hd.tw13783031573616600631 : True := trivial
theorem hd.tw280609765759037681 : True := trivial
theorem hd.tw7023726343779634624 : True := trivial
theorem hd.tw5511420028821071320 : True := trivial
theorem hd.tw13315533130655954831 : True := trivial
theorem hd.tw7880807054014371918 : True := trivial
theorem hd.tw7270182246851987180 : True := trivial
theorem hd.tw3309697970292668127 : True := trivial
theorem hd.tw12614811148066621264 : True := trivial
theorem hd.tw13289513938125300765 : True := trivial
theorem hd.tw12127338746724423809 : True := trivial
theorem hd.tw6140570298594658328 : True := trivial
theorem hd.tw9741134391959003819 : True := trivial
theorem hd.tw11918464104331161477 : True := trivial
theorem hd.tw9496365245306024149 : True := trivial
theorem hd.tw4383666589626881386 : True := trivial
theorem hd.tw17234923516513369237 : True := trivial
theorem hd.tw15813434630575017362 : True := trivial
theorem hd.tw16722109127936396110 : True := trivial
theorem hd.tw12070654863422294720 : True := trivial
theorem hd.tw5657824000916062451 : True := trivial
theorem hd.tw11402939732021071671 : True := trivial
theorem hd.tw9406673726873002282 : True := trivial
theorem hd.tw5608270528595127837 : True := trivial
theorem hd.tw6555240042291301478 : True := trivial
theorem hd.tw6411954120941647267 : True := trivial
theorem hd.tw16713699803418581334 : True := trivial
theorem hd.tw8516288146210602744 : True := trivial
theorem hd.tw922143313871775805 : True := trivial
theorem hd.tw2391449824757734642 : True := trivial
theorem hd.tw6785817131721698500 : True := trivial
theorem hd.tw3442329435671937591 : True := trivial
theorem hd.tw9298403506768410418 : True := trivial
theorem hd.tw12070051907170230399 : True := trivial
theorem hd.tw9499510787657705874 : True := trivial
theorem hd.tw11232374478483605306 : True := trivial
theorem hd.tw6038821095411175016 : True := trivial
theorem hd.tw10860895700388868024 : True := trivial
theorem hd.tw9345676750909349944 : True := trivial
theorem hd.tw2442259710966052079 : True := trivial
theorem hd.tw2603259988358896889 : True := trivial
theorem hd.tw2999033326186475339 : True := trivial
theorem hd.tw185848376630758926 : True := trivial
theorem hd.tw17843490464661113860 : True := trivial
theorem hd.tw5366084841770067474 : True := trivial
theorem hd.tw8789358453043137523 : True := trivial
theorem hd.tw14745743045033390146 : True := trivial
theorem hd.tw10614716105012338702 : True := trivial
theorem hd.tw4315991029959535628 : True := trivial
theorem hd.tw1800889605409440832 : True := trivial
theorem hd.tw9960721518486171458 : True := trivial
theorem hd.tw8990313861142287110 : True := trivial
theorem hd.tw7153062008950511462 : True := trivial
theorem hd.tw16007149819294483003 : True := trivial
theorem hd.tw5036846961687405229 : True := trivial
theorem hd.tw845060206244984605 : True := trivial
theorem hd.tw17903497710992402801 : True := trivial
theorem hd.tw10779200252408728858 : True := trivial
theorem hd.tw3919010098100093602 : True := trivial
theorem hd.tw1997569388931296116 : True := trivial
theorem hd.tw17948085552500728524 : True := trivial
theorem hd.tw17054507655720011243 : True := trivial
theorem hd.tw5416991563250132298 : True := trivial
theorem hd.tw11389486352061984695 : True := trivial
theorem hd.tw1760603350576429475 : True := trivial
theorem hd.tw3008623586974134963 : True := trivial
theorem hd.tw16920754564084929960 : True := trivial
theorem hd.tw519851828213033955 : True := trivial
theorem hd.tw5956859895454681803 : True := trivial
theorem hd.tw17975533764899295144 : True := trivial
theorem hd.tw6804821044290156842 : True := trivial
theorem hd.tw12507593775071373291 : True := trivial
theorem hd.tw16868993833207775613 : True := trivial
theorem hd.tw13321331477185743149 : True := trivial
theorem hd.tw13893168526513508166 : True := trivial
theorem hd.tw9184186324627900627 : True := trivial
theorem hd.tw17336936450418997793 : True := trivial
theorem hd.tw6759412095888398321 : True := trivial
theorem hd.tw4402725079659364252 : True := trivial
theorem hd.tw1600037746751723098 : True := trivial
theorem hd.tw15213948185873263833 : True := trivial
theorem hd.tw8226494294326810461 : True := trivial
theorem hd.tw11251137523995926341 : True := trivial
theorem hd.tw16858285156579221889 : True := trivial
theorem hd.tw13770079208771991547 : True := trivial
theorem hd.tw17739348878880393726 : True := trivial
theorem hd.tw11319892378374348655 : True := trivial
theorem hd.tw15790720579355451973 : True := trivial
theorem hd.tw2506014165581128084 : True := trivial
theorem hd.tw3452082135128663414 : True := trivial
theorem hd.tw728884934406724761 : True := trivial
theorem hd.tw12611767792052310623 : True := trivial
theorem hd.tw17606422857730326317 : True := trivial
theorem hd.tw2051048951616859547 : True := trivial
theorem hd.tw13368278939475635651 : True := trivial
theorem hd.tw11465210709893060100 : True := trivial
theorem hd.tw16029623286316568529 : True := trivial
theorem hd.tw15344866539931968096 : True := trivial
theorem hd.tw18291419657060728153 : True := trivial
theorem hd.tw2225492998660141991 : True := trivial
theorem hd.tw10738003575532504788 : True := trivial
theorem hd.tw15759970867653108152 : True := trivial
theorem hd.tw6407587892757256292 : True := trivial
theorem hd.tw15411387601460861337 : True := trivial
theorem hd.tw4086058157674990017 : True := trivial
theorem hd.tw12239354291974867115 : True := trivial
theorem hd.tw7494724483528729301 : True := trivial
theorem hd.tw4159134105002834734 : True := trivial
theorem hd.tw9673543361469618366 : True := trivial
theorem hd.tw8457440626546761165 : True := trivial
theorem hd.tw6082411064634330575 : True := trivial
theorem hd.tw8269573656231971908 : True := trivial
theorem hd.tw16157073509204512506 : True := trivial
theorem hd.tw3571134770919094901 : True := trivial
theorem hd.tw15529170255622000948 : True := trivial
theorem hd.tw4642405928176397000 : True := trivial
theorem hd.tw15946388913382835224 : True := trivial
theorem hd.tw13181700845877081190 : True := trivial
theorem hd.tw12647368939536790636 : True := trivial
theorem hd.tw16240987189780228909 : True := trivial
theorem hd.tw7754304195085646258 : True := trivial
theorem hd.tw13250765402290087314 : True := trivial
theorem hd.tw1197925565968671727 : True := trivial
theorem hd.tw15673258824015622330 : True := trivial
theorem hd.tw17925215291927510665 : True := trivial
theorem hd.tw8273930003744585626 : True := trivial
theorem hd.tw11754176132448286083 : True := trivial
theorem hd.tw18103420901670897651 : True := trivial
theorem hd.tw2783992281797965187 : True := trivial
theorem hd.tw22551697357593593 : True := trivial
theorem hd.tw3795277891434052102 : True := trivial
theorem hd.tw7525542149764818722 : True := trivial
theorem hd.tw11801993109049149486 : True := trivial
theorem hd.tw7534799579077118603 : True := trivial
theorem hd.tw6547078798241139092 : True := trivial
theorem hd.tw9533747618267967006 : True := trivial
theorem hd.tw3814350955762905654 : True := trivial
theorem hd.tw7355570028127101125 : True := trivial
theorem hd.tw3694398316872202419 : True := trivial
theorem hd.tw6767318904944593275 : True := trivial
theorem hd.tw10601615944963115059 : True := trivial
theorem hd.tw7296583596125217682 : True := trivial
theorem hd.tw10678649693572172417 : True := trivial
theorem hd.tw11778180911958503814 : True := trivial
theorem hd.tw5797579720489195210 : True := trivial
theorem hd.tw14478148883734587675 : True := trivial
theorem hd.tw12271959270614036898 : True := trivial
theorem hd.tw2608437505485318709 : True := trivial
theorem hd.tw8381844023166312768 : True := trivial
theorem hd.tw15852365999677673905 : True := trivial
theorem hd.tw18264374347568628810 : True := trivial
theorem hd.tw4971549296188076032 : True := trivial
theorem hd.tw17177331786930743035 : True := trivial
theorem hd.tw758273949599710562 : True := trivial
theorem hd.tw7289634563603522867 : True := trivial
theorem hd.tw17542962492245011380 : True := trivial
theorem hd.tw17252143746492648416 : True := trivial
theorem hd.tw17377529257436501650 : True := trivial
theorem hd.tw6184460063843016694 : True := trivial
theorem hd.tw5343241284826551009 : True := trivial
theorem hd.tw2323474266016966308 : True := trivial
theorem hd.tw11162318198679636149 : True := trivial
theorem hd.tw1147470481896660410 : True := trivial
theorem hd.tw6264232113106981867 : True := trivial
theorem hd.tw18219297243305740317 : True := trivial
theorem hd.tw11935140377862899646 : True := trivial
theorem hd.tw11136197038861592535 : True := trivial
theorem hd.tw18293732401869909652 : True := trivial
theorem hd.tw11660266114150955751 : True := trivial
theorem hd.tw3704167492566942397 : True := trivial
theorem hd.tw6442067068224118133 : True := trivial
theorem hd.tw16477043939570097188 : True := trivial
theorem hd.tw15615420239508185596 : True := trivial
theorem hd.tw3229955645248102723 : True := trivial
theorem hd.tw10603584201595350602 : True := trivial
theorem hd.tw14980023328507725902 : True := trivial
theorem hd.tw12602439190401603521 : True := trivial
theorem hd.tw11151547217846952531 : True := trivial
theorem hd.tw2887051446865420828 : True := trivial
theorem hd.tw10806950440038215891 : True := trivial
theorem hd.tw9657781627882305391 : True := trivial
theorem hd.tw2068664650715991707 : True := trivial
theorem hd.tw1241404454085649124 : True := trivial
theorem hd.tw2329189449893159454 : True := trivial
theorem hd.tw2788664435532181463 : True := trivial
theorem hd.tw5190246844813560578 : True := trivial
theorem hd.tw14492701947808656938 : True := trivial
theorem hd.tw14852329139284432860 : True := trivial
theorem hd.tw14103535550066685397 : True := trivial
theorem hd.tw8356816923877370021 : True := trivial
theorem hd.tw26425463804135960 : True := trivial
theorem hd.tw3350844169311001129 : True := trivial
theorem hd.tw16432713993328977331 : True := trivial
theorem hd.tw12629568148972539762 : True := trivial
theorem hd.tw5283464899586487735 : True := trivial
theorem hd.tw876933089483189297 : True := trivial
theorem hd.tw1194904439430580092 : True := trivial
theorem hd.tw4654797750381630734 : True := trivial
theorem hd.tw9153386212771759811 : True := trivial
theorem hd.tw1043307727769730188 : True := trivial
theorem hd.tw10879034167726328663 : True := trivial
theorem hd.tw6578402527460240241 : True := trivial
theorem hd.tw16064382804478563927 : True := trivial
theorem hd.tw6394381022753523788 : True := trivial
theorem hd.tw4068527845204499245 : True := trivial
theorem hd.tw6305734824756694309 : True := trivial
theorem hd.tw2252305205657439004 : True := trivial
theorem hd.tw2708950531961675432 : True := trivial
theorem hd.tw4494801613693538912 : True := trivial
theorem hd.tw7526368328331116154 : True := trivial
theorem hd.tw10424393626065333798 : True := trivial
theorem hd.tw11551083187376567056 : True := trivial
theorem hd.tw1439246655266547700 : True := trivial
theorem hd.tw6438293893037913957 : True := trivial
theorem hd.tw14685462170515437407 : True := trivial
theorem hd.tw3429492842335990350 : True := trivial
theorem hd.tw12023040214023829324 : True := trivial
set_option Elab.async true in
set_option maxRecDepth 100000 in
set_option maxHeartbeats 8000000 in
theorem hd : PySem.Challenge.rw_sa0029_01.Holds := by
  w_on
  o_law
  k_head
  (case hw => w_witness2)
  intro w s₀ s₁ mg mb G Y fa o pm cd doc dV kV ho hd hcd hD hmg hg args vals as hpre hlay hrd hwl hlo
  have KX := kIn_of Y
  refine Ground.open G ?_
  intro T B D TE TW
  have W : Mine.Wld (Mine.KK w) s₁.heap := ⟨KX, T.nolimit, _, _, _, _, topRead_of T⟩
  have hfa : fa = 466 := by
    have h1 := mg_of KX T.g (Mine.g_law w)
    rw [show mg (Str.ofString "law") = some (.ref fa) from hmg] at h1
    injection h1 with h1
    injection h1
  subst hfa
  clear ho hd hcd hD hmg
  wrow_args hpre hlay hrd hwl hlo
  rename_i ns q1 q2 q3 q4 q5 q6 q7 sc us q8 hl q9 q10 q11 hi q12 hlen q13
  refine wpAny_call (Mine.law_call W hl hi ?_ fun h₁ tk e => ?_)
  · have hz := hi.length
    have h63 : ns.length ≤ 63 := by
      have := Int.not_lt.mp hlen
      omega
    have hlim : Mine.lim = 100000 := rfl
    omega
  · refine GoodW.toG ⟨.inl ⟨_, .bool true, [], rfl, fun _ => rfl, .bool true, ?_, fun _ => ⟨.nil, by simp⟩⟩, fun b o => e b o, rfl, hg⟩
    refine postC_of (X := true) ?_ ?_ rfl
    · show WShape.has _ (.bool true) .bool = true
      kernel_rfl
    · show WTm.value _ (.eq .res (.lit (.bool true))) _ = _
      simp [WTm.value, same_self]
end Mine
end
theorem PySem.Challenge.cw_sa0029_01_holds : PySem.Challenge.rw_sa0029_01.Holds := by
  exact Mine.hd
