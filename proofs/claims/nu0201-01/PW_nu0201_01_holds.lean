import PyProof.Rows.All
import Wide.All
import OpenK.AllK
import Wide.FinOn
import PySem.Challenge.RW_nu0201_01
open PySem PySem.W PyProof.Rows
set_option Elab.async false
set_option maxRecDepth 100000
set_option maxHeartbeats 8000000
set_option linter.all false
open_top hd for PySem.Challenge.rw_nu0201_01
open PySem.Calls
namespace Mine

abbrev pg : Program := PySem.Challenge.rw_nu0201_01.row.prog
noncomputable abbrev KK (w : World) : Frag := hd.heap_39 w.params
abbrev Fields := List (Str × Value)

theorem fillit : hd.heap_39 = hd.heap_39 ∧ PySem.Challenge.rw_nu0201_01 = PySem.Challenge.rw_nu0201_01 := by
  k_fill
  exact ⟨rfl, rfl⟩

def setF (m : Fields) (x : Str) (v : Value) : Fields := match m with
  | [] => [(x, v)]
  | (n, u) :: r => if x = n then (n, v) :: r else (n, u) :: setF r x v

def lk (m : Fields) (y : Str) : Option Value := match m with
  | [] => none
  | (n, v) :: r => if y = n then some v else lk r y

theorem lk_setF (m : Fields) (x : Str) (v : Value) : lk (setF m x v) = fun y => if y = x then some v else lk m y := by
  funext y
  induction m with
  | nil => rfl
  | cons p r ih =>
    obtain ⟨p1, p2⟩ := p
    simp only [setF, lk]
    by_cases h1 : x = p1
    · rw [if_pos h1]
      simp only [lk]
      by_cases h : y = p1
      · simp [h, h1]
      · have : ¬ y = x := fun e => h (e.trans h1)
        simp [h, this]
    · rw [if_neg h1]
      simp only [lk, ih]
      by_cases h : y = p1
      · have : ¬ y = x := fun e => h1 (e.symm.trans h)
        simp [h]
        intro e; exact absurd e.symm h1
      · simp [h]

theorem lk_lookup (m : Fields) : lk m = fun y => m.lookup y := by
  funext y
  induction m with
  | nil => rfl
  | cons p r ih =>
    have e : List.lookup y (p :: r) = match y == p.1 with | true => some p.2 | false => List.lookup y r := by cases p; rfl
    rw [e]
    have e2 : lk (p :: r) y = if y = p.1 then some p.2 else lk r y := by cases p; rfl
    rw [e2]
    by_cases h : y = p.1
    · subst h; simp
    · have : (y == p.1) = false := by simpa using h
      rw [this, if_neg h]; exact ih

inductive AO where
  | raw (o : Obj)
  | list (vs : List Value)
  | xlist (vs : List Value)
  | tuple (vs : List Value)
  | inst (C d : Addr)
  | attrs (fs : Fields)
  | idict (kvs : List (Int × Value))
  | listIter (l : Addr) (i : Nat)
  | tupIter (l : Addr) (i : Nat)
  | rangeIter (x left step : Int)
  | ns (m : Fields)
  | cell (v : Option Value)

def AttrsOk (P : Params) : List DictEntry → Fields → Prop
  | [], [] => True
  | e :: es, p :: fs => (e.hash = PyData.keyHash P p.1 ∧ (∃ t, e.key = .str p.1 t) ∧ e.val = p.2) ∧ AttrsOk P es fs
  | _, _ => False

def AO.Is (w : World) (a : Addr) : AO → Obj → Prop
  | .raw o', o => o = o'
  | .list vs, o => o.cls = .type "list" ∧ ∃ n, o.data = .seq vs.toArray n
  | .xlist vs, o => ∃ n, o = listOf vs.toArray n
  | .tuple vs, o => o.cls = .type "tuple" ∧ ∃ n, o.data = .seq vs.toArray n
  | .inst C d, o => o = instObj C d
  | .attrs fs, o => ∃ es n, o = dictOf es n ∧ AttrsOk w.params es fs
  | .idict kvs, o => (a == sysModules) = false ∧ Obj.IsDictOf (intKind pg w) o kvs
  | .listIter l i, o => o.cls = .type "list_iterator" ∧ o.data = .fields #[.ref l, .int i 0]
  | .tupIter l i, o => o.cls = .type "tuple_iterator" ∧ o.data = .fields #[.ref l, .int i 0]
  | .rangeIter x left step, o => o = { cls := .type "range_iterator", dict := none, data := .fields #[rawInt x, rawInt left, rawInt step], slots := #[] }
  | .ns m, o => ∃ es ep, o.data = .dict es ep ∧ StrKeys es ∧ ∀ name : Str, nsFind es name = lk m name
  | .cell v, o => o.data = .cell v

/-- a ghost heap -/
abbrev Gh := Addr → Option AO
def upd (σ : Gh) (a : Addr) (A : AO) : Gh := fun b => if b = a then some A else σ b
theorem upd_same (σ : Gh) (a : Addr) (A : AO) : upd σ a A a = some A := by simp [upd]
theorem upd_ne {σ : Gh} {a b : Addr} {A B : AO} (h : b ≠ a) (e : σ b = some B) : upd σ a A b = some B := by simp [upd, h, e]

def Led (w : World) (h₀ : Heap) (L : Addr) (h : Heap) (σ : Gh) : Prop :=
  ∀ a A, σ a = some A → (∃ o, h.get? a = some o ∧ A.Is w a o) ∧ a ≠ L ∧ h₀.get? a = none

structure St (w : World) (h₀ : Heap) (L : Addr) (h : Heap) (m : Fields) (σ : Gh) : Prop where
  fr : Fr h₀ L h (lk m)
  led : Led w h₀ L h σ

section
variable {w : World} {h₀ h h' : Heap} {L : Addr} {m : Fields} {σ : Gh} {a b : Addr} {A : AO}

theorem St.at_ (S : St w h₀ L h m σ) (e : σ a = some A) : ∃ o, h.get? a = some o ∧ A.Is w a o := (S.led a A e).1
theorem St.lt (S : St w h₀ L h m σ) (e : σ a = some A) : a < h.objs.size := by
  obtain ⟨o, ho, _⟩ := S.at_ e
  exact Heap.lt_size ho
theorem St.ltL (S : St w h₀ L h m σ) : L < h.objs.size := by
  exact S.fr.ns.lt
theorem St.free (S : St w h₀ L h m σ) : σ h.objs.size = none := by
  cases e : σ h.objs.size with
  | none => rfl
  | some A => exact absurd (S.lt e) (Nat.lt_irrefl _)

theorem St.ext (S : St w h₀ L h m σ) (k : ∀ b o, h.get? b = some o → h'.get? b = some o) : St w h₀ L h' m σ where
  fr := S.fr.keeps k
  led := fun a A e => by
    obtain ⟨⟨o, ho, hA⟩, h1, h2⟩ := S.led a A e
    exact ⟨⟨o, k _ _ ho, hA⟩, h1, h2⟩

theorem St.push (S : St w h₀ L h m σ) {o : Obj} (hA : A.Is w h.objs.size o) (hf : o.isFreed = false) : St w h₀ L (h.push o) m (upd σ h.objs.size A) where
  fr := S.fr.push o
  led := fun b B e => by
    unfold upd at e
    by_cases hb : b = h.objs.size
    · rw [if_pos hb] at e
      cases e
      subst hb
      refine ⟨⟨o, Heap.get?_push_size _ hf, hA⟩, Nat.ne_of_gt S.ltL, ?_⟩
      cases hq : h₀.get? h.objs.size with
      | none => rfl
      | some o' => exact absurd (Heap.lt_size (S.fr.keep _ _ hq)) (Nat.lt_irrefl _)
    · rw [if_neg hb] at e
      obtain ⟨⟨o', ho, hB⟩, h1, h2⟩ := S.led b B e
      exact ⟨⟨o', Heap.get?_push_of_some _ ho, hB⟩, h1, h2⟩

theorem St.set (S : St w h₀ L h m σ) (hs : Heap.SameBut a h h') {A₀ : AO} (e : σ a = some A₀) (hA : ∃ o, h'.get? a = some o ∧ A.Is w a o) : St w h₀ L h' m (upd σ a A) := by
  obtain ⟨_, hne, hnone⟩ := S.led a A₀ e
  refine ⟨⟨S.fr.ns.sameBut hs (Ne.symm hne), fun b o q => (hs.2 b (fun x => ?_)).trans (S.fr.keep b o q), S.fr.above⟩, fun b B q => ?_⟩
  · rw [x, hnone] at q; cases q
  · unfold upd at q
    by_cases hb : b = a
    · rw [if_pos hb] at q
      cases q
      subst hb
      exact ⟨hA, hne, hnone⟩
    · rw [if_neg hb] at q
      obtain ⟨⟨o', ho, hB⟩, h1, h2⟩ := S.led b B q
      exact ⟨⟨o', (hs.2 b hb).trans ho, hB⟩, h1, h2⟩

theorem St.less {σ' : Gh} (S : St w h₀ L h m σ) (k : ∀ a A, σ' a = some A → σ a = some A) : St w h₀ L h m σ' := ⟨S.fr, fun a A e => S.led a A (k a A e)⟩

/-- a ledger as the library has it -/
theorem St.news (S : St w h₀ L h m σ) : ∃ news, News h₀ L h news ∧ (∀ a A, σ a = some A → ∃ o, (a, o) ∈ news ∧ A.Is w a o) ∧ (news.map (·.1)).Nodup := by
  refine ⟨(List.range h.objs.size).filterMap (fun a => if (σ a).isSome then (h.get? a).map (fun o => (a, o)) else none), ?_, ?_, ?_⟩
  · intro p hp
    obtain ⟨a, _, e⟩ := List.mem_filterMap.mp hp
    split at e
    · rename_i hs
      obtain ⟨A, hA⟩ := Option.isSome_iff_exists.mp hs
      obtain ⟨⟨o, ho, _⟩, h1, h2⟩ := S.led a A hA
      rw [ho] at e
      cases e
      exact ⟨ho, h1, h2⟩
    · cases e
  · intro a A e
    obtain ⟨o, ho, hA⟩ := S.at_ e
    refine ⟨o, List.mem_filterMap.mpr ⟨a, List.mem_range.mpr (Heap.lt_size ho), ?_⟩, hA⟩
    rw [e, ho]; rfl
  · have : ∀ (l : List Nat), l.Nodup → ((l.filterMap (fun a => if (σ a).isSome then (h.get? a).map (fun o => (a, o)) else none)).map (·.1)).Nodup := by
      intro l
      induction l with
      | nil => intro _; exact List.nodup_nil
      | cons x r ih =>
        intro hn
        obtain ⟨h1, h2⟩ := List.nodup_cons.mp hn
        rw [List.filterMap_cons]
        split
        · exact ih h2
        · rename_i p hp
          rw [List.map_cons]
          refine List.nodup_cons.mpr ⟨fun hm => ?_, ih h2⟩
          have hpx : p.1 = x := by
            split at hp
            · cases q : h.get? x with
              | none => rw [q] at hp; cases hp
              | some o => rw [q] at hp; cases hp; rfl
            · cases hp
          obtain ⟨q, hq, hqe⟩ := List.mem_map.mp hm
          obtain ⟨y, hy, e⟩ := List.mem_filterMap.mp hq
          have hqy : q.1 = y := by
            split at e
            · cases q' : h.get? y with
              | none => rw [q'] at e; cases e
              | some o => rw [q'] at e; cases e; rfl
            · cases e
          exact h1 (by rw [← hpx, ← hqe, hqy]; exact hy)
    exact this _ List.nodup_range

theorem Led.of_news {news : List (Addr × Obj)} (N : News h₀ L h news) (k : ∀ a A, σ a = some A → ∃ o, (a, o) ∈ news ∧ A.Is w a o) : Led w h₀ L h σ := fun a A e => by
  obtain ⟨o, hm, hA⟩ := k a A e
  obtain ⟨h1, h2, h3⟩ := N _ hm
  exact ⟨⟨o, h1, hA⟩, h2, h3⟩
end

/-- a frame's configuration -/
structure Cf where
  w : World
  A : Around
  h₀ : Heap
  L : Addr

def Post {α : Type} (c : Cf) (g : Array GenState) (d : Drawn) (o : OsState) (Φ : α → Fields → Gh → Prop) (a : α) (s' : Shared) : Prop :=
  ∃ h' tk' m' σ', s' = ⟨h', g, d, tk', o⟩ ∧ St c.w c.h₀ c.L h' m' σ' ∧ Φ a m' σ'

def WP {α : Type} (c : Cf) (t : Sem α) (Φ : α → Fields → Gh → Prop) (m : Fields) (σ : Gh) : Prop :=
  ∀ h g d tk o, St c.w c.h₀ c.L h m σ → wpAny (model pg c.w) c.A t (Post c g d o Φ) (fun _ _ => False) ⟨h, g, d, tk, o⟩

/-- what stands of a frame -/
structure Cx (c : Cf) (k : Nat) : Prop where
  below : ∃ A₀ base outer env, Below A₀ base outer c.h₀ ∧ c.A.frames = some (env :: outer) ∧ env.frame = some c.L ∧ env.scope.kind = .function
  X : (hd.heap_39 c.w.params).In c.h₀
  top : ∃ p loose mean mg mb, Top p loose mean mg mb c.h₀
  hh : c.A.handled = none
  depth : c.A.depth + k < recursionLimit
  units : c.A.units + 20 * k + 20 < cLine

section
variable {α β : Type} {c : Cf} {Φ Ψ : α → Fields → Gh → Prop} {m : Fields} {σ : Gh}

theorem Post.mono {g : Array GenState} {d : Drawn} {o : OsState} {a : α} {s' : Shared} (h : Post c g d o Φ a s') (k : ∀ a m σ, Φ a m σ → Ψ a m σ) : Post c g d o Ψ a s' := by
  obtain ⟨h', tk', m', σ', e, S, hp⟩ := h
  exact ⟨h', tk', m', σ', e, S, k _ _ _ hp⟩

theorem WP.mono {t : Sem α} (h : WP c t Φ m σ) (k : ∀ a m σ, Φ a m σ → Ψ a m σ) : WP c t Ψ m σ := fun hp g d tk o S =>
  wpAny_mono (h hp g d tk o S) (fun _ _ q => q.mono k) fun _ _ x => x

/-- a step, then what follows -/
theorem WP.then_ {t : Sem α} {f : α → Sem β} {Φ : β → Fields → Gh → Prop} (h : WP c t (fun a m σ => WP c (f a) Φ m σ) m σ) {hp : Heap} {g : Array GenState} {d : Drawn} {tk : Nat} {o : OsState} (S : St c.w c.h₀ c.L hp m σ) :
    wpAny (model pg c.w) c.A t (fun a s' => wpAny (model pg c.w) c.A (f a) (Post c g d o Φ) (fun _ _ => False) s') (fun _ _ => False) ⟨hp, g, d, tk, o⟩ :=
  wpAny_mono (h hp g d tk o S) (fun a s' q => by
    obtain ⟨h', tk', m', σ', rfl, S', hw⟩ := q
    exact hw h' g d tk' o S') fun _ _ x => x

theorem WP.use {t : Sem α} (h : WP c t Φ m σ) {hp : Heap} {g : Array GenState} {d : Drawn} {tk : Nat} {o : OsState} (S : St c.w c.h₀ c.L hp m σ) {Q : α → Shared → Prop}
    (k : ∀ a h' tk' m' σ', St c.w c.h₀ c.L h' m' σ' → Φ a m' σ' → Q a ⟨h', g, d, tk', o⟩) : wpAny (model pg c.w) c.A t Q (fun _ _ => False) ⟨hp, g, d, tk, o⟩ :=
  wpAny_mono (h hp g d tk o S) (fun a s' q => by
    obtain ⟨h', tk', m', σ', rfl, S', hw⟩ := q
    exact k a h' tk' m' σ' S' hw) fun _ _ x => x

theorem WP.pure {a : α} (h : Φ a m σ) : WP c (pure a : Sem α) Φ m σ := fun hp g d tk o S => wpAny_pure ⟨hp, tk, m, σ, rfl, S, h⟩
theorem WP.bind {t : Sem α} {f : α → Sem β} {Φ : β → Fields → Gh → Prop} (h : WP c t (fun a m σ => WP c (f a) Φ m σ) m σ) : WP c (t >>= f) Φ m σ :=
  fun _ _ _ _ _ S => wpAny_bind (h.then_ S)
end
end Mine
namespace Mine

def RetP (N : Fields → Gh → Prop) (R : Value → Fields → Gh → Prop) : Flow → Fields → Gh → Prop
  | .next, m, σ => N m σ
  | .ret v, m, σ => R v m σ
  | _, _, _ => False
def WS (c : Cf) (b : List Stmt) (env : Env) (N : Fields → Gh → Prop) (R : Value → Fields → Gh → Prop) (m : Fields) (σ : Gh) : Prop := WP c (execs b env) (RetP N R) m σ
def WE (c : Cf) (st : Stmt) (env : Env) (N : Fields → Gh → Prop) (R : Value → Fields → Gh → Prop) (m : Fields) (σ : Gh) : Prop := WP c (exec st env) (RetP N R) m σ

structure Ev (c : Cf) (env : Env) : Prop where
  loc : env.locals = c.L
  kind : env.scope.kind = .function
  glob : env.globals = mainGlobals
  blt : env.builtins = builtinsNs
  fr : env.frame = some c.L

section
variable {c : Cf} {k : Nat} {env : Env} {m : Fields} {σ : Gh} {Φ : Value → Fields → Gh → Prop} {N : Fields → Gh → Prop} {R : Value → Fields → Gh → Prop}

theorem ws_nil (h : N m σ) : WS c [] env N R m σ := fun hp g d tk o S => wpAny_execs_nil ⟨hp, tk, m, σ, rfl, S, h⟩
theorem ws_cons {st : Stmt} {rest : List Stmt} (h : WE c st env (fun m σ => WS c rest env N R m σ) R m σ) : WS c (st :: rest) env N R m σ :=
  fun hp g d tk o S => wpAny_execs_cons (WP.use h S fun f h' tk' m' σ' S' hf => by
    cases f with
    | next => exact hf h' g d tk' o S'
    | ret v => exact ⟨h', tk', m', σ', rfl, S', hf⟩
    | brk => exact hf.elim
    | cont => exact hf.elim)
theorem we_ret {e : Expr} {p : Pos} (h : WP c (eval e env) R m σ) : WE c (.Return (some e) p) env N R m σ :=
  fun hp g d tk o S => wpAny_Return_some (WP.use h S fun v h' tk' m' σ' S' hv => ⟨h', tk', m', σ', rfl, S', hv⟩)
theorem we_ret0 {p : Pos} (h : R .none m σ) : WE c (.Return none p) env N R m σ :=
  fun hp g d tk o S => wpAny_Return_none ⟨hp, tk, m, σ, rfl, S, h⟩
theorem we_if {test : Expr} {b1 b2 : List Stmt} {p : Pos}
    (h : WP c (PySem.isTrue test env (eval test env)) (fun b m σ => (b = true → WS c b1 env N R m σ) ∧ (b = false → WS c b2 env N R m σ)) m σ) : WE c (.If test b1 b2 p) env N R m σ :=
  fun hp g d tk o S => wpAny_If (WP.use h S fun b h' tk' m' σ' S' hb => by
    cases b with
    | true => exact hb.1 rfl h' g d tk' o S'
    | false => exact hb.2 rfl h' g d tk' o S')
theorem we_expr {e : Expr} {p : Pos} (h : WP c (eval e env) (fun _ m σ => N m σ) m σ) (h1 : interactive env = false := by rfl) (h2 : swapsWith e none p.line env = pure false := by rfl) : WE c (.Expr e p) env N R m σ :=
  fun hp g d tk o S => wpAny_Expr_any (WP.use h S fun v h' tk' m' σ' S' hv => ⟨h', tk', m', σ', rfl, S', hv⟩) h1 h2

theorem st_local {h h' : Heap} {h₀ : Heap} {L : Addr} {w : World} {x : Str} {v : Value} (S : St w h₀ L h m σ) (hn : h'.Ns L fun y => if y = x then some v else lk m y) (hs : Heap.SameBut L h h') : St w h₀ L h' (setF m x v) σ := by
  refine ⟨?_, fun a A e => ?_⟩
  · rw [lk_setF]
    exact S.fr.set hn hs
  · obtain ⟨⟨o, ho, hA⟩, h1, h2⟩ := S.led a A e
    exact ⟨⟨o, (hs.2 a h1).trans ho, hA⟩, h1, h2⟩

theorem wp_store {x : Str} {v : Value} {Φ : Unit → Fields → Gh → Prop} (he : Ev c env) (hl : env.kindOf x = some .local) (h : Φ () (setF m x v) σ) : WP c (storeName env x v) Φ m σ :=
  fun hp g d tk o S => wpAny_storeName_local hl (by rw [he.loc]; exact S.fr.ns) (fun h' hn hs => ⟨h', _, _, _, rfl, st_local S (by rw [← he.loc]; exact hn) (by rw [← he.loc]; exact hs), h⟩)
    (by rw [he.kind]; rfl)

theorem we_assign {x : Str} {p p' : Pos} {e : Expr} (he : Ev c env) (h : WP c (eval e env) (fun v m σ => N (setF m x v) σ) m σ) (hl : env.kindOf x = some .local := by rfl) (hsw : swapsWith e (some (.Name x p')) p.line env = pure false := by rfl) :
    WE c (.Assign [.Name x p'] e p) env N R m σ :=
  fun hp g d tk o S => wpAny_Assign_Name (WP.use h S fun v h' tk' m' σ' S' hv =>
    WP.use (wp_store (Φ := fun _ m σ => N m σ) he hl hv) S' fun _ h'' tk'' m'' σ'' S'' hv'' => ⟨h'', tk'', m'', σ'', rfl, S'', hv''⟩) hsw
theorem we_setattr {ob : Expr} {attr : Str} {p p' : Pos} {e : Expr}
    (h : WP c (eval e env) (fun v m σ => WP c (eval ob env) (fun x m σ => WP c (setAttr x attr v) (fun _ m σ => N m σ) m σ) m σ) m σ) (hsw : swapsWith e (some (.Attribute ob attr p')) p.line env = pure false := by rfl) :
    WE c (.Assign [.Attribute ob attr p'] e p) env N R m σ :=
  fun hp g d tk o S => plainObj_wpAny_Assign_Attribute (WP.use h S fun v h' tk' m' σ' S' hv => WP.use hv S' fun x h2 tk2 m2 σ2 S2 hx =>
    WP.use hx S2 fun _ h3 tk3 m3 σ3 S3 hn => ⟨h3, tk3, m3, σ3, rfl, S3, hn⟩) hsw
theorem we_setitem {ob ix : Expr} {p p' : Pos} {e : Expr}
    (h : WP c (eval e env) (fun v m σ => WP c (eval ob env) (fun x m σ => WP c (eval ix env) (fun i m σ => WP c (setItem x i v) (fun _ m σ => N m σ) m σ) m σ) m σ) m σ) (hsw : swapsWith e (some (.Subscript ob ix p')) p.line env = pure false := by rfl) :
    WE c (.Assign [.Subscript ob ix p'] e p) env N R m σ :=
  fun hp g d tk o S => wpAny_Assign_Subscript (WP.use h S fun v h' tk' m' σ' S' hv => WP.use hv S' fun x h2 tk2 m2 σ2 S2 hx =>
    WP.use hx S2 fun i h3 tk3 m3 σ3 S3 hi => WP.use hi S3 fun _ h4 tk4 m4 σ4 S4 hn => ⟨h4, tk4, m4, σ4, rfl, S4, hn⟩) hsw
theorem we_unpack {elts : List Expr} {n : Nat} {tp p : Pos} {e : Expr}
    (h : WP c (eval e env) (fun v m σ => WP c (assign (.Tuple elts n tp) env v) (fun _ m σ => N m σ) m σ) m σ)
    (h1 : swapsWithSole [Expr.Tuple elts n tp] e p.line env = pure false := by rfl) (h2 : swappedStores [Expr.Tuple elts n tp] e env = pure none := by rfl) :
    WE c (.Assign [.Tuple elts n tp] e p) env N R m σ :=
  fun hp g d tk o S => Assign_Tuple (WP.use h S fun v h' tk' m' σ' S' hv => WP.use hv S' fun _ h4 tk4 m4 σ4 S4 hn => ⟨h4, tk4, m4, σ4, rfl, S4, hn⟩) h1 h2

/-! names, constants -/
theorem wp_name {x : Str} {p : Pos} {v : Value} (he : Ev c env) (hl : env.kindOf x = some .local) (hv : lk m x = some v) (h : Φ v m σ) (hd : (x == ("__debug__" : Str)) = false := by decide) : WP c (eval (.Name x p) env) Φ m σ :=
  fun hp g d tk o S => wpAny_Name (wpAny_loadName_local he.kind hl (by rw [he.loc]; exact S.fr.ns) hv ⟨hp, tk, m, σ, rfl, S, h⟩) hd
theorem wp_nameG {x : Str} {p : Pos} {v : Value} (C : Cx c k) (he : Ev c env) (hl : env.kindOf x = some .globalImplicit) (hv : nsIn (hd.heap_39 c.w.params) mainGlobals x = some (some v)) (h : Φ v m σ) (hd : (x == ("__debug__" : Str)) = false := by decide) : WP c (eval (.Name x p) env) Φ m σ :=
  fun hp g d tk o S => by
    obtain ⟨_, _, _, mg, mb, T⟩ := C.top
    exact Name_function_global he.kind hl (loadGlobal_global (env := env) (by rw [he.glob]; exact T.g.keeps S.fr.keep) (mg_of C.X T.g hv) ⟨hp, tk, m, σ, rfl, S, h⟩) hd
theorem wp_nameB {x : Str} {p : Pos} {v : Value} (C : Cx c k) (he : Ev c env) (hl : env.kindOf x = some .globalImplicit) (hg : nsIn (hd.heap_39 c.w.params) mainGlobals x = some none) (hv : bootBuiltins x = some v) (hn : x ≠ "__name__") (h : Φ v m σ) (hd : (x == ("__debug__" : Str)) = false := by decide) : WP c (eval (.Name x p) env) Φ m σ :=
  fun hp g d tk o S => by
    obtain ⟨_, _, _, mg, mb, T⟩ := C.top
    exact Name_function_global he.kind hl (loadGlobal_builtin (env := env) (by rw [he.glob]; exact T.g.keeps S.fr.keep) (mg_none_of C.X T.g hg) (by rw [he.blt]; exact T.b.keeps S.fr.keep) ((T.builtins x hn).trans hv) ⟨hp, tk, m, σ, rfl, S, h⟩) hd
theorem wp_int {i : Int} {n : Nat} {p : Pos} (h : ∀ t, Φ (.int i t) m σ) : WP c (eval (.Constant (.int i) n p) env) Φ m σ :=
  fun hp g d tk o S => wpAny_Constant_int ⟨hp, _, m, σ, rfl, S, h _⟩
theorem wp_str {x : Str} {n : Nat} {p : Pos} (h : ∀ t, Φ (.str x t) m σ) : WP c (eval (.Constant (.str x) n p) env) Φ m σ :=
  fun hp g d tk o S => Constant_str ⟨hp, _, m, σ, rfl, S, h _⟩
theorem wp_bool {b : Bool} {n : Nat} {p : Pos} (h : Φ (.bool b) m σ) : WP c (eval (.Constant (.bool b) n p) env) Φ m σ :=
  fun hp g d tk o S => Constant_bool ⟨hp, _, m, σ, rfl, S, h⟩
theorem wp_none {n : Nat} {p : Pos} (h : Φ .none m σ) : WP c (eval (.Constant .none n p) env) Φ m σ :=
  fun hp g d tk o S => Constant_none ⟨hp, _, m, σ, rfl, S, h⟩

/-! expressions -/
theorem wp_binop {l r : Expr} {op : Operator} {p : Pos} (h : WP c (eval l env) (fun a m σ => WP c (eval r env) (fun b m σ => WP c (binaryOp op a b) Φ m σ) m σ) m σ) : WP c (eval (.BinOp l op r p) env) Φ m σ :=
  fun hp g d tk o S => wpAny_BinOp (WP.use h S fun a h' tk' m' σ' S' ha => WP.then_ ha S')
theorem wp_compare {l r : Expr} {op : CmpOp} {p : Pos} (h : WP c (eval l env) (fun a m σ => WP c (eval r env) (fun b m σ => WP c (compareOp op a b) Φ m σ) m σ) m σ) (hb : behindInMarks op r = false := by rfl) : WP c (eval (.Compare l [op] [r] p) env) Φ m σ :=
  fun hp g d tk o S => wpAny_Compare1 (WP.use h S fun a h' tk' m' σ' S' ha => WP.then_ ha S') hb
theorem wp_unary {x : Expr} {op : UnaryOp} {p : Pos} (h : WP c (eval x env) (fun a m σ => WP c (unaryOp op a) Φ m σ) m σ) : WP c (eval (.UnaryOp op x p) env) Φ m σ :=
  fun hp g d tk o S => UnaryOp_ (WP.then_ h S)
theorem wp_ifexp {test a b : Expr} {p : Pos} (h : WP c (PySem.isTrue test env (eval test env)) (fun q m σ => (q = true → WP c (eval a env) Φ m σ) ∧ (q = false → WP c (eval b env) Φ m σ)) m σ) : WP c (eval (.IfExp test a b p) env) Φ m σ :=
  fun hp g d tk o S => IfExp_ (WP.use h S fun b h' tk' m' σ' S' hb => by
    cases b with
    | true => exact hb.1 rfl h' g d tk' o S'
    | false => exact hb.2 rfl h' g d tk' o S')
theorem wp_bool1 {op : BoolOp} {e : Expr} {p : Pos} (h : WP c (eval e env) Φ m σ) : WP c (eval (.BoolOp op [e] p) env) Φ m σ :=
  fun hp g d tk o S => BoolOp_one (h hp g d tk o S)
theorem wp_and {e1 e2 : Expr} {rest : List Expr} {p : Pos} (h : WP c (eval e1 env) (fun v m σ => WP c (truthy v) (fun q m σ => (q = true → WP c (eval (.BoolOp .And (e2 :: rest) p) env) Φ m σ) ∧ (q = false → Φ v m σ)) m σ) m σ) :
    WP c (eval (.BoolOp .And (e1 :: e2 :: rest) p) env) Φ m σ :=
  fun hp g d tk o S => BoolOp_and (WP.use h S fun v h' tk' m' σ' S' hv => WP.use hv S' fun b h' tk' m' σ' S' hb => by
    cases b with
    | true => exact hb.1 rfl h' g d tk' o S'
    | false => exact ⟨h', tk', m', σ', rfl, S', hb.2 rfl⟩)
theorem wp_or {e1 e2 : Expr} {rest : List Expr} {p : Pos} (h : WP c (eval e1 env) (fun v m σ => WP c (truthy v) (fun q m σ => (q = false → WP c (eval (.BoolOp .Or (e2 :: rest) p) env) Φ m σ) ∧ (q = true → Φ v m σ)) m σ) m σ) :
    WP c (eval (.BoolOp .Or (e1 :: e2 :: rest) p) env) Φ m σ :=
  fun hp g d tk o S => BoolOp_or (WP.use h S fun v h' tk' m' σ' S' hv => WP.use hv S' fun b h' tk' m' σ' S' hb => by
    cases b with
    | true => exact ⟨h', tk', m', σ', rfl, S', hb.2 rfl⟩
    | false => exact hb.1 rfl h' g d tk' o S')
theorem wp_attr {e : Expr} {attr : Str} {p : Pos} (h : WP c (eval e env) (fun x m σ => WP c (getAttr x attr true) Φ m σ) m σ) (hr : eval (e.Attribute attr p) env = (do
          let o ← eval e env
          standAt p.atName
          let r ← holding [o] (getAttr o attr true)
          letTemporaryGo e o r
          pure r) := by rfl) : WP c (eval (.Attribute e attr p) env) Φ m σ :=
  fun hp g d tk o S => Attribute_any_ (WP.then_ h S) hr
theorem wp_attrN {x attr : Str} {p p' : Pos} (h : WP c (eval (.Name x p') env) (fun x m σ => WP c (getAttr x attr true) Φ m σ) m σ) : WP c (eval (.Attribute (.Name x p') attr p) env) Φ m σ :=
  fun hp g d tk o S => Attribute_name (WP.then_ h S)
theorem wp_sub {e i : Expr} {p : Pos} (h : WP c (eval e env) (fun x m σ => WP c (eval i env) (fun j m σ => WP c (subscriptTail e i x j) Φ m σ) m σ) m σ) : WP c (eval (.Subscript e i p) env) Φ m σ :=
  fun hp g d tk o S => Subscript_ (WP.use h S fun a h' tk' m' σ' S' ha => WP.then_ ha S')
theorem wp_list {es : List Expr} {p : Pos} (h : WP c (spliced (backTo p (starEach es env))) (fun vs m σ => WP c (newList vs) Φ m σ) m σ) : WP c (eval (.List es p) env) Φ m σ :=
  fun hp g d tk o S => List_ (WP.then_ h S)
theorem wp_tuple {es : List Expr} {n : Nat} {p : Pos} (h : WP c (spliced (backTo p (starEach es env))) (fun vs m σ => WP c (newTuple vs) Φ m σ) m σ) : WP c (eval (.Tuple es n p) env) Φ m σ :=
  fun hp g d tk o S => Tuple_ (WP.then_ h S)
theorem wp_spl0 {p : Pos} {Φ : List Value → Fields → Gh → Prop} (h : Φ [] m σ) : WP c (spliced (backTo p (starEach [] env))) Φ m σ := fun hp g d tk o S => spliced_none ⟨hp, tk, m, σ, rfl, S, h⟩
theorem wp_spl {e : Expr} {rest : List Expr} {p : Pos} {Φ : List Value → Fields → Gh → Prop} (h : WP c (eval e env) (fun v m σ => WP c (spliced (backTo p (starEach rest env))) (fun vs m σ => Φ (v :: vs) m σ) m σ) m σ)
    (he : starEach (e :: rest) env = (false, eval e env) :: starEach rest env := by rfl) : WP c (spliced (backTo p (starEach (e :: rest) env))) Φ m σ :=
  fun hp g d tk o S => spliced_more (WP.use h S fun v h' tk' m' σ' S' hv => WP.use hv S' fun vs h2 tk2 m2 σ2 S2 h3 => ⟨h2, tk2, m2, σ2, rfl, S2, h3⟩) he

/-! tests -/
theorem wt_compare {l r : Expr} {op : CmpOp} {p : Pos} {whole : Sem Value} {Φ : Bool → Fields → Gh → Prop} (h : WP c (eval l env) (fun a m σ => WP c (eval r env) (fun b m σ => WP c (compareOp op a b) (fun v m σ => WP c (truthy v) Φ m σ) m σ) m σ) m σ) (hb : behindInMarks op r = false := by rfl) :
    WP c (PySem.isTrue (.Compare l [op] [r] p) env whole) Φ m σ :=
  fun hp g d tk o S => wpAny_isTrue_Compare1 (WP.use h S fun a h' tk' m' σ' S' ha => WP.use ha S' fun b h2 tk2 m2 σ2 S2 hb => WP.then_ hb S2) hb
theorem wt_not {x : Expr} {p : Pos} {whole : Sem Value} {Φ : Bool → Fields → Gh → Prop} (h : WP c (PySem.isTrue x env (eval x env)) (fun b m σ => Φ (!b) m σ) m σ) : WP c (PySem.isTrue (.UnaryOp .Not x p) env whole) Φ m σ :=
  fun hp g d tk o S => isTrue_not (WP.use h S fun b h2 tk2 m2 σ2 S2 hb => ⟨h2, tk2, m2, σ2, rfl, S2, hb⟩)
theorem wt_and0 {p : Pos} {whole : Sem Value} {Φ : Bool → Fields → Gh → Prop} (h : Φ true m σ) : WP c (PySem.isTrue (.BoolOp .And [] p) env whole) Φ m σ := fun hp g d tk o S => isTrue_and_nil ⟨hp, tk, m, σ, rfl, S, h⟩
theorem wt_or0 {p : Pos} {whole : Sem Value} {Φ : Bool → Fields → Gh → Prop} (h : Φ false m σ) : WP c (PySem.isTrue (.BoolOp .Or [] p) env whole) Φ m σ := fun hp g d tk o S => isTrue_or_nil ⟨hp, tk, m, σ, rfl, S, h⟩
theorem wt_and {x : Expr} {rest : List Expr} {p : Pos} {whole : Sem Value} {Φ : Bool → Fields → Gh → Prop} (h : WP c (PySem.isTrue x env (eval x env)) (fun b m σ => (b = true → WP c (PySem.isTrue (.BoolOp .And rest p) env whole) Φ m σ) ∧ (b = false → Φ false m σ)) m σ) :
    WP c (PySem.isTrue (.BoolOp .And (x :: rest) p) env whole) Φ m σ :=
  fun hp g d tk o S => isTrue_and (WP.use h S fun b h' tk' m' σ' S' hb => by
    cases b with
    | true => exact hb.1 rfl h' g d tk' o S'
    | false => exact ⟨h', tk', m', σ', rfl, S', hb.2 rfl⟩)
theorem wt_or {x : Expr} {rest : List Expr} {p : Pos} {whole : Sem Value} {Φ : Bool → Fields → Gh → Prop} (h : WP c (PySem.isTrue x env (eval x env)) (fun b m σ => (b = false → WP c (PySem.isTrue (.BoolOp .Or rest p) env whole) Φ m σ) ∧ (b = true → Φ true m σ)) m σ) :
    WP c (PySem.isTrue (.BoolOp .Or (x :: rest) p) env whole) Φ m σ :=
  fun hp g d tk o S => isTrue_or (WP.use h S fun b h' tk' m' σ' S' hb => by
    cases b with
    | true => exact ⟨h', tk', m', σ', rfl, S', hb.2 rfl⟩
    | false => exact hb.1 rfl h' g d tk' o S')
theorem wt_plain {e : Expr} {whole : Sem Value} {Φ : Bool → Fields → Gh → Prop} (h : WP c whole (fun v m σ => WP c (truthy v) Φ m σ) m σ) (hr : PySem.isTrue e env whole = (do
        let v ← whole
        standAt e.pos
        holding [v] (truthy v)) := by rfl) : WP c (PySem.isTrue e env whole) Φ m σ :=
  fun hp g d tk o S => isTrue_plain (WP.then_ h S) hr
theorem tr_bool {b : Bool} {Φ : Bool → Fields → Gh → Prop} (h : Φ b m σ) : WP c (truthy (.bool b)) Φ m σ := fun hp g d tk o S => wpAny_truthy_bool ⟨hp, tk, m, σ, rfl, S, h⟩
theorem tr_int {a : Int} {t : Tok} {Φ : Bool → Fields → Gh → Prop} (h : Φ (a != 0) m σ) : WP c (truthy (.int a t)) Φ m σ := fun hp g d tk o S => truthy_int ⟨hp, tk, m, σ, rfl, S, h⟩

/-! arithmetic -/
theorem op_add {a b : Int} {t u : Tok} (h : ∀ t, Φ (.int (a + b) t) m σ) : WP c (binaryOp .Add (.int a t) (.int b u)) Φ m σ := fun hp g d tk o S => add_int ⟨hp, _, m, σ, rfl, S, h _⟩
theorem op_sub {a b : Int} {t u : Tok} (h : ∀ t, Φ (.int (a - b) t) m σ) : WP c (binaryOp .Sub (.int a t) (.int b u)) Φ m σ := fun hp g d tk o S => sub_int ⟨hp, _, m, σ, rfl, S, h _⟩
theorem op_div {a b : Int} {t u : Tok} (hb : b ≠ 0) (hp : Builtin.divisionGoesByPylong a b = false) (h : ∀ t, Φ (.int (a.fdiv b) t) m σ) : WP c (binaryOp .FloorDiv (.int a t) (.int b u)) Φ m σ := fun hp' g d tk o S => floordiv_int hb ⟨hp', _, m, σ, rfl, S, h _⟩ (.inl hp)
theorem op_mod {a b : Int} {t u : Tok} (hb : b ≠ 0) (h : ∀ t, Φ (.int (a.fmod b) t) m σ) : WP c (binaryOp .Mod (.int a t) (.int b u)) Φ m σ := fun hp g d tk o S => mod_int' hb ⟨hp, _, m, σ, rfl, S, h _⟩
theorem op_and {a b : Int} {t u : Tok} (h : ∀ t, Φ (.int (Builtin.bitAnd a b) t) m σ) : WP c (binaryOp .BitAnd (.int a t) (.int b u)) Φ m σ := fun hp g d tk o S => and_int ⟨hp, _, m, σ, rfl, S, h _⟩
theorem op_mul {a b : Int} {t u : Tok} (ho : IntMulOk a b) (h : ∀ t, Φ (.int (a * b) t) m σ) : WP c (binaryOp .Mult (.int a t) (.int b u)) Φ m σ := fun hp g d tk o S => mul_int ⟨hp, _, m, σ, rfl, S, h _⟩ ho
theorem cp_eq {a b : Int} {t u : Tok} (h : Φ (.bool (a == b)) m σ) : WP c (compareOp .Eq (.int a t) (.int b u)) Φ m σ := fun hp g d tk o S => eq_int ⟨hp, _, m, σ, rfl, S, h⟩
theorem cp_ne {a b : Int} {t u : Tok} (h : Φ (.bool (a != b)) m σ) : WP c (compareOp .NotEq (.int a t) (.int b u)) Φ m σ := fun hp g d tk o S => ne_int ⟨hp, _, m, σ, rfl, S, h⟩
theorem cp_lt {a b : Int} {t u : Tok} (h : Φ (.bool (decide (a < b))) m σ) : WP c (compareOp .Lt (.int a t) (.int b u)) Φ m σ := fun hp g d tk o S => lt_int ⟨hp, _, m, σ, rfl, S, h⟩
theorem cp_le {a b : Int} {t u : Tok} (h : Φ (.bool (decide (a ≤ b))) m σ) : WP c (compareOp .LtE (.int a t) (.int b u)) Φ m σ := fun hp g d tk o S => le_int ⟨hp, _, m, σ, rfl, S, h⟩
theorem cp_gt {a b : Int} {t u : Tok} (h : Φ (.bool (decide (a > b))) m σ) : WP c (compareOp .Gt (.int a t) (.int b u)) Φ m σ := fun hp g d tk o S => gt_int ⟨hp, _, m, σ, rfl, S, h⟩
theorem cp_ge {a b : Int} {t u : Tok} (h : Φ (.bool (decide (a ≥ b))) m σ) : WP c (compareOp .GtE (.int a t) (.int b u)) Φ m σ := fun hp g d tk o S => ge_int ⟨hp, _, m, σ, rfl, S, h⟩
theorem cp_eqs {a b : Str} {t u : Tok} (h : Φ (.bool (a == b)) m σ) : WP c (compareOp .Eq (.str a t) (.str b u)) Φ m σ := fun hp g d tk o S => eq_str ⟨hp, _, m, σ, rfl, S, h⟩
theorem cp_is_ref {a : Addr} (h : Φ (.bool false) m σ) : WP c (compareOp .Is (.ref a) .none) Φ m σ := fun hp g d tk o S => is_ref_none ⟨hp, _, m, σ, rfl, S, h⟩
theorem cp_is_none (h : Φ (.bool true) m σ) : WP c (compareOp .Is .none .none) Φ m σ := fun hp g d tk o S => is_none_none ⟨hp, _, m, σ, rfl, S, h⟩
theorem cp_isnot_ref {a : Addr} (h : Φ (.bool true) m σ) : WP c (compareOp .IsNot (.ref a) .none) Φ m σ := fun hp g d tk o S => isnot_ref_none ⟨hp, _, m, σ, rfl, S, h⟩
theorem cp_isnot_none (h : Φ (.bool false) m σ) : WP c (compareOp .IsNot .none .none) Φ m σ := fun hp g d tk o S => isnot_none_none ⟨hp, _, m, σ, rfl, S, h⟩
theorem un_not {v : Value} (h : WP c (truthy v) (fun b m σ => Φ (.bool (!b)) m σ) m σ) : WP c (unaryOp .Not v) Φ m σ :=
  fun hp g d tk o S => not_of (WP.use h S fun b h2 tk2 m2 σ2 S2 hb => ⟨h2, tk2, m2, σ2, rfl, S2, hb⟩)
end
end Mine
namespace Mine

/-! fields of things -/
theorem lk_cons (p : Str × Value) (r : Fields) (y : Str) : lk (p :: r) y = if y = p.1 then some p.2 else lk r y := by cases p; rfl
theorem setF_cons (p : Str × Value) (r : Fields) (x : Str) (v : Value) : setF (p :: r) x v = if x = p.1 then (p.1, v) :: r else p :: setF r x v := by cases p; rfl
theorem AttrsOk.get {P : Params} {name : Str} : ∀ {es : List DictEntry} {fs : Fields}, AttrsOk P es fs → getL name es = some (lk fs name)
  | [], [], _ => rfl
  | e :: es, p :: fs, ⟨⟨_, ⟨t, hk⟩, hv⟩, hr⟩ => by
    have ih := AttrsOk.get (name := name) hr
    unfold getL at ih ⊢
    rw [List.find?_cons, List.any_cons]
    have hi : e.key.isStr name = (p.1 == name) := by rw [hk]; rfl
    have hq : e.refKey = false := by simp [DictEntry.refKey, hk]
    rw [hi, hq, lk_cons]
    by_cases h : name = p.1
    · subst h; simp [hv]
    · have : (p.1 == name) = false := by simpa using fun e => h e.symm
      rw [this, if_neg h]
      simpa using ih
  | [], _ :: _, h => h.elim
  | _ :: _, [], h => h.elim
theorem AttrsOk.len {P : Params} : ∀ {es : List DictEntry} {fs : Fields}, AttrsOk P es fs → es.length = fs.length
  | [], [], _ => rfl
  | _ :: _, _ :: _, ⟨_, h⟩ => by simp [h.len]
  | [], _ :: _, h => h.elim
  | _ :: _, [], h => h.elim
theorem AttrsOk.put {P : Params} {name : Str} {t : Tok} {v : Value} : ∀ {es : List DictEntry} {fs : Fields}, AttrsOk P es fs → AttrsOk P (putL name (PyData.keyHash P name) (.str name t) v es) (setF fs name v)
  | [], [], _ => ⟨⟨rfl, ⟨t, rfl⟩, rfl⟩, trivial⟩
  | e :: es, p :: fs, ⟨⟨h1, ⟨t', hk⟩, hv⟩, hr⟩ => by
    have ih := AttrsOk.put (name := name) (t := t) (v := v) hr
    have hi : e.key.isStr name = (p.1 == name) := by rw [hk]; rfl
    unfold putL
    rw [hi, setF_cons]
    by_cases h : name = p.1
    · subst h; simp only [beq_self_eq_true, if_true]; exact ⟨⟨h1, ⟨t', hk⟩, rfl⟩, hr⟩
    · have : (p.1 == name) = false := by simpa using fun e => h e.symm
      rw [this, if_neg h]
      exact ⟨⟨h1, ⟨t', hk⟩, hv⟩, ih⟩
  | [], _ :: _, h => h.elim
  | _ :: _, [], h => h.elim

theorem setF_len (fs : Fields) (x : Str) (v : Value) : (setF fs x v).length ≤ fs.length + 1 := by
  induction fs with
  | nil => simp [setF]
  | cons p r ih => rw [setF_cons]; split <;> simp <;> omega

noncomputable def attrGet (w : World) (cl : Addr) (name : Str) : Bool := plainGet (hd.heap_39 w.params) cl name && hasDictIn (hd.heap_39 w.params) cl && findIn (hd.heap_39 w.params) (.ref cl) name == some none
noncomputable def attrSet (w : World) (cl : Addr) (name : Str) : Bool := findIn (hd.heap_39 w.params) (.ref cl) "__setattr__" == some (some (.builtin "object.__setattr__")) && plainOver (hd.heap_39 w.params) cl && takerIn (hd.heap_39 w.params) cl name == some none && hasDictIn (hd.heap_39 w.params) cl

section
variable {c : Cf} {k : Nat} {env : Env} {m : Fields} {σ : Gh} {Φ : Value → Fields → Gh → Prop}

theorem inst_at {w : World} {h₀ h : Heap} {L : Addr} {x cl d : Addr} {fs : Fields} (S : St w h₀ L h m σ) (hx : σ x = some (.inst cl d)) (hdd : σ d = some (.attrs fs)) :
    ∃ es n, W.InstAt h x (instObj cl d) cl (some (dictOf es n)) ∧ AttrsOk w.params es fs := by
  obtain ⟨o, ho, rfl⟩ := S.at_ hx
  obtain ⟨o', ho', es, n, rfl, hes⟩ := S.at_ hdd
  exact ⟨es, n, ⟨ho, rfl, rfl, ho'⟩, hes⟩

theorem ga_inst {x cl d : Addr} {fs : Fields} {name : Str} {v : Value} {ex : Bool} (C : Cx c k) (hx : σ x = some (.inst cl d)) (hdd : σ d = some (.attrs fs)) (hcl : attrGet c.w cl name = true)
    (hv : lk fs name = some v) (hh : handedIn v = true) (h : Φ v m σ) : WP c (getAttr (.ref x) name ex) Φ m σ := fun hp g d' tk o S => by
  obtain ⟨es, n, I, hes⟩ := inst_at S hx hdd
  unfold attrGet at hcl
  simp only [Bool.and_eq_true, beq_iff_eq] at hcl
  exact get_own S.fr C.X I hcl.1.1 hcl.1.2 hcl.2 rfl (by rw [hes.get, hv]) hh ⟨hp, _, m, σ, rfl, S, h⟩

theorem sa_inst {x cl d : Addr} {fs : Fields} {name : Str} {v : Value} {Φ : Unit → Fields → Gh → Prop} (C : Cx c k) (hx : σ x = some (.inst cl d)) (hdd : σ d = some (.attrs fs)) (hcl : attrSet c.w cl name = true)
    (hlen : fs.length < 900) (h : Φ () m (upd σ d (.attrs (setF fs name v)))) : WP c (setAttr (.ref x) name v) Φ m σ := fun hp g d' tk o S => by
  obtain ⟨es, n, I, hes⟩ := inst_at S hx hdd
  unfold attrSet at hcl
  simp only [Bool.and_eq_true, beq_iff_eq] at hcl
  obtain ⟨⟨⟨h1, h2⟩, h3⟩, h4⟩ := hcl
  obtain ⟨news, Nw, hN, hnd⟩ := S.news
  obtain ⟨od, hod, _⟩ := hN d _ hdd
  have hod' : od = dictOf es n := by
    have a : hp.get? d = some od := (Nw _ hod).1
    have b : hp.get? d = some (dictOf es n) := I.4
    rw [a] at b
    exact Option.some.inj b
  subst hod'
  obtain ⟨pre, post, hsp⟩ := List.append_of_mem hod
  have hpre : ∀ p ∈ pre, p.1 ≠ d := fun p hpp e => by
    rw [hsp, List.map_append, List.map_cons] at hnd
    exact (List.nodup_append.mp hnd).2.2 _ (List.mem_map_of_mem hpp) _ (.head _) e
  have hpost : ∀ p ∈ post, p.1 ≠ d := fun p hpp e => by
    rw [hsp, List.map_append, List.map_cons] at hnd
    have := (List.nodup_cons.mp (List.nodup_append.mp hnd).2.1).1
    exact this (List.mem_map.mpr ⟨p, hpp, e⟩)
  rw [hsp] at Nw
  refine set_plain (C.X.keeps S.fr.keep) I h1 (osa_dict S.fr Nw (C.X.keeps S.fr.keep) I rfl h2 h3 h4 (by show (getL name es).isSome = true; rw [hes.get]; rfl) hpre hpost (putName_dict _ _ _ _ _ _) rfl ?_ ?_)
  · have := (hes.put (name := name) (t := tk + 1) (v := v)).len
    have := setF_len fs name v
    show (putL name (PyData.keyHash c.w.params name) (.str name (tk + 1)) v es).length ≤ 1000
    omega
  · intro h' F' N'
    refine ⟨h', _, m, _, rfl, ⟨F', Led.of_news N' fun a A e => ?_⟩, h⟩
    unfold upd at e
    by_cases had : a = d
    · rw [if_pos had] at e
      cases e
      subst had
      exact ⟨_, List.mem_append_right _ (.head _), _, _, rfl, hes.put⟩
    · rw [if_neg had] at e
      obtain ⟨o', hm, hA⟩ := hN a A e
      rw [hsp] at hm
      refine ⟨o', ?_, hA⟩
      rcases List.mem_append.mp hm with hm | hm
      · exact List.mem_append_left _ hm
      · rcases List.mem_cons.mp hm with hm | hm
        · cases hm; exact absurd rfl had
        · exact List.mem_append_right _ (.tail _ hm)

theorem gm_inst {x cl d f : Addr} {fs : Fields} {name : Str} {pl : Sem Bool} {Φ : Value × List Value → Fields → Gh → Prop} (C : Cx c k) (hx : σ x = some (.inst cl d)) (hdd : σ d = some (.attrs fs))
    (hg : plainGet (hd.heap_39 c.w.params) cl name = true) (hf : findIn (hd.heap_39 c.w.params) (.ref cl) name = some (some (.ref f))) (ht : isFn (hd.heap_39 c.w.params) (.ref f) = true) (hv : lk fs name = none) (h : Φ (.ref f, [.ref x]) m σ) : WP c (getMethod (.ref x) name pl) Φ m σ := fun hp g d' tk o S => by
  obtain ⟨es, n, I, hes⟩ := inst_at S hx hdd
  exact method_inst S.fr C.X I hg hf ht (by rw [hes.get, hv]) ⟨hp, _, m, σ, rfl, S, h⟩
end

/-! calls -/
section
variable {c : Cf} {k : Nat} {env : Env} {m : Fields} {σ : Gh} {Φ : Value → Fields → Gh → Prop}

theorem wp_callE {f : Expr} {args : List Expr} {p : Pos} (h : WP c (eval f env) (fun v m σ => WP c (callWith p v [] (backTo p (starEach args env)) []) Φ m σ) m σ)
    (hr : eval (f.Call args [] p) env = (do
          let __do_lift ← eval f env
          callWith p __do_lift [] (backTo p (starEach args env)) (backToKw p (keywordEach [] env))) := by rfl) : WP c (eval (.Call f args [] p) env) Φ m σ :=
  fun hp g d tk o S => Call_ (WP.then_ h S) hr
theorem wp_callM {ob : Expr} {name : Str} {args : List Expr} {p ap : Pos} {pl : Sem Bool} (h : WP c (eval ob env) (fun v m σ => WP c (getMethod v name pl) (fun fx m σ => WP c (callWith p fx.1 fx.2 (backTo p (starEach args env)) []) Φ m σ) m σ) m σ)
    (hr : eval ((ob.Attribute name ap).Call args [] p) env = (do
          let ov ← eval ob env
          standAt ap.atName
          let __x ← holding [ov] (getMethod ov name pl)
          match __x with
            | (f, first) => callWith p f first (backTo p (starEach args env)) []) := by rfl) : WP c (eval (.Call (.Attribute ob name ap) args [] p) env) Φ m σ :=
  fun hp g d tk o S => MethodCall_ (WP.use h S fun a h' tk' m' σ' S' ha => WP.then_ ha S') hr

theorem cw_ref {f : Addr} {e : Expr} {rest : List Expr} {p : Pos} (C : Cx c k) (hk : keepIn (hd.heap_39 c.w.params) (.ref f) = true) (h : WP c (spliced (backTo p (starEach (e :: rest) env))) (fun vs m σ => WP c (call (.ref f) vs) Φ m σ) m σ)
    (he : starEach (e :: rest) env = (false, eval e env) :: starEach rest env := by rfl) (hplain : (backTo p (starEach rest env)).any (·.1) = false := by rfl) :
    WP c (callWith p (.ref f) [] (backTo p (starEach (e :: rest) env)) []) Φ m σ :=
  fun hp g d tk o S => callWith_K (first := []) C.X hk (WP.use h S fun vs h' tk' m' σ' S' hv => ⟨C.X.keeps S'.fr.keep, hv h' g d tk' o S'⟩) he hplain
theorem cw_ref0 {f : Addr} {p : Pos} (C : Cx c k) (hk : keepIn (hd.heap_39 c.w.params) (.ref f) = true) (h : WP c (call (.ref f) []) Φ m σ) : WP c (callWith p (.ref f) [] (backTo p (starEach [] env)) []) Φ m σ :=
  fun hp g d tk o S => callWith_K0 (first := []) (C.X.keeps S.fr.keep) hk (h hp g d tk o S)
theorem cw_meth {f : Addr} {x : Value} {e : Expr} {rest : List Expr} {p : Pos} (C : Cx c k) (hk : keepIn (hd.heap_39 c.w.params) (.ref f) = true) (h : WP c (spliced (backTo p (starEach (e :: rest) env))) (fun vs m σ => WP c (call (.ref f) (x :: vs)) Φ m σ) m σ)
    (he : starEach (e :: rest) env = (false, eval e env) :: starEach rest env := by rfl) (hplain : (backTo p (starEach rest env)).any (·.1) = false := by rfl) :
    WP c (callWith p (.ref f) [x] (backTo p (starEach (e :: rest) env)) []) Φ m σ :=
  fun hp g d tk o S => callWith_K (first := [x]) C.X hk (WP.use h S fun vs h' tk' m' σ' S' hv => ⟨C.X.keeps S'.fr.keep, hv h' g d tk' o S'⟩) he hplain
theorem cw_meth0 {f : Addr} {x : Value} {p : Pos} (C : Cx c k) (hk : keepIn (hd.heap_39 c.w.params) (.ref f) = true) (h : WP c (call (.ref f) [x]) Φ m σ) : WP c (callWith p (.ref f) [x] (backTo p (starEach [] env)) []) Φ m σ :=
  fun hp g d tk o S => callWith_K0 (first := [x]) (C.X.keeps S.fr.keep) hk (h hp g d tk o S)
theorem cw_blt {id : String} {e : Expr} {rest : List Expr} {p : Pos} (h : WP c (spliced (backTo p (starEach (e :: rest) env))) (fun vs m σ => WP c (call (.builtin id) vs) Φ m σ) m σ)
    (he : starEach (e :: rest) env = (false, eval e env) :: starEach rest env := by rfl) (hplain : (backTo p (starEach rest env)).any (·.1) = false := by rfl) :
    WP c (callWith p (.builtin id) [] (backTo p (starEach (e :: rest) env)) []) Φ m σ :=
  fun hp g d tk o S => PyProof.Rows.callWith_builtin1 (WP.then_ h S) he hplain
theorem cw_bltm {id : String} {x : Value} {e : Expr} {rest : List Expr} {p : Pos} (h : WP c (spliced (backTo p (starEach (e :: rest) env))) (fun vs m σ => WP c (call (.builtin id) (x :: vs)) Φ m σ) m σ)
    (he : starEach (e :: rest) env = (false, eval e env) :: starEach rest env := by rfl) (hplain : (backTo p (starEach rest env)).any (·.1) = false := by rfl) :
    WP c (callWith p (.builtin id) [x] (backTo p (starEach (e :: rest) env)) []) Φ m σ :=
  fun hp g d tk o S => callWith_method1 (first := [x]) (WP.then_ h S) he hplain
theorem cw_typ {id : String} {e : Expr} {rest : List Expr} {p : Pos} (h : WP c (spliced (backTo p (starEach (e :: rest) env))) (fun vs m σ => WP c (call (.type id) vs) Φ m σ) m σ)
    (he : starEach (e :: rest) env = (false, eval e env) :: starEach rest env := by rfl) (hplain : (backTo p (starEach rest env)).any (·.1) = false := by rfl) :
    WP c (callWith p (.type id) [] (backTo p (starEach (e :: rest) env)) []) Φ m σ :=
  fun hp g d tk o S => PyProof.Rows.callWith_type1 (WP.then_ h S) he hplain

/-- a call, as code -/
def WC (c : Cf) (f : Value) (args : List Value) (Φ : Value → Fields → Gh → Prop) (m : Fields) (σ : Gh) : Prop :=
  ∀ h g d tk o, St c.w c.h₀ c.L h m σ → codeAny (model pg c.w) c.A (.call f ⟨args, []⟩) (fun r s' => match r with | .ok (.ret v) => Post c g d o Φ v s' | .ok _ => False | .error _ => False) ⟨h, g, d, tk, o⟩
theorem wp_call {f : Value} {args : List Value} (h : WC c f args Φ m σ) : WP c (call f args) Φ m σ := fun hp g d tk o S => wpAny_call (h hp g d tk o S)

theorem enter {f : Addr} {name qual : Str} {params : Arguments} {body : List Stmt} {scope : Scope} {dV kV doc pm cdv ct oc : Value} {an od : Option Addr} {osl : Array (Option Value)} {args : List Value} (binds : Fields)
    (C : Cx c (k + 1)) (ho : (hd.heap_39 c.w.params).lookup f = some ⟨oc, od, .func (fnOf name qual params body scope dV kV doc pm an cdv ct), osl⟩) (hcd : codeIn (hd.heap_39 c.w.params) cdv qual = true)
    (hbind : ∀ s : Shared, (hd.heap_39 c.w.params).In s.heap → BindsTo s (fnOf name qual params body scope dV kV doc pm an cdv ct) ⟨args, []⟩ binds) (hloc : (binds.all fun x => decide (scope.names.lookup x.1 = some .local)) = true)
    (h : ∀ A' h₀' L', Cx ⟨c.w, A', h₀', L'⟩ k → Ev ⟨c.w, A', h₀', L'⟩ (envOf qual scope L' f cdv) → WS ⟨c.w, A', h₀', L'⟩ body (envOf qual scope L' f cdv) (fun _ σ' => Φ .none m σ') (fun v _ σ' => Φ v m σ') binds.reverse σ)
    (hco : scope.isCoroutine = false) (hgen : scope.isGenerator = false) (hk : scope.kind = .function) (hcell : ∀ x ∈ scope.names, x.2 ≠ .cell) : WC c (.ref f) args Φ m σ := fun hp g d tk o S => by
  obtain ⟨A₀, base, outer, env, B, hA, hf, hke⟩ := C.below
  obtain ⟨p, loose, mean, mg, mb, T⟩ := C.top
  obtain ⟨news, Nw, hN, hnd⟩ := S.news
  refine code_def B S.fr C.X Nw T hA hf hke ho hcd (by have := C.depth; omega) (hbind _ (C.X.keeps S.fr.keep)) (locs hloc) (fun g' L' h₁ FG F' N' B' X' T' => ?_) hco hgen hk hcell
  have C' : Cx ⟨c.w, c.A.deeper (envOf qual scope L' f cdv), g', L'⟩ k := by
    refine ⟨⟨c.A, base, env :: outer, envOf qual scope L' f cdv, B', Around.frames_deeper hA, rfl, hk⟩, X', ⟨p, loose, mean, mg, mb, T'⟩, C.hh, ?_, ?_⟩
    · have := C.depth; show c.A.depth + 1 + k < recursionLimit; omega
    · have := C.units; show c.A.units + 3 + 20 * k + 20 < cLine; omega
  have S' : St c.w g' L' h₁ binds.reverse σ := ⟨by rw [lk_lookup]; exact F', Led.of_news N' hN⟩
  refine wpAny_mono (h _ _ _ C' ⟨rfl, hk, rfl, rfl, rfl⟩ h₁ g d _ o S') (fun fl s' q => ?_) fun _ _ x => x.elim
  obtain ⟨h', tk', m', σ', rfl, S2, hq⟩ := q
  obtain ⟨news', Nw', hN', _⟩ := S2.news
  refine leaveK_ S2.fr Nw' fun F2 N2 => ?_
  have S3 : St c.w c.h₀ c.L h' m σ' := ⟨F2, Led.of_news N2 hN'⟩
  cases fl with
  | next => exact ⟨h', tk', m, σ', rfl, S3, hq⟩
  | ret v => exact ⟨h', tk', m, σ', rfl, S3, hq⟩
  | brk => exact hq.elim
  | cont => exact hq.elim

theorem wp_new {cl fI : Addr} {args : List Value} (C : Cx c (k + 1)) (hm : makesIn (hd.heap_39 c.w.params) cl = true) (hi : findIn (hd.heap_39 c.w.params) (.ref cl) "__init__" = some (some (.ref fI))) (hf : typeIn (hd.heap_39 c.w.params) (.ref fI) = some (.type "function"))
    (h : ∀ x d A', Cx ⟨c.w, A', c.h₀, c.L⟩ k → σ x = none → σ d = none → x ≠ d → WC ⟨c.w, A', c.h₀, c.L⟩ (.ref fI) (.ref x :: args) (fun v m' σ' => v = .none ∧ Φ (.ref x) m' σ') m (upd (upd σ d (.attrs [])) x (.inst cl d))) :
    WC c (.ref cl) args Φ m σ := fun hp g d tk o S => by
  obtain ⟨A₀, base, outer, env, B, hA, hf', hke⟩ := C.below
  obtain ⟨news, Nw, hN, hnd⟩ := S.news
  refine make_K S.fr Nw (C.X.keeps S.fr.keep) hm hi hf (fun x dx h' F' N' l1 l2 => ?_)
  have lt_of : ∀ a A, σ a = some A → a < dx := fun a A e => by
    obtain ⟨o', hm', _⟩ := hN a A e
    exact l1 _ hm'
  have hdx : σ dx = none := by
    cases e : σ dx with
    | none => rfl
    | some A => exact absurd (lt_of _ _ e) (Nat.lt_irrefl _)
  have hx : σ x = none := by
    cases e : σ x with
    | none => rfl
    | some A => exact absurd (Nat.lt_trans (lt_of _ _ e) l2) (Nat.lt_irrefl _)
  have C' : Cx ⟨c.w, c.A.under (.builtin "type.__call__" ⟨.ref cl :: args, []⟩), c.h₀, c.L⟩ k := by
    refine ⟨⟨A₀, base, outer, env, B, hA, hf', hke⟩, C.X, C.top, C.hh, ?_, ?_⟩
    · have := C.depth; show c.A.depth + 1 + k < recursionLimit; omega
    · have := C.units; show c.A.units + 1 + 20 * k + 20 < cLine; omega
  have S' : St c.w c.h₀ c.L h' m (upd (upd σ dx (.attrs [])) x (.inst cl dx)) := by
    refine ⟨F', Led.of_news N' fun a A e => ?_⟩
    unfold upd at e
    by_cases h1 : a = x
    · rw [if_pos h1] at e; cases e; subst h1; exact ⟨_, .head _, rfl⟩
    · rw [if_neg h1] at e
      by_cases h2 : a = dx
      · rw [if_pos h2] at e; cases e; subst h2; exact ⟨_, .tail _ (.head _), [], 0, rfl, trivial⟩
      · rw [if_neg h2] at e
        obtain ⟨o', hm', hA'⟩ := hN a A e
        exact ⟨o', .tail _ (.tail _ hm'), hA'⟩
  refine codeAny_mono (h x dx _ C' hx hdx (Nat.ne_of_gt l2) h' g d tk o S') fun r s' q => ?_
  cases r with
  | error e => exact q.elim
  | ok f =>
    cases f with
    | ret v =>
      obtain ⟨h2, tk2, m2, σ2, rfl, S2, rfl, hq⟩ := q
      exact ⟨rfl, h2, tk2, m2, σ2, rfl, S2, hq⟩
    | next => exact q.elim
    | brk => exact q.elim
    | cont => exact q.elim

theorem Cx.mono {k' : Nat} (C : Cx c k) (h : k' ≤ k) : Cx c k' := ⟨C.below, C.X, C.top, C.hh, by have := C.depth; omega, by have := C.units; omega⟩
end
end Mine
namespace Mine

def LstAt (σ : Gh) (l : Addr) (vs : List Value) : Prop := σ l = some (.list vs) ∨ σ l = some (.xlist vs)
theorem LstAt.isList {w : World} {h₀ h : Heap} {L : Addr} {m : Fields} {σ : Gh} {l : Addr} {vs : List Value} (S : St w h₀ L h m σ) (e : LstAt σ l vs) : h.IsList l vs.toArray := by
  rcases e with e | e
  · obtain ⟨o, ho, h1, n, h2⟩ := S.at_ e
    exact ⟨o, ho, h1, n, h2⟩
  · obtain ⟨o, ho, n, rfl⟩ := S.at_ e
    exact ⟨_, ho, rfl, n, rfl⟩
theorem LstAt.some {σ : Gh} {l : Addr} {vs : List Value} (e : LstAt σ l vs) : ∃ A, σ l = .some A := e.elim (fun e => ⟨_, e⟩) fun e => ⟨_, e⟩
theorem isTup_of {w : World} {h₀ h : Heap} {L : Addr} {m : Fields} {σ : Gh} {l : Addr} {vs : List Value} (S : St w h₀ L h m σ) (e : σ l = some (.tuple vs)) : IsTup h l vs.toArray := by
  obtain ⟨o, ho, h1, n, h2⟩ := S.at_ e
  exact ⟨o, ho, h1, n, h2⟩
theorem LstAt.upd {σ : Gh} {l a : Addr} {A : AO} {vs : List Value} (e : LstAt σ l vs) (h : l ≠ a) : LstAt (upd σ a A) l vs := e.elim (fun e => .inl (upd_ne h e)) fun e => .inr (upd_ne h e)

section
variable {c : Cf} {k : Nat} {env : Env} {m : Fields} {σ : Gh} {Φ : Value → Fields → Gh → Prop} {N : Fields → Gh → Prop} {R : Value → Fields → Gh → Prop}

theorem nl {vs : List Value} (hs : vs.length ≤ sizeLine) (h : ∀ a, σ a = none → Φ (.ref a) m (upd σ a (.xlist vs))) : WP c (newList vs) Φ m σ := fun hp g d tk o S =>
  wpAny_newObj_type ⟨_, tk, m, _, rfl, S.push (A := .xlist vs) ⟨0, rfl⟩ rfl, h _ S.free⟩ (by show vs.toArray.size ≤ sizeLine; rw [List.size_toArray]; exact hs)
theorem nt {vs : List Value} (hs : vs.length ≤ sizeLine) (h : ∀ a, σ a = none → Φ (.ref a) m (upd σ a (.tuple vs))) : WP c (newTuple vs) Φ m σ := fun hp g d tk o S =>
  wpAny_newObj_type ⟨_, tk, m, _, rfl, S.push (A := .tuple vs) ⟨rfl, 0, rfl⟩ rfl, h _ S.free⟩ (by show vs.toArray.size ≤ sizeLine; rw [List.size_toArray]; exact hs)

theorem sub_list {e i : Expr} {l : Addr} {vs : List Value} {j : Int} {t : Tok} {x : Value} (hl : LstAt σ l vs) (h0 : 0 ≤ j) (h1 : j < 2 ^ 63) (hx : vs[j.toNat]? = some x) (h : Φ x m σ)
    (hs : subscripted i false (.ref l) (.int j t) = operate [.ref l, .int j t] (getItem (.ref l) (.int j t)) := by rfl) : WP c (subscriptTail e i (.ref l) (.int j t)) Φ m σ := fun hp g d tk o S =>
  tail_any (hl.isList S).typeIs slot_list_getitem.lookup (wpAny_getItem_list (hl.isList S) h0 h1 (by simpa using hx) ⟨hp, tk, m, σ, rfl, S, h⟩) hs
theorem sub_tuple {e i : Expr} {l : Addr} {vs : List Value} {j : Int} {t : Tok} {x : Value} (hl : σ l = some (.tuple vs)) (h0 : 0 ≤ j) (h1 : j < 2 ^ 63) (hx : vs[j.toNat]? = some x) (h : Φ x m σ)
    (hs : subscripted i false (.ref l) (.int j t) = operate [.ref l, .int j t] (getItem (.ref l) (.int j t)) := by rfl) : WP c (subscriptTail e i (.ref l) (.int j t)) Φ m σ := fun hp g d tk o S =>
  item_tupleT (j := j.toNat) (isTup_of S hl) (by omega) h1 (by
    have hlt : j.toNat < vs.length := by
      obtain ⟨h, _⟩ := List.getElem?_eq_some_iff.mp hx
      exact h
    unfold seqIndex?
    split <;> first | (rename_i q; first | omega | (simp; omega)) | (simp; omega) | skip) hx ⟨hp, tk, m, σ, rfl, S, h⟩ hs
theorem set_list {l : Addr} {vs : List Value} {j : Int} {t : Tok} {v : Value} {Φ : Unit → Fields → Gh → Prop} (hl : LstAt σ l vs) (h0 : 0 ≤ j) (h1 : j < 2 ^ 63) (hx : j < vs.length) (h : Φ () m (upd σ l (.list (vs.set j.toNat v)))) : WP c (setItem (.ref l) (.int j t) v) Φ m σ := fun hp g d tk o S => by
  obtain ⟨A, hA⟩ := hl.some
  refine wpAny_setItem_list (hl.isList S) h0 h1 (by simpa using hx) fun h' hl' hs => ⟨h', tk, m, _, rfl, S.set hs hA ?_, h⟩
  obtain ⟨o, ho, h1, n, h2⟩ := hl'
  exact ⟨o, ho, h1, n, by simpa using h2⟩
theorem append_x {l : Addr} {vs : List Value} {v : Value} (hl : σ l = some (.xlist vs)) (hs : vs.length ≤ sizeLine) (h : Φ .none m (upd σ l (.xlist (vs ++ [v])))) : WP c (call (.builtin "list.append") [.ref l, v]) Φ m σ := fun hp g d tk o S => by
  obtain ⟨news, Nw, hN, hnd⟩ := S.news
  obtain ⟨ol, hm, n, hol⟩ := hN l _ hl
  subst hol
  obtain ⟨pre, post, hsp⟩ := List.append_of_mem hm
  have hpre : ∀ p ∈ pre, p.1 ≠ l := fun p hpp e => by
    rw [hsp, List.map_append, List.map_cons] at hnd
    exact (List.nodup_append.mp hnd).2.2 _ (List.mem_map_of_mem hpp) _ (.head _) e
  have hpost : ∀ p ∈ post, p.1 ≠ l := fun p hpp e => by
    rw [hsp, List.map_append, List.map_cons] at hnd
    have := (List.nodup_cons.mp (List.nodup_append.mp hnd).2.1).1
    exact this (List.mem_map.mpr ⟨p, hpp, e⟩)
  have U : ∀ pre : List (Addr × Obj), (∀ p ∈ pre, p.1 ≠ l) → Upd l (W.listOf vs.toArray n) (W.listOf (vs.toArray.push v) (n + 1)) (pre ++ (l, W.listOf vs.toArray n) :: post) (pre ++ (l, W.listOf (vs.toArray.push v) (n + 1)) :: post) := by
    intro pre
    induction pre with
    | nil => intro _; exact Upd.head hpost
    | cons q r ih => intro hq; exact Upd.tail (hq q (.head _)) (ih fun p hp => hq p (.tail _ hp))
  rw [hsp] at Nw
  refine append_K S.fr Nw (U pre hpre) (fun h' F' N' => ⟨h', tk, m, _, rfl, ⟨F', Led.of_news N' fun a A e => ?_⟩, h⟩) (by simpa using hs)
  unfold Mine.upd at e
  by_cases had : a = l
  · rw [if_pos had] at e
    cases e
    subst had
    exact ⟨_, List.mem_append_right _ (.head _), n + 1, by simp⟩
  · rw [if_neg had] at e
    obtain ⟨o', hm', hA⟩ := hN a A e
    rw [hsp] at hm'
    refine ⟨o', ?_, hA⟩
    rcases List.mem_append.mp hm' with hm' | hm'
    · exact List.mem_append_left _ hm'
    · rcases List.mem_cons.mp hm' with hm' | hm'
      · cases hm'; exact absurd rfl had
      · exact List.mem_append_right _ (.tail _ hm')
theorem gm_append {l : Addr} {vs : List Value} {pl : Sem Bool} {Φ : Value × List Value → Fields → Gh → Prop} (hl : σ l = some (.xlist vs)) (h : Φ (.builtin "list.append", [.ref l]) m σ) : WP c (getMethod (.ref l) "append" pl) Φ m σ := fun hp g d tk o S => by
  obtain ⟨ol, ho, n, rfl⟩ := S.at_ hl
  exact getMethod_list_append ho rfl rfl ⟨hp, tk, m, σ, rfl, S, h⟩
theorem ln_list {l : Addr} {vs : List Value} (hl : LstAt σ l vs) (hs : (vs.length : Int) < 2 ^ 63) (h : ∀ t, Φ (.int vs.length t) m σ) : WP c (call (.builtin "len") [.ref l]) Φ m σ := fun hp g d tk o S =>
  len_list (hl.isList S) (by simpa using hs) ⟨hp, _, m, σ, rfl, S, by simpa using h _⟩
theorem ln_tuple {l : Addr} {vs : List Value} (hl : σ l = some (.tuple vs)) (hs : (vs.length : Int) < 2 ^ 63) (h : ∀ t, Φ (.int vs.length t) m σ) : WP c (call (.builtin "len") [.ref l]) Φ m σ := fun hp g d tk o S =>
  len_tuple (isTup_of S hl) (by simpa using hs) ⟨hp, _, m, σ, rfl, S, by simpa using h _⟩
theorem op_cat {a b : Addr} {vs ws : List Value} (ha : LstAt σ a vs) (hb : LstAt σ b ws) (hs : vs.length + ws.length ≤ sizeLine) (h : ∀ r, σ r = none → Φ (.ref r) m (upd σ r (.xlist (vs ++ ws)))) : WP c (binaryOp .Add (.ref a) (.ref b)) Φ m σ := fun hp g d tk o S => by
  obtain ⟨news, Nw, hN, hnd⟩ := S.news
  refine add_arrays S.fr Nw (ha.isList S) (hb.isList S) (fun h' F' N' => ⟨h', tk, m, _, rfl, ⟨F', Led.of_news N' fun r A e => ?_⟩, h _ S.free⟩) (by simpa using hs)
  unfold Mine.upd at e
  split at e
  · rename_i q; cases e; subst q; exact ⟨_, .head _, 0, by simp⟩
  · obtain ⟨o', hm', hA⟩ := hN r A e
    exact ⟨o', .tail _ hm', hA⟩

/-! dicts of ints -/
theorem dict_at {w : World} {h₀ h : Heap} {L : Addr} {m : Fields} {σ : Gh} {l : Addr} {kvs : List (Int × Value)} (S : St w h₀ L h m σ) (e : σ l = some (.idict kvs)) : (l == sysModules) = false ∧ Heap.DictOf (intKind pg w) h l kvs := by
  obtain ⟨o, ho, h1, h2⟩ := S.at_ e
  exact ⟨h1, Heap.dictOf_iff.mpr ⟨o, ho, h2⟩⟩
theorem sub_dict {e i : Expr} {l : Addr} {kvs : List (Int × Value)} {j : Int} {t : Tok} {x : Value} (hl : σ l = some (.idict kvs)) (hx : valueAt kvs j = some x) (h : Φ x m σ)
    (hs : subscripted i false (.ref l) (.int j t) = operate [.ref l, .int j t] (getItem (.ref l) (.int j t)) := by rfl) : WP c (subscriptTail e i (.ref l) (.int j t)) Φ m σ := fun hp g d tk o S => by
  have hD := (dict_at S hl).2
  exact tail_any hD.typeIs slot_dict_getitem.lookup (wpAny_getItem_of (intKind_is _ _ _ _) hD.mapOf hx ⟨hp, _, m, σ, rfl, S, h⟩) hs
theorem in_dict {l : Addr} {kvs : List (Int × Value)} {j : Int} {t : Tok} (hl : σ l = some (.idict kvs)) (h : Φ (.bool (valueAt kvs j).isSome) m σ) : WP c (compareOp .In (.int j t) (.ref l)) Φ m σ := fun hp g d tk o S => by
  obtain ⟨news, Nw, hN, hnd⟩ := S.news
  obtain ⟨ol, hm, h1, h2⟩ := hN l _ hl
  exact kda_in Nw hm h2 h1 (intKind_is _ _ _ _) _ rfl ⟨hp, _, m, σ, rfl, S, h⟩
theorem notin_dict {l : Addr} {kvs : List (Int × Value)} {j : Int} {t : Tok} (hl : σ l = some (.idict kvs)) (h : Φ (.bool (!(valueAt kvs j).isSome)) m σ) : WP c (compareOp .NotIn (.int j t) (.ref l)) Φ m σ := fun hp g d tk o S => by
  obtain ⟨news, Nw, hN, hnd⟩ := S.news
  obtain ⟨ol, hm, h1, h2⟩ := hN l _ hl
  exact kdg_notin Nw hm h2 h1 (intKind_is _ _ _ _) _ rfl ⟨hp, _, m, σ, rfl, S, h⟩
theorem gm_get {l : Addr} {kvs : List (Int × Value)} {pl : Sem Bool} {Φ : Value × List Value → Fields → Gh → Prop} (hl : σ l = some (.idict kvs)) (h : Φ (.builtin "dict.get", [.ref l]) m σ) : WP c (getMethod (.ref l) "get" pl) Φ m σ := fun hp g d tk o S => by
  obtain ⟨news, Nw, hN, hnd⟩ := S.news
  obtain ⟨ol, hm, h1, h2⟩ := hN l _ hl
  exact kdg_method Nw hm h2 ⟨hp, tk, m, σ, rfl, S, h⟩
theorem get_dict {l : Addr} {kvs : List (Int × Value)} {j : Int} {t : Tok} {dv : Value} (hl : σ l = some (.idict kvs)) (h : Φ ((valueAt kvs j).getD dv) m σ) : WP c (call (.builtin "dict.get") [.ref l, .int j t, dv]) Φ m σ := fun hp g d tk o S => by
  obtain ⟨news, Nw, hN, hnd⟩ := S.news
  obtain ⟨ol, hm, h1, h2⟩ := hN l _ hl
  exact kdg_get2 Nw hm h2 h1 (intKind_is _ _ _ _) _ rfl ⟨hp, _, m, σ, rfl, S, h⟩
theorem set_idict {l : Addr} {kvs : List (Int × Value)} {j : Int} {t : Tok} {v : Value} {Φ : Unit → Fields → Gh → Prop} (hl : σ l = some (.idict kvs)) (hs : kvs.length ≤ sizeLine) (h : Φ () m (upd σ l (.idict (stored kvs j v)))) : WP c (setItem (.ref l) (.int j t) v) Φ m σ := fun hp g d tk o S => by
  obtain ⟨h1, h2⟩ := dict_at S hl
  refine wpAny_setItem_pairs (intKind_is _ _ _ _) h2 (fun h' hd' hs' => ⟨h', _, m, _, rfl, S.set hs' hl ?_, h⟩) hs
  obtain ⟨o', ho', h3⟩ := Heap.dictOf_iff.mp hd'
  exact ⟨o', ho', h1, h3⟩
theorem new_dict {p : Pos} (C : Cx c k) (h : ∀ a, σ a = none → Φ (.ref a) m (upd σ a (.idict []))) : WP c (eval (.Dict [] [] p) env) Φ m σ := fun hp g d tk o S => by
  obtain ⟨news, Nw, hN, hnd⟩ := S.news
  obtain ⟨_, _, _, mg, mb, T⟩ := C.top
  refine newDict_K S.fr Nw T.nolimit fun a h' oa F' N' l1 hs' _ _ hi' _ => ?_
  have ha : σ a = none := by
    cases e : σ a with
    | none => rfl
    | some A =>
      obtain ⟨o', hm', _⟩ := hN a A e
      exact absurd (l1 _ hm') (Nat.lt_irrefl _)
  refine ⟨h', tk, m, _, rfl, ⟨F', Led.of_news N' fun r A e => ?_⟩, h a ha⟩
  unfold Mine.upd at e
  split at e
  · rename_i q; cases e; subst q; exact ⟨_, .head _, hs', hi'⟩
  · obtain ⟨o', hm', hA⟩ := hN r A e
    exact ⟨o', .tail _ hm', hA⟩
theorem un_neg {a : Int} {t : Tok} (h : ∀ t, Φ (.int (-a) t) m σ) : WP c (unaryOp .USub (.int a t)) Φ m σ := fun hp g d tk o S => neg_int ⟨hp, _, m, σ, rfl, S, h _⟩

/-! unpacking -/
theorem as_name {x : Str} {p : Pos} {v : Value} {Φ : Unit → Fields → Gh → Prop} (he : Ev c env) (hl : env.kindOf x = some .local) (h : Φ () (setF m x v) σ) : WP c (assign (.Name x p) env v) Φ m σ := fun hp g d tk o S => wpAny_assign_Name (wp_store he hl h hp g d tk o S)
theorem as_tuple {elts : List Expr} {n : Nat} {p : Pos} {t : Addr} {vs : List Value} {Φ : Unit → Fields → Gh → Prop} (C : Cx c k) (hl : σ t = some (.tuple vs)) (h1 : (assignEach elts env).length = vs.length) (h2 : (assignEach elts env).findIdx? (·.1) = none)
    (h : WP c (assignInOrder ((assignEach elts env).map (·.2)) vs) Φ m σ) : WP c (assign (.Tuple elts n p) env (.ref t)) Φ m σ := fun hp g d tk o S => by
  obtain ⟨news, Nw, hN, hnd⟩ := S.news
  exact unpackN_ S.fr Nw (isTup_of S hl) C.hh (by simpa using h1) h2 fun h' F' N' => h h' g d tk o ⟨F', Led.of_news N' hN⟩
theorem ao_nil {Φ : Unit → Fields → Gh → Prop} (h : Φ () m σ) : WP c (assignInOrder [] []) Φ m σ := fun hp g d tk o S => wpAny_assignInOrder_none ⟨hp, tk, m, σ, rfl, S, h⟩
theorem ao_cons {t : Value → Sem Unit} {ts : List (Value → Sem Unit)} {x : Value} {xs : List Value} {Φ : Unit → Fields → Gh → Prop} (h : WP c (t x) (fun _ m σ => WP c (assignInOrder ts xs) Φ m σ) m σ) : WP c (assignInOrder (t :: ts) (x :: xs)) Φ m σ :=
  fun hp g d tk o S => wpAny_assignInOrder_more (WP.use h S fun _ h' tk' m' σ' S' hv => hv h' g d tk' o S')
end
end Mine
namespace Mine

def WFor (c : Cf) (target : Expr) (it : Value) (body : List Stmt) (env : Env) (N : Fields → Gh → Prop) (R : Value → Fields → Gh → Prop) (m : Fields) (σ : Gh) : Prop :=
  ∀ h g d tk o, St c.w c.h₀ c.L h m σ → codeAny (model pg c.w) c.A (.forLoop target it body [] env) (fun r s' => match r with | .ok f => Post c g d o (RetP N R) f s' | .error _ => False) ⟨h, g, d, tk, o⟩
def WWh (c : Cf) (test : Expr) (body : List Stmt) (env : Env) (N : Fields → Gh → Prop) (R : Value → Fields → Gh → Prop) (m : Fields) (σ : Gh) : Prop :=
  ∀ h g d tk o, St c.w c.h₀ c.L h m σ → codeAny (model pg c.w) c.A (.whileLoop test body [] env) (fun r s' => match r with | .ok f => Post c g d o (RetP N R) f s' | .error _ => False) ⟨h, g, d, tk, o⟩

section
variable {c : Cf} {k : Nat} {env : Env} {m : Fields} {σ : Gh} {Φ : Value → Fields → Gh → Prop} {N : Fields → Gh → Prop} {R : Value → Fields → Gh → Prop}

theorem we_for {target iter : Expr} {body : List Stmt} {p : Pos} (h : WP c (eval iter env) (fun x m σ => WP c (pyIter x) (fun it m σ => WFor c target it body env N R m σ) m σ) m σ)
    (hs : ∀ x, foldedSetIterable iter env x = pure x := by intro _; rfl) : WE c (.For target iter body [] p) env N R m σ := fun hp g d tk o S =>
  wpAny_For (WP.use h S fun x h' tk' m' σ' S' hx => WP.use hx S' fun it h2 tk2 m2 σ2 S2 hf => codeAny_mono (hf h2 g d tk2 o S2) fun r s' q => by
    cases r with
    | error e => exact q.elim
    | ok f => exact q) hs

theorem we_while {test : Expr} {body : List Stmt} {p : Pos} (h : WWh c test body env N R m σ) : WE c (.While test body [] p) env N R m σ := fun hp g d tk o S =>
  wpAny_While (codeAny_mono (h hp g d tk o S) fun r s' q => by
    cases r with
    | error e => exact q.elim
    | ok f => exact q)

theorem wwh_ind {test : Expr} {body : List Stmt} (I : Nat → Fields → Gh → Prop)
    (turn : ∀ n m σ, I n m σ → WP c (PySem.isTrue test env (eval test env)) (fun b m σ => (b = true → WS c body env (fun m σ => ∃ n', n' < n ∧ I n' m σ) R m σ) ∧ (b = false → N m σ)) m σ)
    (n : Nat) (h : I n m σ) : WWh c test body env N R m σ := fun hp g d tk o S => by
  refine codeAny_whileLoop (fun n s' => ∃ h' tk' m' σ', s' = ⟨h', g, d, tk', o⟩ ∧ St c.w c.h₀ c.L h' m' σ' ∧ I n m' σ') ?_ n ⟨hp, tk, m, σ, rfl, S, h⟩
  rintro n s' ⟨h', tk', m', σ', rfl, S', hI⟩
  refine wpAny_mono (WP.use (turn n m' σ' hI) S' fun b h2 tk2 m2 σ2 S2 hb => ?_) (fun _ _ x => x) fun _ _ x => x.elim
  cases b with
  | true =>
    simp only [if_true]
    refine wpAny_mono (WP.use (hb.1 rfl) S2 fun f h3 tk3 m3 σ3 S3 hf => ?_) (fun _ _ x => x) fun _ _ x => x.elim
    cases f with
    | next => obtain ⟨n', hn, hI'⟩ := hf; exact ⟨n', hn, h3, tk3, m3, σ3, rfl, S3, hI'⟩
    | ret v => exact ⟨h3, tk3, m3, σ3, rfl, S3, hf⟩
    | brk => exact hf.elim
    | cont => exact hf.elim
  | false =>
    simp only [Bool.false_eq_true, if_false]
    exact wpAny_execs_nil ⟨h2, tk2, m2, σ2, rfl, S2, hb.2 rfl⟩

theorem wfor_ind {target : Expr} {it : Value} {body : List Stmt} (I : Nat → Fields → Gh → Prop)
    (turn : ∀ n m σ, I n m σ → WP c (pyNext it) (fun r m σ => match r with
      | none => N m σ
      | some v => WP c (letOwnedTupleGo target it v) (fun _ m σ => WP c (assign target env v) (fun _ m σ => WS c body env (fun m σ => ∃ n', n' < n ∧ I n' m σ) R m σ) m σ) m σ) m σ)
    (n : Nat) (h : I n m σ) : WFor c target it body env N R m σ := fun hp g d tk o S => by
  refine codeAny_forLoop_any (fun n s' => ∃ h' tk' m' σ', s' = ⟨h', g, d, tk', o⟩ ∧ St c.w c.h₀ c.L h' m' σ' ∧ I n m' σ') ?_ n ⟨hp, tk, m, σ, rfl, S, h⟩
  rintro n s' ⟨h', tk', m', σ', rfl, S', hI⟩
  refine wpAny_mono (WP.use (turn n m' σ' hI) S' fun r h2 tk2 m2 σ2 S2 hr => ?_) (fun _ _ x => x) fun _ _ x => x.elim
  cases r with
  | none => exact wpAny_execs_nil ⟨h2, tk2, m2, σ2, rfl, S2, hr⟩
  | some v =>
    refine wpAny_mono (WP.use hr S2 fun _ h3 tk3 m3 σ3 S3 ha => ?_) (fun _ _ x => x) fun _ _ x => x.elim
    refine wpAny_mono (WP.use ha S3 fun _ h4 tk4 m4 σ4 S4 hb => ?_) (fun _ _ x => x) fun _ _ x => x.elim
    refine wpAny_mono (WP.use hb S4 fun f h5 tk5 m5 σ5 S5 hf => ?_) (fun _ _ x => x) fun _ _ x => x.elim
    cases f with
    | next => obtain ⟨n', hn, hI'⟩ := hf; exact ⟨n', hn, h5, tk5, m5, σ5, rfl, S5, hI'⟩
    | ret v => exact ⟨h5, tk5, m5, σ5, rfl, S5, hf⟩
    | brk => exact hf.elim
    | cont => exact hf.elim

/-! iterators -/
theorem it_list {l : Addr} {vs : List Value} (hl : LstAt σ l vs) (h : ∀ it, σ it = none → Φ (.ref it) m (upd σ it (.listIter l 0))) : WP c (pyIter (.ref l)) Φ m σ := fun hp g d tk o S =>
  wpAny_pyIter_list (hl.isList S) ⟨_, tk, m, _, rfl, S.push (A := .listIter l 0) ⟨rfl, rfl⟩ rfl, h _ S.free⟩
theorem it_tuple {l : Addr} {vs : List Value} (hl : σ l = some (.tuple vs)) (h : ∀ it, σ it = none → Φ (.ref it) m (upd σ it (.tupIter l 0))) : WP c (pyIter (.ref l)) Φ m σ := fun hp g d tk o S =>
  wpAny_pyIter_tuple (isTup_of S hl) ⟨_, tk, m, _, rfl, S.push (A := .tupIter l 0) ⟨rfl, rfl⟩ rfl, h _ S.free⟩
theorem nx_list {it l : Addr} {i : Nat} {vs : List Value} {v : Value} {Φ : Option Value → Fields → Gh → Prop} (hi : σ it = some (.listIter l i)) (hl : LstAt σ l vs) (hv : vs[i]? = some v) (h : Φ (some v) m (upd σ it (.listIter l (i + 1)))) : WP c (pyNext (.ref it)) Φ m σ := fun hp g d tk o S => by
  obtain ⟨oi, hoi, h1, h2⟩ := S.at_ hi
  refine wpAny_pyNext_list_item ⟨oi, hoi, h1, h2⟩ (hl.isList S) (by simpa using hv) fun h' hi' hs => ⟨h', tk, m, _, rfl, S.set hs hi ?_, h⟩
  obtain ⟨o', ho', h3, h4⟩ := hi'
  exact ⟨o', ho', h3, h4⟩
theorem nx_list_end {it l : Addr} {i : Nat} {vs : List Value} {Φ : Option Value → Fields → Gh → Prop} (C : Cx c k) (hi : σ it = some (.listIter l i)) (hl : LstAt σ l vs) (hv : vs[i]? = none) (h : Φ none m (fun a => if a = it then none else σ a)) : WP c (pyNext (.ref it)) Φ m σ := fun hp g d tk o S => by
  obtain ⟨oi, hoi, h1, h2⟩ := S.at_ hi
  refine wpAny_pyNext_list_end C.hh ⟨oi, hoi, h1, h2⟩ (hl.isList S) (by simpa using hv) fun h' he => ⟨h', tk, m, _, rfl, ?_, h⟩
  obtain ⟨_, hne, hn⟩ := S.led it _ hi
  refine ⟨⟨S.fr.ns.extBut he (Ne.symm hne), fun b o q => he b o (fun x => by rw [x, hn] at q; cases q) (S.fr.keep b o q), S.fr.above⟩, fun a A e => ?_⟩
  split at e
  · cases e
  · rename_i q
    obtain ⟨⟨o', ho', hA⟩, h3, h4⟩ := S.led a A e
    exact ⟨⟨o', he a o' q ho', hA⟩, h3, h4⟩
theorem nx_tuple {it l : Addr} {i : Nat} {vs : List Value} {v : Value} {Φ : Option Value → Fields → Gh → Prop} (hi : σ it = some (.tupIter l i)) (hl : σ l = some (.tuple vs)) (hv : vs[i]? = some v) (h : Φ (some v) m (upd σ it (.tupIter l (i + 1)))) : WP c (pyNext (.ref it)) Φ m σ := fun hp g d tk o S => by
  obtain ⟨oi, hoi, h1, h2⟩ := S.at_ hi
  refine wpAny_pyNext_tuple_item ⟨oi, hoi, h1, h2⟩ (isTup_of S hl) (by simpa using hv) fun h' hi' hs => ⟨h', tk, m, _, rfl, S.set hs hi ?_, h⟩
  obtain ⟨o', ho', h3, h4⟩ := hi'
  exact ⟨o', ho', h3, h4⟩
theorem nx_tuple_end {it l : Addr} {i : Nat} {vs : List Value} {Φ : Option Value → Fields → Gh → Prop} (C : Cx c k) (hi : σ it = some (.tupIter l i)) (hl : σ l = some (.tuple vs)) (hv : vs[i]? = none) (h : Φ none m (fun a => if a = it then none else σ a)) : WP c (pyNext (.ref it)) Φ m σ := fun hp g d tk o S => by
  obtain ⟨oi, hoi, h1, h2⟩ := S.at_ hi
  refine wpAny_pyNext_tuple_end C.hh ⟨oi, hoi, h1, h2⟩ (isTup_of S hl) (by simpa using hv) fun h' he => ⟨h', tk, m, _, rfl, ?_, h⟩
  obtain ⟨_, hne, hn⟩ := S.led it _ hi
  refine ⟨⟨S.fr.ns.extBut he (Ne.symm hne), fun b o q => he b o (fun x => by rw [x, hn] at q; cases q) (S.fr.keep b o q), S.fr.above⟩, fun a A e => ?_⟩
  split at e
  · cases e
  · rename_i q
    obtain ⟨⟨o', ho', hA⟩, h3, h4⟩ := S.led a A e
    exact ⟨⟨o', he a o' q ho', hA⟩, h3, h4⟩
/-! range -/
theorem rg1 {n : Int} {t : Tok} (h : ∀ r t1 t2 t3, σ r = none → Φ (.ref r) m (upd σ r (.raw { cls := .type "range", dict := none, data := .fields #[.int 0 t1, .int n t2, .int 1 t3], slots := #[] }))) : WP c (call (.type "range") [.int n t]) Φ m σ := fun hp g d tk o S => by
  obtain ⟨news, Nw, hN, hnd⟩ := S.news
  refine range1_rows S.fr Nw fun h' tk' t1 u1 v1 hr F' N' hk => ⟨h', tk', m, _, rfl, ⟨F', fun a A e => ?_⟩, h _ t1 u1 v1 S.free⟩
  unfold Mine.upd at e
  split at e
  · rename_i q
    cases e
    subst q
    refine ⟨⟨_, hr, rfl⟩, Nat.ne_of_gt S.ltL, ?_⟩
    cases hq : c.h₀.get? hp.objs.size with
    | none => rfl
    | some o' => exact absurd (Heap.lt_size (S.fr.keep _ _ hq)) (Nat.lt_irrefl _)
  · obtain ⟨⟨o', ho', hA⟩, h3, h4⟩ := S.led a A e
    exact ⟨⟨o', hk _ _ ho', hA⟩, h3, h4⟩
theorem rg2 {a b : Int} {t u : Tok} (h : ∀ r t1 t2 t3, σ r = none → Φ (.ref r) m (upd σ r (.raw { cls := .type "range", dict := none, data := .fields #[.int a t1, .int b t2, .int 1 t3], slots := #[] }))) : WP c (call (.type "range") [.int a t, .int b u]) Φ m σ := fun hp g d tk o S => by
  obtain ⟨news, Nw, hN, hnd⟩ := S.news
  refine range2_rows S.fr Nw fun h' tk' t1 u1 v1 hr F' N' hk => ⟨h', tk', m, _, rfl, ⟨F', fun a A e => ?_⟩, h _ t1 u1 v1 S.free⟩
  unfold Mine.upd at e
  split at e
  · rename_i q
    cases e
    subst q
    refine ⟨⟨_, hr, rfl⟩, Nat.ne_of_gt S.ltL, ?_⟩
    cases hq : c.h₀.get? hp.objs.size with
    | none => rfl
    | some o' => exact absurd (Heap.lt_size (S.fr.keep _ _ hq)) (Nat.lt_irrefl _)
  · obtain ⟨⟨o', ho', hA⟩, h3, h4⟩ := S.led a A e
    exact ⟨⟨o', hk _ _ ho', hA⟩, h3, h4⟩
theorem rg3 {a b e : Int} {t u v : Tok} (he : e ≠ 0) (hpl : Builtin.divisionGoesByPylong (b - a) e = false) (h : ∀ r t1 t2 t3, σ r = none → Φ (.ref r) m (upd σ r (.raw { cls := .type "range", dict := none, data := .fields #[.int a t1, .int b t2, .int e t3], slots := #[] }))) : WP c (call (.type "range") [.int a t, .int b u, .int e v]) Φ m σ := fun hp g d tk o S => by
  obtain ⟨news, Nw, hN, hnd⟩ := S.news
  refine range3_rows S.fr Nw he (fun h' tk' t1 u1 v1 hr F' N' hk => ⟨h', tk', m, _, rfl, ⟨F', fun a A e => ?_⟩, h _ t1 u1 v1 S.free⟩) (.inl hpl)
  unfold Mine.upd at e
  split at e
  · rename_i q
    cases e
    subst q
    refine ⟨⟨_, hr, rfl⟩, Nat.ne_of_gt S.ltL, ?_⟩
    cases hq : c.h₀.get? hp.objs.size with
    | none => rfl
    | some o' => exact absurd (Heap.lt_size (S.fr.keep _ _ hq)) (Nat.lt_irrefl _)
  · obtain ⟨⟨o', ho', hA⟩, h3, h4⟩ := S.led a A e
    exact ⟨⟨o', hk _ _ ho', hA⟩, h3, h4⟩
theorem it_range {r : Addr} {a b e : Int} {t1 t2 t3 : Tok} (hr : σ r = some (.raw { cls := .type "range", dict := none, data := .fields #[.int a t1, .int b t2, .int e t3], slots := #[] })) (hs : Builtin.Range.small a b e = true)
    (h : ∀ it, σ it = none → Φ (.ref it) m (upd σ it (.rangeIter a (Builtin.Range.rangeSize a b e) e))) : WP c (pyIter (.ref r)) Φ m σ := fun hp g d tk o S => by
  obtain ⟨o', ho', rfl⟩ := S.at_ hr
  exact wpAny_pyIter_range ho' hs ⟨_, tk, m, _, rfl, S.push (A := .rangeIter a (Builtin.Range.rangeSize a b e) e) rfl rfl, h _ S.free⟩
theorem nx_range {it : Addr} {x left step : Int} {Φ : Option Value → Fields → Gh → Prop} (hi : σ it = some (.rangeIter x left step)) (hl : 0 < left) (h : ∀ t, Φ (some (.int x t)) m (upd σ it (.rangeIter (x + step) (left - 1) step))) : WP c (pyNext (.ref it)) Φ m σ := fun hp g d tk o S => by
  obtain ⟨oi, hoi, rfl⟩ := S.at_ hi
  exact wpAny_pyNext_range_item hoi hl fun h' hi' hs => ⟨h', _, m, _, rfl, S.set (A := .rangeIter (x + step) (left - 1) step) hs hi ⟨_, hi', rfl⟩, h _⟩
theorem nx_range_end {it : Addr} {x left step : Int} {Φ : Option Value → Fields → Gh → Prop} (C : Cx c k) (hi : σ it = some (.rangeIter x left step)) (hl : left ≤ 0) (h : Φ none m (fun a => if a = it then none else σ a)) : WP c (pyNext (.ref it)) Φ m σ := fun hp g d tk o S => by
  obtain ⟨oi, hoi, rfl⟩ := S.at_ hi
  refine wpAny_pyNext_range_end C.hh hoi hl fun h' he => ⟨h', tk, m, _, rfl, ?_, h⟩
  obtain ⟨_, hne, hn⟩ := S.led it _ hi
  refine ⟨⟨S.fr.ns.extBut he (Ne.symm hne), fun b o q => he b o (fun x => by rw [x, hn] at q; cases q) (S.fr.keep b o q), S.fr.above⟩, fun a A e => ?_⟩
  split at e
  · cases e
  · rename_i q
    obtain ⟨⟨o', ho', hA⟩, h3, h4⟩ := S.led a A e
    exact ⟨⟨o', he a o' q ho', hA⟩, h3, h4⟩
/-! who owns the tuple -/
theorem lo_any {target : Expr} {it : Addr} {A : AO} {v : Value} {Φ : Unit → Fields → Gh → Prop} (hi : σ it = some A) (hA : (∃ l i, A = .listIter l i) ∨ (∃ l i, A = .tupIter l i) ∨ ∃ a b e, A = .rangeIter a b e) (h : Φ () m σ) : WP c (letOwnedTupleGo target (.ref it) v) Φ m σ := fun hp g d tk o S => by
  obtain ⟨oi, hoi, hIs⟩ := S.at_ hi
  have fin : ∀ (t : Sem Unit), t = pure () → wpAny (model pg c.w) c.A t (Post c g d o Φ) (fun _ _ => False) ⟨hp, g, d, tk, o⟩ := fun t e => e ▸ wpAny_pure ⟨hp, tk, m, σ, rfl, S, h⟩
  unfold letOwnedTupleGo
  have body : ∀ a : Addr, wpAny (model pg c.w) c.A (do
      let o ← load it
      match o.cls, o.data with
      | .type n, .fields vs =>
        if ["enumerate", "zip", "dict_itemiterator", "dict_reverseitemiterator", "odict_iterator", "itertools.zip_longest", "itertools.pairwise"].contains n && vs[0]? == some (rawInt a) then
          rule "for.unpacks-the-owned-tuple"
          updateField it 0 .none
      | _, _ => pure ()) (Post c g d o Φ) (fun _ _ => False) ⟨hp, g, d, tk, o⟩ := by
    intro a
    refine wpAny_bind (wpAny_load hoi ?_)
    have hc : ∃ n vs, oi.cls = .type n ∧ oi.data = .fields vs ∧ (["enumerate", "zip", "dict_itemiterator", "dict_reverseitemiterator", "odict_iterator", "itertools.zip_longest", "itertools.pairwise"].contains n) = false := by
      rcases hA with ⟨l, i, rfl⟩ | ⟨l, i, rfl⟩ | ⟨x, y, z, rfl⟩
      · exact ⟨_, _, hIs.1, hIs.2, by decide⟩
      · exact ⟨_, _, hIs.1, hIs.2, by decide⟩
      · have : oi = _ := hIs
        subst this
        exact ⟨_, _, rfl, rfl, by decide⟩
    obtain ⟨n, vs, h1, h2, h3⟩ := hc
    rw [h1, h2]
    simp only [h3, Bool.false_and, Bool.false_eq_true, if_false]
    exact wpAny_pure ⟨hp, tk, m, σ, rfl, S, h⟩
  split
  · cases v with
    | ref a => exact body a
    | _ => exact fin _ rfl
  · cases v with
    | ref a => exact body a
    | _ => exact fin _ rfl
  · exact fin _ rfl
end
end Mine
namespace Mine

def Sub (σ σ' : Gh) : Prop := ∀ x A, σ x = some A → σ' x = some A
theorem Sub.refl (σ : Gh) : Sub σ σ := fun _ _ e => e
theorem Sub.trans {a b d : Gh} (h : Sub a b) (h' : Sub b d) : Sub a d := fun x A e => h' x A (h x A e)
theorem Sub.upd {σ σ' : Gh} {a : Addr} {A : AO} (h : Sub σ σ') (ha : σ a = none) : Sub σ (upd σ' a A) := fun x B e => by
  have : x ≠ a := fun q => by rw [q, ha] at e; cases e
  exact upd_ne this (h x B e)
theorem Sub.none_of {σ σ' : Gh} {a : Addr} (h : Sub σ σ') (ha : σ' a = none) : σ a = none := by
  cases e : σ a with
  | none => rfl
  | some A => rw [h a A e] at ha; cases ha
theorem Sub.drop {σ σ' : Gh} {a : Addr} (h : Sub σ σ') (ha : σ a = none) : Sub σ (fun b => if b = a then none else σ' b) := fun x B e => by
  have : x ≠ a := fun q => by rw [q, ha] at e; cases e
  show (if x = a then none else σ' x) = some B
  rw [if_neg this]; exact h x B e

section
variable {c : Cf} {k : Nat} {env : Env} {m : Fields} {σ : Gh} {N : Fields → Gh → Prop} {R : Value → Fields → Gh → Prop}

theorem WP.forget {α : Type} {t : Sem α} {Φ : α → Fields → Gh → Prop} (h : WP c t (fun a m' σ' => ∃ σ'', Sub σ'' σ' ∧ Φ a m' σ'') m σ) : WP c t Φ m σ := fun hp g d tk o S =>
  WP.use h S fun a h' tk' m' σ' S' q => by
    obtain ⟨σ'', hs, hq⟩ := q
    exact ⟨h', tk', m', σ'', rfl, S'.less hs, hq⟩
/-- use less -/
theorem WP.weak {α : Type} {t : Sem α} {Φ : α → Fields → Gh → Prop} {σ' : Gh} (hs : Sub σ' σ) (h : WP c t Φ m σ') : WP c t Φ m σ := fun hp g d tk o S => h hp g d tk o (S.less hs)
theorem WC.forget {f : Value} {args : List Value} {Φ : Value → Fields → Gh → Prop} (h : WC c f args (fun a m' σ' => ∃ σ'', Sub σ'' σ' ∧ Φ a m' σ'') m σ) : WC c f args Φ m σ := fun hp g d tk o S =>
  codeAny_mono (h hp g d tk o S) fun r s' q => by
    cases r with
    | error e => exact q.elim
    | ok f =>
      cases f with
      | ret v =>
        obtain ⟨h', tk', m', σ', e, S', σ'', hs, hq⟩ := q
        exact ⟨h', tk', m', σ'', e, S'.less hs, hq⟩
      | next => exact q.elim
      | brk => exact q.elim
      | cont => exact q.elim
theorem WC.mono {f : Value} {args : List Value} {Φ Ψ : Value → Fields → Gh → Prop} (h : WC c f args Φ m σ) (hk : ∀ a m σ, Φ a m σ → Ψ a m σ) : WC c f args Ψ m σ := fun hp g d tk o S =>
  codeAny_mono (h hp g d tk o S) fun r s' q => by
    cases r with
    | error e => exact q.elim
    | ok f =>
      cases f with
      | ret v => exact Post.mono q hk
      | next => exact q.elim
      | brk => exact q.elim
      | cont => exact q.elim

/-! dict displays -/
theorem wp_dict {keys : List (Option Expr)} {values : List Expr} {p : Pos} {Φ : Value → Fields → Gh → Prop} (C : Cx c k)
    (h : ∀ d, σ d = none → WP c (evalPairs (pairTrees keys values env p)) (fun vs m σ' => ∃ kvs, Carries (intKind pg c.w) vs kvs ∧ σ' d = some (.idict []) ∧ Φ (.ref d) m (upd σ' d (.idict (merged [] kvs)))) m (upd σ d (.idict [])))
    (hil : intLits keys = true := by rfl) (hall : keys.all (·.isSome) = true := by rfl) (hl : keys.length = values.length := by rfl) (h0 : keys ≠ [] := by exact List.cons_ne_nil _ _) (hlen : keys.length ≤ 15 := by decide) :
    WP c (eval (.Dict keys values p) env) Φ m σ := fun hp g d tk o S => by
  obtain ⟨_, _, _, mg, mb, T⟩ := C.top
  have hsys : (hp.objs.size == sysModules) = false := by
    have h1 := modules_low T.nolimit
    have h2 := S.fr.above
    have h3 := S.ltL
    exact beq_eq_false_iff_ne.mpr (Nat.ne_of_gt (Nat.lt_of_lt_of_le h1 (Nat.le_trans h2 (Nat.le_of_lt h3))))
  have hD : Heap.DictOf (intKind pg c.w) (hp.push { cls := .type "dict", data := .dict #[] }) hp.objs.size [] := Heap.DictOf.new hp
  obtain ⟨od, hod, hdd⟩ := Heap.dictOf_iff.mp hD
  have hod' : od = { cls := .type "dict", data := .dict #[] } := by
    have : (hp.push { cls := .type "dict", data := .dict #[] }).get? hp.objs.size = some { cls := .type "dict", data := .dict #[] } := Heap.get?_push_size _ rfl
    rw [this] at hod
    exact (Option.some.inj hod).symm
  refine Dict_made_int hil S.fr hall hl h0 hlen fun F' => ?_
  have S1 : St c.w c.h₀ c.L (hp.push { cls := .type "dict", data := .dict #[] }) m (upd σ hp.objs.size (.idict [])) := S.push ⟨hsys, hod' ▸ hdd⟩ rfl
  refine WP.use (h _ S.free) S1 fun vs h2 tk2 m2 σ2 S2 q => ?_
  obtain ⟨kvs, hc, hd, hq⟩ := q
  refine ⟨kvs, hc, (dict_at S2 hd).2, fun h3 hd3 hs3 => ⟨h3, _, m2, _, rfl, S2.set hs3 hd ?_, hq⟩⟩
  obtain ⟨o', ho', h4⟩ := Heap.dictOf_iff.mp hd3
  exact ⟨o', ho', hsys, h4⟩
theorem ep_nil {p : Pos} {Φ : List (Value × Value) → Fields → Gh → Prop} (h : Φ [] m σ) : WP c (evalPairs (pairTrees [] [] env p)) Φ m σ := fun hp g d tk o S => evalPairs_nil ⟨hp, tk, m, σ, rfl, S, h⟩
theorem ep_cons {ke ve : Expr} {keys : List (Option Expr)} {values : List Expr} {p : Pos} {Φ : List (Value × Value) → Fields → Gh → Prop}
    (h : WP c (eval ke env) (fun kv m σ => WP c (eval ve env) (fun vv m σ => WP c (evalPairs (pairTrees keys values env p)) (fun vs m σ => Φ ((kv, vv) :: vs) m σ) m σ) m σ) m σ) :
    WP c (evalPairs (pairTrees (some ke :: keys) (ve :: values) env p)) Φ m σ := fun hp g d tk o S =>
  evalPairs_cons (WP.use h S fun kv h1 tk1 m1 σ1 S1 h2 => wpAny_bind (WP.use h2 S1 fun vv h3 tk3 m3 σ3 S3 h4 => wpAny_bind (wpAny_standAt (wpAny_pure (WP.use h4 S3 fun vs h5 tk5 m5 σ5 S5 h6 => ⟨h5, tk5, m5, σ5, rfl, S5, h6⟩)))))
end

/-- a made thing and its fields -/
def InstF (σ : Gh) (x cl : Addr) (fs : Fields) : Prop := ∃ d, σ x = some (.inst cl d) ∧ σ d = some (.attrs fs)
theorem InstF.sub {σ σ' : Gh} {x cl : Addr} {fs : Fields} (h : InstF σ x cl fs) (hs : Sub σ σ') : InstF σ' x cl fs := let ⟨d, h1, h2⟩ := h; ⟨d, hs _ _ h1, hs _ _ h2⟩
theorem LstAt.sub {σ σ' : Gh} {l : Addr} {vs : List Value} (h : LstAt σ l vs) (hs : Sub σ σ') : LstAt σ' l vs := h.elim (fun e => .inl (hs _ _ e)) fun e => .inr (hs _ _ e)
section
variable {c : Cf} {k : Nat} {m : Fields} {σ : Gh} {Φ : Value → Fields → Gh → Prop}
theorem gaF {x cl : Addr} {fs : Fields} {name : Str} {v : Value} {ex : Bool} (C : Cx c k) (hx : InstF σ x cl fs) (hcl : attrGet c.w cl name = true)
    (hv : lk fs name = some v) (hh : handedIn v = true) (h : Φ v m σ) : WP c (getAttr (.ref x) name ex) Φ m σ := let ⟨d, h1, h2⟩ := hx; ga_inst C h1 h2 hcl hv hh h
theorem gmF {x cl f : Addr} {fs : Fields} {name : Str} {pl : Sem Bool} {Φ : Value × List Value → Fields → Gh → Prop} (C : Cx c k) (hx : InstF σ x cl fs)
    (hg : plainGet (hd.heap_39 c.w.params) cl name = true) (hf : findIn (hd.heap_39 c.w.params) (.ref cl) name = some (some (.ref f))) (ht : isFn (hd.heap_39 c.w.params) (.ref f) = true) (hv : lk fs name = none) (h : Φ (.ref f, [.ref x]) m σ) :
    WP c (getMethod (.ref x) name pl) Φ m σ := let ⟨d, h1, h2⟩ := hx; gm_inst C h1 h2 hg hf ht hv h
end
end Mine
namespace Mine
section
variable {c : Cf} {k : Nat} {env : Env} {m : Fields} {σ : Gh}
theorem wt_chain {l r1 r2 : Expr} {o1 o2 : CmpOp} {p : Pos} {whole : Sem Value} {Φ : Bool → Fields → Gh → Prop}
    (h : WP c (eval l env) (fun a m σ => WP c (eval r1 env) (fun b m σ => WP c (compareOp o1 a b) (fun v m σ => WP c (truthy v) (fun q m σ =>
      (q = true → WP c (eval r2 env) (fun d m σ => WP c (compareOp o2 b d) (fun v m σ => WP c (truthy v) Φ m σ) m σ) m σ) ∧ (q = false → Φ false m σ)) m σ) m σ) m σ) m σ)
    (hm : lastMarks [o1, o2] [r1, r2] = false := by rfl) : WP c (PySem.isTrue (.Compare l [o1, o2] [r1, r2] p) env whole) Φ m σ := fun hp g d tk o S =>
  isTrue_chain (WP.use h S fun a h1 tk1 m1 σ1 S1 w1 => test_link (WP.use w1 S1 fun b h2 tk2 m2 σ2 S2 w2 => WP.use w2 S2 fun v h3 tk3 m3 σ3 S3 w3 => WP.use w3 S3 fun q h4 tk4 m4 σ4 S4 w4 => by
    cases q with
    | true =>
      simp only [if_true]
      exact test_last (WP.use (w4.1 rfl) S4 fun e h5 tk5 m5 σ5 S5 w5 => WP.use w5 S5 fun v h6 tk6 m6 σ6 S6 w6 => w6 h6 g d tk6 o S6)
    | false => exact ⟨h4, tk4, m4, σ4, rfl, S4, w4.2 rfl⟩)) hm
end

/-- a glyph's info, its fields -/
structure IV where
  g : Int
  tg : Tok
  cl : Int
  tc : Tok
  ms : Int
  tm : Tok
  un : Bool
  lp : Int
  tlp : Tok
  t0 : Tok
  t1 : Tok
  t2 : Tok
  t3 : Tok
  t4 : Tok
  t5 : Tok
  t6 : Tok
  t7 : Tok
  t8 : Tok
  t9 : Tok
def IV.fs (v : IV) : Fields := [("code", .int 0 v.t0), ("glyph", .int v.g v.tg), ("cluster", .int v.cl v.tc), ("mask", .int v.ms v.tm), ("is_unsafe", .bool v.un), ("lig_id", .int 0 v.t1), ("lig_part", .int v.lp v.tlp), ("lig_count", .int 0 v.t2),
  ("kind", .str "" v.t3), ("x_advance", .int 0 v.t4), ("y_advance", .int 0 v.t5), ("x_offset", .int 0 v.t6), ("y_offset", .int 0 v.t7), ("parent", .int 0 v.t8), ("bond", .str "" v.t9)]
structure Gy where
  x : Addr
  d : Addr
  v : IV
def Gy.At (σ : Gh) (q : Gy) : Prop := σ q.x = some (.inst 142 q.d) ∧ σ q.d = some (.attrs q.v.fs)
theorem Gy.At.inst {σ : Gh} {q : Gy} (h : q.At σ) : InstF σ q.x 142 q.v.fs := ⟨q.d, h.1, h.2⟩
/-- the buffer b with the row rl -/
structure BufAt (σ : Gh) (b rl : Addr) (cs : List Gy) : Prop where
  buf : ∃ t, InstF σ b 186 [("row", .ref rl), ("is_backward", .bool false), ("last_lig", .int 0 t)]
  row : LstAt σ rl (cs.map fun q => .ref q.x)
  cells : ∀ q ∈ cs, q.At σ
  nodup : (cs.map (·.d)).Nodup
theorem BufAt.sub {σ σ' : Gh} {b rl : Addr} {cs : List Gy} (h : BufAt σ b rl cs) (hs : Sub σ σ') : BufAt σ' b rl cs :=
  ⟨let ⟨t, e⟩ := h.buf; ⟨t, e.sub hs⟩, h.row.sub hs, fun q hq => ⟨hs _ _ (h.cells q hq).1, hs _ _ (h.cells q hq).2⟩, h.nodup⟩
end Mine
namespace Mine

/-- an environment, whatever its names lie in -/
structure Eg (env : Env) : Prop where
  kind : env.scope.kind = .function
  glob : env.globals = mainGlobals
  blt : env.builtins = builtinsNs
theorem Ev.eg {c : Cf} {env : Env} (h : Ev c env) : Eg env := ⟨h.kind, h.glob, h.blt⟩
theorem Eg.comp {env : Env} (h : Eg env) {scope : Scope} {cl : List (Str × Addr)} {C : Addr} (hk : scope.kind = .function) : Eg (compEnvC scope cl C env) := ⟨hk, h.glob, h.blt⟩

section
variable {c : Cf} {k : Nat} {env : Env} {m : Fields} {σ : Gh} {Φ : Value → Fields → Gh → Prop} {N : Fields → Gh → Prop} {R : Value → Fields → Gh → Prop}

theorem ng_glob {x : Str} {p : Pos} {v : Value} (C : Cx c k) (he : Eg env) (hl : env.kindOf x = some .globalImplicit) (hv : nsIn (hd.heap_39 c.w.params) mainGlobals x = some (some v)) (h : Φ v m σ) (hd' : (x == ("__debug__" : Str)) = false := by decide) : WP c (eval (.Name x p) env) Φ m σ :=
  fun hp g d tk o S => by
    obtain ⟨_, _, _, mg, mb, T⟩ := C.top
    exact Name_function_global he.kind hl (loadGlobal_global (env := env) (by rw [he.glob]; exact T.g.keeps S.fr.keep) (mg_of C.X T.g hv) ⟨hp, tk, m, σ, rfl, S, h⟩) hd'
theorem ng_blt {x : Str} {p : Pos} {v : Value} (C : Cx c k) (he : Eg env) (hl : env.kindOf x = some .globalImplicit) (hg : nsIn (hd.heap_39 c.w.params) mainGlobals x = some none) (hv : bootBuiltins x = some v) (hn : x ≠ "__name__") (h : Φ v m σ) (hd' : (x == ("__debug__" : Str)) = false := by decide) : WP c (eval (.Name x p) env) Φ m σ :=
  fun hp g d tk o S => by
    obtain ⟨_, _, _, mg, mb, T⟩ := C.top
    exact Name_function_global he.kind hl (loadGlobal_builtin (env := env) (by rw [he.glob]; exact T.g.keeps S.fr.keep) (mg_none_of C.X T.g hg) (by rw [he.blt]; exact T.b.keeps S.fr.keep) ((T.builtins x hn).trans hv) ⟨hp, tk, m, σ, rfl, S, h⟩) hd'
theorem ns_at {w : World} {h₀ h : Heap} {L : Addr} {a : Addr} {mc : Fields} (S : St w h₀ L h m σ) (e : σ a = some (.ns mc)) : h.Ns a (lk mc) := by
  obtain ⟨o, ho, es, ep, h1, h2, h3⟩ := S.at_ e
  exact ⟨o, es, ep, ho, h1, h2, h3⟩
theorem ng_local {x : Str} {p : Pos} {v : Value} {C : Addr} {mc : Fields} (he : Eg env) (hl : env.kindOf x = some .local) (hC : env.locals = C) (hm : σ C = some (.ns mc)) (hv : lk mc x = some v) (h : Φ v m σ) (hd' : (x == ("__debug__" : Str)) = false := by decide) : WP c (eval (.Name x p) env) Φ m σ :=
  fun hp g d tk o S => wpAny_Name (wpAny_loadName_local he.kind hl (by rw [hC]; exact ns_at S hm) hv ⟨hp, tk, m, σ, rfl, S, h⟩) hd'
theorem ng_cell {x : Str} {p : Pos} {v : Value} {a : Addr} (he : Eg env) (hl : env.kindOf x = some .cell) (ha : env.cells.lookup x = some a) (hv : σ a = some (.cell (some v))) (h : Φ v m σ) (hd' : (x == ("__debug__" : Str)) = false := by decide) : WP c (eval (.Name x p) env) Φ m σ :=
  fun hp g d tk o S => wpAny_Name (wpAny_loadName_cell he.kind hl ha (by obtain ⟨o', ho', h1⟩ := S.at_ hv; exact ⟨o', ho', h1⟩) ⟨hp, tk, m, σ, rfl, S, h⟩) hd'
theorem ng_free {x : Str} {p : Pos} {v : Value} {a : Addr} (he : Eg env) (hl : env.kindOf x = some .free) (ha : env.cells.lookup x = some a) (hv : σ a = some (.cell (some v))) (h : Φ v m σ) (hd' : (x == ("__debug__" : Str)) = false := by decide) (hn : (x == ("__classdict__" : Str)) = false := by decide) : WP c (eval (.Name x p) env) Φ m σ :=
  fun hp g d tk o S => wpAny_Name (wpAny_loadName_free he.kind hl ha (by obtain ⟨o', ho', h1⟩ := S.at_ hv; exact ⟨o', ho', h1⟩) ⟨hp, tk, m, σ, rfl, S, h⟩ hn) hd'
theorem sg_local {x : Str} {v : Value} {C : Addr} {mc : Fields} {Φ : Unit → Fields → Gh → Prop} (he : Eg env) (hl : env.kindOf x = some .local) (hC : env.locals = C) (hm : σ C = some (.ns mc)) (h : Φ () m (upd σ C (.ns (setF mc x v)))) : WP c (storeName env x v) Φ m σ :=
  fun hp g d tk o S => wpAny_storeName_local hl (by rw [hC]; exact ns_at S hm) (fun h' hn hs => by
    rw [hC] at hn hs
    refine ⟨h', _, m, _, rfl, S.set hs hm ?_, h⟩
    obtain ⟨o', es, ep, ho', h1, h2, h3⟩ := hn
    exact ⟨o', ho', es, ep, h1, h2, fun name => by rw [h3, lk_setF]⟩) (by rw [he.kind]; rfl)
theorem sg_cell {x : Str} {v : Value} {a : Addr} {v₀ : Option Value} {Φ : Unit → Fields → Gh → Prop} (he : Eg env) (hl : env.kindOf x = some .cell) (ha : env.cells.lookup x = some a) (hv : σ a = some (.cell v₀)) (h : Φ () m (upd σ a (.cell (some v)))) : WP c (storeName env x v) Φ m σ :=
  fun hp g d tk o S => wpAny_storeName_cell he.kind hl ha (by obtain ⟨o', ho', h1⟩ := S.at_ hv; exact ⟨o', ho', h1⟩) fun h' hc hs => by
    refine ⟨h', _, m, _, rfl, S.set hs hv ?_, h⟩
    obtain ⟨o', ho', h1⟩ := hc
    exact ⟨o', ho', h1⟩
theorem as_store {x : Str} {p : Pos} {v : Value} {Φ : Unit → Fields → Gh → Prop} (h : WP c (storeName env x v) Φ m σ) : WP c (assign (.Name x p) env v) Φ m σ := fun hp g d tk o S => wpAny_assign_Name (h hp g d tk o S)
theorem we_assignG {x : Str} {p p' : Pos} {e : Expr} (h : WP c (eval e env) (fun v m σ => WP c (storeName env x v) (fun _ m σ => N m σ) m σ) m σ) (hsw : swapsWith e (some (.Name x p')) p.line env = pure false := by rfl) :
    WE c (.Assign [.Name x p'] e p) env N R m σ :=
  fun hp g d tk o S => wpAny_Assign_Name (WP.use h S fun v h' tk' m' σ' S' hv => WP.use hv S' fun _ h'' tk'' m'' σ'' S'' hv'' => ⟨h'', tk'', m'', σ'', rfl, S'', hv''⟩) hsw

/-! comprehensions -/
def tests (ifs : List Expr) (env : Env) : Sem Bool := forIn ifs true fun c r => if r = true then do let ok ← isTrue c env (eval c env); pure (ForInStep.yield ok) else pure (ForInStep.yield r)
def WComp (c : Cf) (e : Expr) (it acc : Value) (env : Env) (Ψ : Fields → Gh → Prop) (m : Fields) (σ : Gh) : Prop :=
  ∀ h g d tk o, St c.w c.h₀ c.L h m σ → codeAny (model pg c.w) c.A (.compLoop e 0 it acc env) (fun r s' => match r with | .ok _ => Post c g d o (fun _ => Ψ) () s' | .error _ => False) ⟨h, g, d, tk, o⟩

theorem wt_nil {Φ : Bool → Fields → Gh → Prop} (h : Φ true m σ) : WP c (tests [] env) Φ m σ := fun hp g d tk o S => wpAny_tests_nil ⟨hp, tk, m, σ, rfl, S, h⟩
theorem wt_one {e : Expr} {Φ : Bool → Fields → Gh → Prop} (h : WP c (isTrue e env (eval e env)) Φ m σ) : WP c (tests [e] env) Φ m σ := fun hp g d tk o S => wpAny_tests_one (h hp g d tk o S)

theorem wcomp_ind {elt target iter : Expr} {ifs : List Expr} {scope : Scope} {p : Pos} {it acc : Value} {Ψ : Fields → Gh → Prop} (I : Nat → Fields → Gh → Prop)
    (turn : ∀ n m σ, I n m σ → WP c (pyNext it) (fun r m σ => match r with
      | none => Ψ m σ
      | some v => WP c (letOwnedTupleGo target it v) (fun _ m σ => WP c (assign target env v) (fun _ m σ => WP c (tests ifs env) (fun ok m σ =>
          (ok = true → WP c (eval elt env) (fun x m σ => WP c (call (.builtin "list.append") [acc, x]) (fun _ m σ => ∃ n', n' < n ∧ I n' m σ) m σ) m σ) ∧ (ok = false → ∃ n', n' < n ∧ I n' m σ)) m σ) m σ) m σ) m σ)
    (n : Nat) (h : I n m σ) : WComp c (.ListComp elt [⟨target, iter, ifs, 0⟩] scope p) it acc env Ψ m σ := fun hp g d tk o S => by
  refine codeAny_loop rfl (fun n s' => ∃ h' tk' m' σ', s' = ⟨h', g, d, tk', o⟩ ∧ St c.w c.h₀ c.L h' m' σ' ∧ I n m' σ') ?_ n ⟨hp, tk, m, σ, rfl, S, h⟩
  rintro n s' ⟨h', tk', m', σ', rfl, S', hI⟩
  show wpAny _ c.A ((compTurn (.ListComp elt [⟨target, iter, ifs, 0⟩] scope p) 0 it acc env).onRaise (fun x => do noteFrame x env; theTreesLotGoes x)) _ _ _
  refine wpAny_noted ?_
  rw [compTurn_list]
  refine wpAny_mono (Q := _) (E := fun _ _ => False) (wpAny_bind (wpAny_standAt (wpAny_bind (WP.use (turn n m' σ' hI) S' fun r h2 tk2 m2 σ2 S2 hr => ?_)))) (fun _ _ x => x) fun _ _ x => x.elim
  cases r with
  | none => exact wpAny_pure ⟨h2, tk2, m2, σ2, rfl, S2, hr⟩
  | some v =>
    refine wpAny_bind (WP.use hr S2 fun _ h3 tk3 m3 σ3 S3 ha => wpAny_bind (WP.use ha S3 fun _ h4 tk4 m4 σ4 S4 hb => wpAny_bind (WP.use hb S4 fun ok h5 tk5 m5 σ5 S5 hc => ?_)))
    cases ok with
    | false =>
      obtain ⟨n', hn, hI'⟩ := hc.2 rfl
      exact wpAny_pure ⟨rfl, n', hn, h5, tk5, m5, σ5, rfl, S5, hI'⟩
    | true =>
      refine wpAny_bind (wpAny_bind (WP.use (hc.1 rfl) S5 fun x h6 tk6 m6 σ6 S6 he => wpAny_bind (WP.use he S6 fun _ h7 tk7 m7 σ7 S7 hf => wpAny_pure (wpAny_pure ⟨rfl, ?_⟩))))
      obtain ⟨n', hn, hI'⟩ := hf
      exact ⟨n', hn, h7, tk7, m7, σ7, rfl, S7, hI'⟩

/-- an iterator gives itself -/
theorem it_self {it : Addr} {A : AO} (hi : σ it = some A) (hA : (∃ l i, A = .listIter l i) ∨ (∃ l i, A = .tupIter l i) ∨ ∃ a b e, A = .rangeIter a b e) (h : Φ (.ref it) m σ) : WP c (pyIter (.ref it)) Φ m σ := fun hp g d tk o S => by
  obtain ⟨oi, hoi, hIs⟩ := S.at_ hi
  rcases hA with ⟨l, i, rfl⟩ | ⟨l, i, rfl⟩ | ⟨x, y, z, rfl⟩
  · exact wpAny_pyIter_listiter ⟨oi, hoi, hIs.1, hIs.2⟩ ⟨hp, tk, m, σ, rfl, S, h⟩
  · exact wpAny_pyIter_tupleiter ⟨oi, hoi, hIs.1, hIs.2⟩ ⟨hp, tk, m, σ, rfl, S, h⟩
  · have : oi = _ := hIs
    subst this
    exact wpAny_pyIter_rangeiter hoi ⟨hp, tk, m, σ, rfl, S, h⟩

/-- the block: the list, the names, the walk -/
theorem comp_block {elt target iter : Expr} {ifs : List Expr} {scope : Scope} {cl : List (Str × Addr)} {p : Pos} {it : Addr} {A : AO} {env : Env} (hcell : ∀ y ∈ scope.names, y.2 ≠ .cell) (hkind : scope.kind = .function)
    (hi : σ it = some A) (hA : (∃ l i, A = .listIter l i) ∨ (∃ l i, A = .tupIter l i) ∨ ∃ a b e, A = .rangeIter a b e) {RR : Value → Addr → Result → Shared → Prop} {hp : Heap} {g : Array GenState} {d : Drawn} {tk : Nat} {o : OsState} (S : St c.w c.h₀ c.L hp m σ)
    {Ψ : Addr → Addr → Fields → Gh → Prop}
    (h : ∀ D C, σ D = none → σ C = none → D ≠ C → WComp c (.ListComp elt [⟨target, iter, ifs, 0⟩] scope p) (.ref it) (.ref D) (compEnvC scope cl C env) (fun m σ => Ψ D C m σ) m (upd (upd σ D (.xlist [])) C (.ns [])))
    (hRR : ∀ D C h' tk' m' σ', St c.w c.h₀ c.L h' m' σ' → Ψ D C m' σ' → RR (.ref D) C (.ok .next) ⟨h', g, d, tk', o⟩) (hok : ∀ D C f s', RR D C (.ok .next) s' → RR D C (.ok f) s') :
    wpAny (model pg c.w) c.A (newList []) (fun acc s₃ => wpAny (model pg c.w) c.A (newFunctionEnv scope env.globals cl [] env.qual none .none (some env)) (fun cenv s₄ =>
      codeAny (model pg c.w) c.A (.compStart (.ListComp elt [⟨target, iter, ifs, 0⟩] scope p) 0 (.ref it) acc { cenv with scope := relabel scope env }) (RR acc cenv.locals) s₄) (fun _ _ => False) s₃) (fun _ _ => False) ⟨hp, g, d, tk, o⟩ := by
  refine wpAny_newObj_type (wpAny_newFunctionEnv hcell (by intro y hy; simp at hy) (fun h₁ hns₁ hsb₁ => ?_) hkind)
  dsimp only at hns₁ hsb₁ ⊢
  generalize hH2 : hp.push { cls := .type "list", dict := none, data := .seq ([] : List Value).toArray } = H2 at hns₁ hsb₁ ⊢
  have S1 : St c.w c.h₀ c.L H2 m (upd σ hp.objs.size (.xlist [])) := by
    rw [← hH2]; exact S.push (A := .xlist []) ⟨0, rfl⟩ rfl
  have hD := S.free
  have hsz : H2.objs.size = hp.objs.size + 1 := by rw [← hH2, Heap.size_push]
  have hC : σ H2.objs.size = none := by
    cases e : σ H2.objs.size with
    | none => rfl
    | some A => exact absurd (S.lt e) (by rw [hsz]; exact Nat.not_lt.mpr (Nat.le_succ _))
  have hne : hp.objs.size ≠ H2.objs.size := by rw [hsz]; exact Nat.ne_of_lt (Nat.lt_succ_self _)
  have S2 : St c.w c.h₀ c.L h₁ m (upd (upd σ hp.objs.size (.xlist [])) H2.objs.size (.ns [])) := by
    have S2' := S1.push (o := { cls := .type "dict", dict := none, data := .dict #[] }) (A := .ns []) ⟨#[], 0, rfl, (fun e he => by simp at he), fun name => rfl⟩ rfl
    have := S2'.set (a := H2.objs.size) (A := .ns []) hsb₁ (upd_same _ _ _) (by
      obtain ⟨o', es, ep, ho', h1, h2, h3⟩ := hns₁
      exact ⟨o', ho', es, ep, h1, h2, fun name => by rw [h3]; rfl⟩)
    refine this.less fun a B e => ?_
    unfold upd at e ⊢
    split at e
    · rename_i q; rw [if_pos q]; exact e
    · rename_i q; rw [if_neg q, if_neg q]; exact e
  have loop : codeAny (model pg c.w) c.A (.compLoop (.ListComp elt [⟨target, iter, ifs, 0⟩] scope p) 0 (.ref it) (.ref hp.objs.size) (compEnvC scope cl H2.objs.size env)) (RR (.ref hp.objs.size) H2.objs.size) ⟨h₁, g, d, tk + ([] : List (Str × Value)).length, o⟩ :=
    codeAny_mono (h _ _ hD hC hne h₁ g d _ o S2) fun r s' q => by
      cases r with
      | error e => exact q.elim
      | ok f =>
        obtain ⟨h', tk', m', σ', rfl, S', hq⟩ := q
        exact hok _ _ f _ (hRR _ _ h' tk' m' σ' S' hq)
  have hi2 : (upd (upd σ hp.objs.size (.xlist [])) H2.objs.size (.ns [])) it = some A := by
    refine upd_ne ?_ (upd_ne ?_ hi)
    · intro e; rw [e, hC] at hi; cases hi
    · intro e; rw [e, hD] at hi; cases hi
  refine codeAny_compStart_list loop ?_
  refine wpAny_mono (it_self (c := c) (Φ := fun v m2 σ2 => v = .ref it ∧ m2 = m ∧ σ2 = (upd (upd σ hp.objs.size (.xlist [])) H2.objs.size (.ns []))) hi2 hA ⟨rfl, rfl, rfl⟩ h₁ g d _ o S2) (fun v s' q => ?_) fun _ _ x => x.elim
  obtain ⟨h', tk', m', σ', rfl, S', rfl, rfl, rfl⟩ := q
  refine codeAny_mono (h _ _ hD hC hne h' g d _ o S') fun r s' q => ?_
  cases r with
  | error e => exact q.elim
  | ok f =>
    obtain ⟨h', tk', m', σ', rfl, S', hq⟩ := q
    exact hok _ _ f _ (hRR _ _ h' tk' m' σ' S' hq)

theorem comp_drop {w : World} {h₀ h h' : Heap} {L C : Addr} {A : AO} (S : St w h₀ L h m σ) (e : σ C = some A) (hs : Heap.SameBut C h h') : St w h₀ L h' m (fun a => if a = C then none else σ a) := by
  obtain ⟨_, hne, hn⟩ := S.led C A e
  refine ⟨⟨S.fr.ns.sameBut hs (Ne.symm hne), fun b o q => (hs.2 b (fun x => by rw [x, hn] at q; cases q)).trans (S.fr.keep b o q), S.fr.above⟩, fun a A e => ?_⟩
  split at e
  · cases e
  · rename_i q
    obtain ⟨⟨o', ho', hA⟩, h3, h4⟩ := S.led a A e
    exact ⟨⟨o', (hs.2 a q).trans ho', hA⟩, h3, h4⟩

theorem wp_comp {elt target iter : Expr} {ifs : List Expr} {scope : Scope} {p : Pos} (cl : List (Str × Addr))
    (hclos : closureFor scope env = pure cl) (hcell : ∀ y ∈ scope.names, y.2 ≠ .cell) (hkind : scope.kind = .function) (hnames : ∀ y ∈ scope.names, y.2 = .local → scope.names.lookup y.1 = some .local)
    (h : WP c (eval iter env) (fun xv m σ => WP c (pyIter xv) (fun iv m σ => ∃ it A, iv = .ref it ∧ σ it = some A ∧ ((∃ l i, A = .listIter l i) ∨ (∃ l i, A = .tupIter l i) ∨ ∃ a b e, A = .rangeIter a b e) ∧
      ∀ D C, σ D = none → σ C = none → D ≠ C → WComp c (.ListComp elt [⟨target, iter, ifs, 0⟩] scope p) (.ref it) (.ref D) (compEnvC scope cl C env) (fun m σ => (∃ mc, σ C = some (.ns mc)) ∧ Φ (.ref D) m (fun a => if a = C then none else σ a)) m (upd (upd σ D (.xlist [])) C (.ns []))) m σ) m σ)
    (hs : ∀ x, foldedSetIterable iter env x = pure x := by intro _; rfl) : WP c (eval (.ListComp elt [⟨target, iter, ifs, 0⟩] scope p) env) Φ m σ := fun hp g d tk o S => by
  rw [eval_ListComp]
  refine wpAny_comprehension_free (use := none) rfl hs hclos hkind hnames (WP.use h S fun xv h1 tk1 m1 σ1 S1 w1 => WP.use w1 S1 fun iv h2 tk2 m2 σ2 S2 w2 => ?_)
  obtain ⟨it, A, rfl, hi, hA, hw⟩ := w2
  refine comp_block (RR := fun acc C => compPost (model pg c.w) c.A (fun _ _ => False) none (Post c g d o Φ) acc C) hcell hkind hi hA S2 hw (fun D C h' tk' m' σ' S' hq => ?_) (fun _ _ f _ q => q)
  obtain ⟨⟨mc, hC⟩, hΦ⟩ := hq
  exact ⟨_, ns_at S' hC, fun h'' hs'' => ⟨h'', _, m', _, rfl, comp_drop S' hC hs'', hΦ⟩⟩

theorem we_comp {elt target iter : Expr} {ifs : List Expr} {scope : Scope} {p p' : Pos} {x : Str} {px : Pos} (cl : List (Str × Addr))
    (hsw : swapsWith (.ListComp elt [⟨target, iter, ifs, 0⟩] scope p) (some (.Name x px)) p'.line env = pure true)
    (hclos : closureFor scope env = pure cl) (hcell : ∀ y ∈ scope.names, y.2 ≠ .cell) (hkind : scope.kind = .function) (hnames : ∀ y ∈ scope.names, y.2 = .local → scope.names.lookup y.1 = some .local)
    (h : WP c (eval iter env) (fun xv m σ => WP c (pyIter xv) (fun iv m σ => ∃ it A, iv = .ref it ∧ σ it = some A ∧ ((∃ l i, A = .listIter l i) ∨ (∃ l i, A = .tupIter l i) ∨ ∃ a b e, A = .rangeIter a b e) ∧
      ∀ D C, σ D = none → σ C = none → D ≠ C → WComp c (.ListComp elt [⟨target, iter, ifs, 0⟩] scope p) (.ref it) (.ref D) (compEnvC scope cl C env) (fun m σ => WP c (storeName env x (.ref D)) (fun _ m σ => (∃ mc, σ C = some (.ns mc)) ∧ N m (fun a => if a = C then none else σ a)) m σ) m (upd (upd σ D (.xlist [])) C (.ns []))) m σ) m σ)
    (hs : ∀ x, foldedSetIterable iter env x = pure x := by intro _; rfl) : WE c (.Assign [.Name x px] (.ListComp elt [⟨target, iter, ifs, 0⟩] scope p) p') env N R m σ := fun hp g d tk o S => by
  rw [exec_Assign_Name_used _ _ _ _ hsw]
  refine wpAny_bind (wpAny_standAt (wpAny_bind ?_))
  show wpAny _ c.A (do let _ ← comprehension (.ListComp elt [⟨target, iter, ifs, 0⟩] scope p) scope env _ (newList []) false (eval iter env) (some (assign (.Name x px) env))) _ _ _
  refine wpAny_bind (wpAny_mono (wpAny_comprehension_free (use := some (assign (.Name x px) env)) (Q := fun _ s' => Post c g d o (RetP N R) .next s') rfl hs hclos hkind hnames
    (WP.use h S fun xv h1 tk1 m1 σ1 S1 w1 => WP.use w1 S1 fun iv h2 tk2 m2 σ2 S2 w2 => ?_)) (fun _ s' hq => wpAny_pure (wpAny_pure hq)) fun _ _ e => e)
  obtain ⟨it, A, rfl, hi, hA, hw⟩ := w2
  refine comp_block (RR := fun acc C => compPost (model pg c.w) c.A (fun _ _ => False) (some (assign (.Name x px) env)) (fun _ s' => Post c g d o (RetP N R) .next s') acc C) hcell hkind hi hA S2 hw (fun D C h' tk' m' σ' S' hq => ?_) (fun _ _ f _ q => q)
  show wpAny _ c.A (assign (.Name x px) env (.ref D)) _ _ _
  refine wpAny_assign_Name (WP.use hq S' fun _ h3 tk3 m3 σ3 S3 q => ?_)
  obtain ⟨⟨mc, hC⟩, hN⟩ := q
  exact ⟨_, ns_at S3 hC, fun h'' hs'' => ⟨h'', _, m3, _, rfl, comp_drop S3 hC hs'', hN⟩⟩
end
end Mine
namespace Mine
theorem ne_of_none {σ : Gh} {a b : Addr} {A : AO} (h : σ a = none) (e : σ b = some A) : b ≠ a := fun q => by rw [q, h] at e; cases e

def addCells (cm : Str → Option Value) (σ : Gh) : List (Str × Addr) → Gh
  | [] => σ
  | (n, a) :: r => upd (addCells cm σ r) a (.cell (cm n))

theorem addCells_led {w : World} {σ : Gh} {cm : Str → Option Value} {news : List (Addr × Obj)} : ∀ {cl : List (Str × Addr)} {cells : List (Addr × Obj)}, CellsAre cm cl cells → (∀ p ∈ cells, p ∈ news) →
    (∀ a A, σ a = some A → ∃ o, (a, o) ∈ news ∧ A.Is w a o) → ∀ a A, addCells cm σ cl a = some A → ∃ o, (a, o) ∈ news ∧ A.Is w a o
  | [], _, _, _, h, a, A, e => h a A e
  | (n, c) :: cl, _, .cons (o := o) hd hr, hs, h, a, A, e => by
    unfold addCells upd at e
    split at e
    · rename_i q
      cases e
      subst q
      exact ⟨o, hs _ (.head _), hd⟩
    · exact addCells_led hr (fun p hp => hs p (.tail _ hp)) h a A e

section
variable {c : Cf} {k : Nat} {env : Env} {m : Fields} {σ : Gh} {Φ : Value → Fields → Gh → Prop}
theorem enterC {f : Addr} {name qual : Str} {params : Arguments} {body : List Stmt} {scope : Scope} {dV kV doc pm cdv ct oc : Value} {an od : Option Addr} {osl : Array (Option Value)} {args : List Value} (binds : Fields) (m₀ : Fields)
    (C : Cx c (k + 1)) (ho : (hd.heap_39 c.w.params).lookup f = some ⟨oc, od, .func (fnOf name qual params body scope dV kV doc pm an cdv ct), osl⟩) (hcd : codeIn (hd.heap_39 c.w.params) cdv qual = true)
    (hbind : ∀ s : Shared, (hd.heap_39 c.w.params).In s.heap → BindsTo s (fnOf name qual params body scope dV kV doc pm an cdv ct) ⟨args, []⟩ binds)
    (hkind : (binds.all fun y => scope.names.lookup y.1 == some .local || scope.names.lookup y.1 == some .cell) = true) (hnd : ((cellsFrom 0 scope.names []).map (·.1)).Nodup)
    (hm : ∀ L', bindL (envOfC qual scope L' f cdv).kindOf binds (fun _ => none) = lk m₀)
    (h : ∀ A' h₀' L', Cx ⟨c.w, A', h₀', L'⟩ k → Ev ⟨c.w, A', h₀', L'⟩ (envOfC qual scope L' f cdv) → (∀ a, L' ≤ a → σ a = none) →
      WS ⟨c.w, A', h₀', L'⟩ body (envOfC qual scope L' f cdv) (fun _ σ' => Φ .none m σ') (fun v _ σ' => Φ v m σ') m₀ (addCells (bindC (envOfC qual scope L' f cdv).kindOf binds fun _ => none) σ (cellsFrom (L' + 1) scope.names [])))
    (hco : scope.isCoroutine = false) (hgen : scope.isGenerator = false) (hk : scope.kind = .function) : WC c (.ref f) args Φ m σ := fun hp g d tk o S => by
  obtain ⟨A₀, base, outer, env, B, hA, hf, hke⟩ := C.below
  obtain ⟨p, loose, mean, mg, mb, T⟩ := C.top
  obtain ⟨news, Nw, hN, hnd'⟩ := S.news
  refine code_defC B S.fr C.X Nw T hA hf hke ho hcd (by have := C.depth; omega) (hbind _ (C.X.keeps S.fr.keep)) hkind hnd (fun g' L' h₁ tk' cells FG F' N' Y B' X' T' l1 => ?_) hco hgen hk
  have C' : Cx ⟨c.w, c.A.deeper (envOfC qual scope L' f cdv), g', L'⟩ k := by
    refine ⟨⟨c.A, base, env :: outer, envOfC qual scope L' f cdv, B', Around.frames_deeper hA, rfl, hk⟩, X', ⟨p, loose, mean, mg, mb, T'⟩, C.hh, ?_, ?_⟩
    · have := C.depth; show c.A.depth + 1 + k < recursionLimit; omega
    · have := C.units; show c.A.units + 3 + 20 * k + 20 < cLine; omega
  have hfree : ∀ a, L' ≤ a → σ a = none := fun a ha => by
    cases e : σ a with
    | none => rfl
    | some A =>
      obtain ⟨o', hm', _⟩ := hN a A e
      exact absurd (Nat.lt_of_lt_of_le (l1 _ hm') ha) (Nat.lt_irrefl _)
  have S' : St c.w g' L' h₁ m₀ (addCells (bindC (envOfC qual scope L' f cdv).kindOf binds fun _ => none) σ (cellsFrom (L' + 1) scope.names [])) := by
    refine ⟨by rw [← hm L']; exact F', Led.of_news N' (addCells_led Y (fun p hp => List.mem_append_left _ hp) fun a A e => ?_)⟩
    obtain ⟨o', hm', hA'⟩ := hN a A e
    exact ⟨o', List.mem_append_right _ hm', hA'⟩
  refine wpAny_mono (h _ _ _ C' ⟨rfl, hk, rfl, rfl, rfl⟩ hfree h₁ g d _ o S') (fun fl s' q => ?_) fun _ _ x => x.elim
  obtain ⟨h', tk', m', σ', rfl, S2, hq⟩ := q
  obtain ⟨news', Nw', hN', _⟩ := S2.news
  refine leaveK_ S2.fr Nw' fun F2 N2 => ?_
  have S3 : St c.w c.h₀ c.L h' m σ' := ⟨F2, Led.of_news N2 hN'⟩
  cases fl with
  | next => exact ⟨h', tk', m, σ', rfl, S3, hq⟩
  | ret v => exact ⟨h', tk', m, σ', rfl, S3, hq⟩
  | brk => exact hq.elim
  | cont => exact hq.elim
end
end Mine
namespace Mine
section
variable {c : Cf} {k : Nat} {env : Env} {m : Fields} {σ : Gh} {Φ : Value → Fields → Gh → Prop}
theorem cp_in_strs {x : Str} {u : Tok} {a : Addr} {l : List Value} {ys : List Str} (hl : σ a = some (.tuple l)) (hi : StrsAre l ys) (h : Φ (.bool (ys.any fun y => y == x)) m σ) : WP c (compareOp .In (.str x u) (.ref a)) Φ m σ := fun hp g d tk o S =>
  in_tuple_strs (isTup_of S hl) (by simpa using hi) ⟨hp, tk, m, σ, rfl, S, h⟩
theorem cp_notin_strsK {x : Str} {u : Tok} {a : Addr} {l : List Value} {ys : List Str} {n : Nat} {dd : Option Addr} {sl : Array (Option Value)} (C : Cx c k) (hl : (hd.heap_39 c.w.params).lookup a = some ⟨.type "tuple", dd, .seq l.toArray n, sl⟩) (hi : StrsAre l ys) (h : Φ (.bool (!(ys.any fun y => y == x))) m σ) :
    WP c (compareOp .NotIn (.str x u) (.ref a)) Φ m σ := fun hp g d tk o S =>
  notin_tuple_strs (t := a) (items := l.toArray) ⟨_, S.fr.keep _ _ (C.X _ _ hl), rfl, n, rfl⟩ (by simpa using hi) ⟨hp, tk, m, σ, rfl, S, h⟩
theorem cp_in_ints {x : Int} {u : Tok} {a : Addr} {l : List Value} {ns : List Int} (hl : LstAt σ a l) (hi : IntsAre l ns) (h : Φ (.bool (ns.any fun y => y == x)) m σ) : WP c (compareOp .In (.int x u) (.ref a)) Φ m σ := fun hp g d tk o S =>
  in_list_ints (hl.isList S) hi ⟨hp, tk, m, σ, rfl, S, h⟩
end

/-- the read part, the buffer -/
structure Wd (ρ σ : Gh) (b rl : Addr) (cs : List Gy) : Prop where
  sub : Sub ρ σ
  buf : BufAt σ b rl cs
  dis : ∀ q ∈ cs, ρ q.d = none
  disl : ρ rl = none
  size : cs.length < 1000
theorem Wd.get {ρ σ : Gh} {b rl : Addr} {cs : List Gy} (W : Wd ρ σ b rl cs) {i : Nat} {q : Gy} (hi : cs[i]? = some q) : i < cs.length ∧ q ∈ cs ∧ q.At σ := by
  have h1 := (List.getElem?_eq_some_iff.mp hi).1
  exact ⟨h1, List.mem_of_getElem? hi, W.buf.cells q (List.mem_of_getElem? hi)⟩
theorem Wd.more {ρ σ σ' : Gh} {b rl : Addr} {cs : List Gy} (W : Wd ρ σ b rl cs) (hs : Sub σ σ') : Wd ρ σ' b rl cs := ⟨W.sub.trans hs, W.buf.sub hs, W.dis, W.disl, W.size⟩
theorem gy_at {cs : List Gy} {i : Nat} {q : Gy} (hi : cs[i]? = some q) : (cs.map fun q => Value.ref q.x)[((i : Int)).toNat]? = some (.ref q.x) := by
  rw [Int.toNat_natCast, List.getElem?_map, hi]; rfl

/-- the scene -/
def ScOk (ρ : Gh) (sc b ga la : Addr) (mk : Int) : Prop := ∃ lks tm td, InstF ρ sc 65 [("buffer", .ref b), ("gdef", .ref ga), ("lookups", lks), ("lookup", .ref la), ("mask", .int mk tm), ("depth", .int 0 td)]
end Mine
namespace Mine

theorem led_push {w : World} {σ : Gh} {news : List (Addr × Obj)} {D : Addr} {A : AO} {o : Obj} (hN : ∀ a B, σ a = some B → ∃ o', (a, o') ∈ news ∧ B.Is w a o') (hA : AO.Is w D A o) : ∀ a B, upd σ D A a = some B → ∃ o', (a, o') ∈ (D, o) :: news ∧ B.Is w a o' := fun a B e => by
  unfold upd at e
  split at e
  · rename_i q; cases e; subst q; exact ⟨_, .head _, hA⟩
  · obtain ⟨o', hm, h⟩ := hN a B e
    exact ⟨o', .tail _ hm, h⟩
theorem free_of {w : World} {σ : Gh} {news : List (Addr × Obj)} {D : Addr} (hN : ∀ a B, σ a = some B → ∃ o', (a, o') ∈ news ∧ B.Is w a o') (h : ∀ p ∈ news, p.1 < D) : σ D = none := by
  cases e : σ D with
  | none => rfl
  | some A => obtain ⟨o', hm, _⟩ := hN D A e; exact absurd (h _ hm) (Nat.lt_irrefl _)

def sliceO (l u : Value) : Obj := { cls := .type "slice", data := .fields #[l, u, .none] }
section
variable {c : Cf} {k : Nat} {env : Env} {m : Fields} {σ : Gh} {Φ : Value → Fields → Gh → Prop} {N : Fields → Gh → Prop} {R : Value → Fields → Gh → Prop}
theorem tp_list {l : Addr} {vs : List Value} (hl : LstAt σ l vs) (hs : vs.length ≤ 16384) (h : ∀ D, σ D = none → Φ (.ref D) m (upd σ D (.tuple vs))) : WP c (call (.type "tuple") [.ref l]) Φ m σ := fun hp g d tk o S => by
  obtain ⟨news, Nw, hN, hnd⟩ := S.news
  refine kde_tupleOf S.fr Nw (hl.isList S) (by simpa using hs) (zs := vs) (by simp) fun D h' F' N' l1 => ⟨h', tk, m, _, rfl, ⟨F', Led.of_news N' (led_push (A := .tuple vs) hN ⟨rfl, 0, rfl⟩)⟩, h D (free_of hN l1)⟩
theorem min_ints {l : Addr} {vs : List Value} {ns : List Int} (C : Cx c k) (hl : LstAt σ l vs) (hi : IntsAre vs ns) (h0 : 0 < ns.length) (h : ∀ M t, M ∈ ns → Φ (.int M t) m σ) : WP c (call (.builtin "min") [.ref l]) Φ m σ := fun hp g d tk o S => by
  obtain ⟨news, Nw, hN, hnd⟩ := S.news
  exact kso_min S.fr Nw (hl.isList S) hi h0 C.hh fun h' M t tk' F' N' hM _ => ⟨h', tk', m, _, rfl, ⟨F', Led.of_news N' hN⟩, h M t hM⟩
theorem ev_none {Φ : Value → Fields → Gh → Prop} (h : Φ .none m σ) : WP c (evalPart none env) Φ m σ := fun hp g d tk o S => wpAny_pure ⟨hp, tk, m, σ, rfl, S, h⟩
theorem ev_some {e : Expr} {Φ : Value → Fields → Gh → Prop} (h : WP c (eval e env) Φ m σ) : WP c (evalPart (some e) env) Φ m σ := h
theorem wp_slice {lower upper : Option Expr} {p : Pos} (h : WP c (evalPart lower env) (fun l m σ => WP c (evalPart upper env) (fun u m σ => ∀ a, σ a = none → Φ (.ref a) m (upd σ a (.raw (sliceO l u)))) m σ) m σ) : WP c (eval (.Slice lower upper none p) env) Φ m σ := fun hp g d tk o S =>
  wpAny_Slice (WP.use h S fun l h1 tk1 m1 σ1 S1 w1 => WP.use w1 S1 fun u h2 tk2 m2 σ2 S2 w2 => wpAny_pure ⟨_, tk2, m2, _, rfl, S2.push (A := .raw (sliceO l u)) rfl rfl, w2 _ S2.free⟩)
theorem slice_at {w : World} {h₀ h : Heap} {L : Addr} {a : Addr} {l u : Value} (S : St w h₀ L h m σ) (e : σ a = some (.raw (sliceO l u))) : h.IsSliceOf a l u .none := by
  obtain ⟨o, ho, rfl⟩ := S.at_ e
  exact ⟨_, ho, rfl, rfl⟩
theorem sub_slice {value i : Expr} {l a : Addr} {vs : List Value} {vl vu : Value} {lo hi : Option Int} (hl : LstAt σ l vs) (ha : σ a = some (.raw (sliceO vl vu))) (pl : IsPart vl lo) (pu : IsPart vu hi) (hz : vs.length ≤ sizeLine)
    (h : ∀ D, σ D = none → Φ (.ref D) m (upd σ D (.xlist (kms_pick vs lo hi)))) (hs : subscripted i false (.ref l) (.ref a) = operate [.ref a, .ref l] (getItem (.ref l) (.ref a)) := by rfl) : WP c (subscriptTail value i (.ref l) (.ref a)) Φ m σ := fun hp g d tk o S => by
  refine tail_any (hl.isList S).typeIs list_getitem_lookup (wpAny_getItem_list_slice (hl.isList S) (slice_at S ha) pl pu .none (by simp) ⟨_, tk, m, _, rfl, S.push (A := .xlist (kms_pick vs lo hi)) ⟨0, ?_⟩ rfl, h _ S.free⟩ (by simpa using hz)) hs
  rw [kms_pick_eq]
theorem set_slice {l b a : Addr} {vs ws : List Value} {vl vu : Value} {lo hi : Option Int} {Φ : Unit → Fields → Gh → Prop} (hl : LstAt σ l vs) (hb : LstAt σ b ws) (ha : σ a = some (.raw (sliceO vl vu))) (pl : IsPart vl lo) (pu : IsPart vu hi) (hz : vs.length + ws.length ≤ sizeLine) (hlb : l ≠ b)
    (h : Φ () m (upd σ l (.list (vs.take (kms_lo lo vs.length) ++ ws ++ vs.drop (max (kms_lo lo vs.length) (kms_hi hi vs.length)))))) : WP c (setItem (.ref l) (.ref a) (.ref b)) Φ m σ := fun hp g d tk os S => by
  obtain ⟨Al, hAl⟩ := hl.some
  have hL := hl.isList S
  have hB := hb.isList S
  obtain ⟨o, ho, hc, ne, hd⟩ := id hL
  obtain ⟨ob, hob, hcb, nb, hdb⟩ := id hB
  obtain ⟨osl, hos, hcs, hds⟩ := slice_at S ha
  have hTs : Shared.TypeIs ⟨hp, g, d, tk, os⟩ (.ref a) "slice" := ⟨osl, hos, hcs⟩
  unfold setItem
  try with_reducible refine wpAny_holding ?_
  first | refine wpAny_bind (wpAny_pure ?_) | skip
  refine wpAny_bind (wpAny_sequenceKey hL.typeIs (by decide) ?_)
  refine wpAny_bind (wpAny_callSpecial?_slot (name := Str.ofString "__setitem__") hL.typeIs slot_list_setitem
    (wpAny_call_entry slot_list_setitem hL.typeIs entry_list_setitem ?_ (args_list_setitem _ _ _)))
  show wpAny _ _ (Builtin.List.listSubscript? (.ref a) >>= _) _ _ _
  refine wpAny_bind ?_
  unfold Builtin.List.listSubscript?
  refine wpAny_bind (wpAny_specialOf hTs slice_no_index ?_)
  simp only [Option.isNone_none, if_true]
  refine wpAny_pure ?_
  show wpAny _ _ (typeOf (.ref a) >>= _) _ _ _
  refine wpAny_bind (wpAny_typeOf hTs ?_)
  rw [if_neg (by decide)]
  rw [listSliceParts_eq]
  refine wpAny_bind (wpAny_bind (wpAny_field hos hds (x := .none) rfl (wpAny_bind (wpAny_listPart .none ?_))))
  rw [if_neg (by exact Bool.false_ne_true)]
  refine wpAny_bind (wpAny_field hos hds (x := vl) rfl (wpAny_bind (wpAny_listPart pl ?_)))
  refine wpAny_bind (wpAny_field hos hds (x := vu) rfl (wpAny_bind (wpAny_listPart pu (wpAny_pure ?_))))
  rw [if_neg (show ¬ (Builtin.List.listSameRef (.ref l) (.ref b) = true) by simpa [Builtin.List.listSameRef] using hlb)]
  refine wpAny_bind (m := Builtin.List.listAllItems (.ref b) "must assign iterable to extended slice") ?_
  unfold Builtin.List.listAllItems
  refine wpAny_bind (wpAny_typeOf hB.typeIs ?_)
  rw [if_pos (by decide)]
  refine wpAny_bind (wpAny_seqItems hob hdb ?_)
  refine wpAny_pure ?_
  refine wpAny_bind (m := Builtin.List.listItems (.ref l)) ?_
  unfold Builtin.List.listItems
  refine wpAny_bind (wpAny_seqItems ho hd (wpAny_pure ?_))
  refine wpAny_bind (wpAny_of_eq (sliceIndices_raw lo hi none vs.toArray.size (by simp)) ?_)
  rw [kms_bounds]
  dsimp only
  rw [if_pos (show ((1 : Int) == 1) = true by decide)]
  have hsz : vs.toArray.size + ws.toArray.size ≤ sizeLine := by simpa using hz
  rw [if_neg (show ¬ (Builtin.List.listTooLong (vs.toArray.size + ws.toArray.size) = true) by simpa [Builtin.List.listTooLong] using hz)]
  have hm : (max ((kms_lo lo vs.toArray.size : Nat) : Int) ((kms_hi hi vs.toArray.size : Nat) : Int)).toNat = max (kms_lo lo vs.toArray.size) (kms_hi hi vs.toArray.size) := by omega
  rw [hm, Int.toNat_natCast]
  have hX : ∀ x y : Nat, (vs.toArray.extract 0 x ++ ws.toArray ++ vs.toArray.extract y vs.toArray.size) = (vs.take x ++ ws ++ vs.drop y).toArray := by intro x y; simp; exact List.take_of_length_le (by rw [List.length_drop]; omega)
  refine wpAny_bind (m := Builtin.List.listUpdate _ _) (listUpdate_at ho hd ?_ (by omega) ?_)
  · refine wpAny_bind (wpAny_letGo ?_)
    refine wpAny_pure ⟨.none, rfl, wpAny_pure ⟨_, tk, m, _, rfl, S.set (A := .list (vs.take (kms_lo lo vs.length) ++ ws ++ vs.drop (max (kms_lo lo vs.length) (kms_hi hi vs.length)))) (Heap.SameBut.update ..) hAl ?_, h⟩⟩
    obtain ⟨n', hd'⟩ := Obj.data_mapSeq hd (fun xs => xs.extract 0 (kms_lo lo vs.toArray.size) ++ ws.toArray ++ xs.extract (max (kms_lo lo vs.toArray.size) (kms_hi hi vs.toArray.size)) xs.size)
    refine ⟨_, Heap.get?_update_self _ ho (Obj.isFreed_of_seq hd'), (Obj.cls_mapSeq ..).trans hc, n', ?_⟩
    rw [hd', hX]
    simp
  · rw [hX]; simp; omega
end
end Mine
namespace Mine

def rangeO (a b e : Int) (t1 t2 t3 : Tok) : Obj := { cls := .type "range", dict := none, data := .fields #[.int a t1, .int b t2, .int e t3], slots := #[] }
def ItKind (A : AO) : Prop := (∃ l i, A = .listIter l i) ∨ (∃ l i, A = .tupIter l i) ∨ ∃ a b e, A = .rangeIter a b e
/-- what can be walked over -/
def Src (σ : Gh) (xv : Value) (I : Nat → AO) (n : Nat) (item : Nat → Value → Prop) : Prop :=
  (∃ l vs, xv = .ref l ∧ LstAt σ l vs ∧ vs.length = n ∧ I = (fun i => .listIter l i) ∧ ∀ i v, vs[i]? = some v → item i v) ∨
  (∃ l vs, xv = .ref l ∧ σ l = some (.tuple vs) ∧ vs.length = n ∧ I = (fun i => .tupIter l i) ∧ ∀ i v, vs[i]? = some v → item i v) ∨
  (∃ r a b e t1 t2 t3, xv = .ref r ∧ σ r = some (.raw (rangeO a b e t1 t2 t3)) ∧ Builtin.Range.small a b e = true ∧ Builtin.Range.rangeSize a b e = (n : Int) ∧ I = (fun i => .rangeIter (a + i * e) ((n : Int) - i) e) ∧ ∀ i t, item i (.int (a + (i : Nat) * e) t))
theorem Src.kind {σ : Gh} {xv : Value} {I : Nat → AO} {n : Nat} {item : Nat → Value → Prop} (h : Src σ xv I n item) (i : Nat) : ItKind (I i) := by
  rcases h with ⟨l, vs, _, _, _, rfl, _⟩ | ⟨l, vs, _, _, _, rfl, _⟩ | ⟨r, a, b, e, t1, t2, t3, _, _, _, _, rfl, _⟩
  · exact .inl ⟨_, _, rfl⟩
  · exact .inr (.inl ⟨_, _, rfl⟩)
  · exact .inr (.inr ⟨_, _, _, rfl⟩)
theorem Src.sub {σ σ' : Gh} {xv : Value} {I : Nat → AO} {n : Nat} {item : Nat → Value → Prop} (h : Src σ xv I n item) (hs : Sub σ σ') : Src σ' xv I n item := by
  rcases h with ⟨l, vs, h1, h2, h3⟩ | ⟨l, vs, h1, h2, h3⟩ | ⟨r, a, b, e, t1, t2, t3, h1, h2, h3⟩
  · exact .inl ⟨l, vs, h1, h2.sub hs, h3⟩
  · exact .inr (.inl ⟨l, vs, h1, hs _ _ h2, h3⟩)
  · exact .inr (.inr ⟨r, a, b, e, t1, t2, t3, h1, hs _ _ h2, h3⟩)
theorem Src.list {σ : Gh} {l : Addr} {vs : List Value} (h : LstAt σ l vs) : Src σ (.ref l) (fun i => .listIter l i) vs.length (fun i v => vs[i]? = some v) := .inl ⟨l, vs, rfl, h, rfl, rfl, fun _ _ e => e⟩
theorem Src.tuple {σ : Gh} {l : Addr} {vs : List Value} (h : σ l = some (.tuple vs)) : Src σ (.ref l) (fun i => .tupIter l i) vs.length (fun i v => vs[i]? = some v) := .inr (.inl ⟨l, vs, rfl, h, rfl, rfl, fun _ _ e => e⟩)
theorem Src.range {σ : Gh} {r : Addr} {n : Nat} {a b e : Int} {t1 t2 t3 : Tok} (h : σ r = some (.raw (rangeO a b e t1 t2 t3))) (hs : Builtin.Range.small a b e = true) (hn : Builtin.Range.rangeSize a b e = (n : Int)) :
    Src σ (.ref r) (fun i => .rangeIter (a + i * e) ((n : Int) - i) e) n (fun i v => ∃ t, v = .int (a + (i : Nat) * e) t) := .inr (.inr ⟨r, a, b, e, t1, t2, t3, rfl, h, hs, hn, rfl, fun i t => ⟨t, rfl⟩⟩)

section
variable {c : Cf} {k : Nat} {env : Env} {m : Fields} {σ : Gh} {Φ : Value → Fields → Gh → Prop} {N : Fields → Gh → Prop} {R : Value → Fields → Gh → Prop} {xv : Value} {I : Nat → AO} {n : Nat} {item : Nat → Value → Prop}
theorem src_iter (h : Src σ xv I n item) (hQ : ∀ it, σ it = none → Φ (.ref it) m (upd σ it (I 0))) : WP c (pyIter xv) Φ m σ := by
  rcases h with ⟨l, vs, rfl, h2, rfl, rfl, h3⟩ | ⟨l, vs, rfl, h2, rfl, rfl, h3⟩ | ⟨r, a, b, e, t1, t2, t3, rfl, h1, h2, h3, rfl, h4⟩
  · exact it_list h2 hQ
  · exact it_tuple h2 hQ
  · refine it_range h1 h2 fun it hit => ?_
    rw [h3]
    have := hQ it hit
    simpa using this
theorem src_next {it : Addr} {i : Nat} {Φ : Option Value → Fields → Gh → Prop} (h : Src σ xv I n item) (hit : σ it = some (I i)) (hi : i < n) (hQ : ∀ v, item i v → Φ (some v) m (upd σ it (I (i + 1)))) : WP c (pyNext (.ref it)) Φ m σ := by
  rcases h with ⟨l, vs, rfl, h2, rfl, rfl, h3⟩ | ⟨l, vs, rfl, h2, rfl, rfl, h3⟩ | ⟨r, a, b, e, t1, t2, t3, rfl, h1, h2, h3, rfl, h4⟩
  · exact nx_list hit h2 (List.getElem?_eq_getElem hi) (hQ _ (h3 _ _ (List.getElem?_eq_getElem hi)))
  · exact nx_tuple hit h2 (List.getElem?_eq_getElem hi) (hQ _ (h3 _ _ (List.getElem?_eq_getElem hi)))
  · refine nx_range hit (by omega) fun t => ?_
    have := hQ _ (h4 i t)
    have e1 : a + (i : Int) * e + e = a + ((i + 1 : Nat) : Int) * e := by rw [Int.natCast_add, Int.add_mul]; simp; omega
    have e2 : (n : Int) - i - 1 = (n : Int) - ((i + 1 : Nat) : Int) := by omega
    rw [e1, e2]
    exact this
theorem src_end {it : Addr} {Φ : Option Value → Fields → Gh → Prop} (C : Cx c k) (h : Src σ xv I n item) (hit : σ it = some (I n)) (hQ : Φ none m (fun a => if a = it then none else σ a)) : WP c (pyNext (.ref it)) Φ m σ := by
  rcases h with ⟨l, vs, rfl, h2, rfl, rfl, h3⟩ | ⟨l, vs, rfl, h2, rfl, rfl, h3⟩ | ⟨r, a, b, e, t1, t2, t3, rfl, h1, h2, h3, rfl, h4⟩
  · exact nx_list_end C hit h2 (List.getElem?_eq_none (Nat.le_refl _)) hQ
  · exact nx_tuple_end C hit h2 (List.getElem?_eq_none (Nat.le_refl _)) hQ
  · exact nx_range_end C hit (by omega) hQ

theorem sub_drop_upd {τ σ : Gh} {a : Addr} {A : AO} (h : Sub (upd τ a A) σ) (ha : τ a = none) : Sub τ (fun b => if b = a then none else σ b) := Sub.drop (fun x B e => h x B (upd_ne (ne_of_none ha e) e)) ha
theorem sub_of_upd {τ σ : Gh} {a : Addr} {A : AO} (h : Sub (upd τ a A) σ) (ha : τ a = none) : Sub τ σ := fun x B e => h x B (upd_ne (ne_of_none ha e) e)
theorem sub_upd_upd {τ σ : Gh} {a : Addr} {A B : AO} (h : Sub (upd τ a A) σ) : Sub (upd τ a B) (upd σ a B) := fun x D e => by
  unfold upd at e ⊢
  split at e
  · rename_i q; rw [if_pos q]; exact e
  · rename_i q
    rw [if_neg q]
    refine h x D ?_
    unfold upd; rw [if_neg q]; exact e
theorem sub_upd {τ σ : Gh} {a : Addr} {B : AO} (h : Sub τ σ) : Sub (upd τ a B) (upd σ a B) := fun x D e => by
  unfold upd at e ⊢
  split at e
  · rename_i q; rw [if_pos q]; exact e
  · rename_i q
    rw [if_neg q]
    exact h x D e
theorem upd_comm {τ : Gh} {a b : Addr} {A B : AO} (h : a ≠ b) : upd (upd τ a A) b B = upd (upd τ b B) a A := by
  funext x
  unfold upd
  by_cases h1 : x = b
  · rw [if_pos h1, h1, if_neg (Ne.symm h)]; rw [if_pos rfl]
  · rw [if_neg h1, if_neg h1]
theorem upd_upd {τ : Gh} {a : Addr} {A B : AO} : upd (upd τ a A) a B = upd τ a B := by
  funext x
  unfold upd
  by_cases h1 : x = a
  · rw [if_pos h1, if_pos h1]
  · rw [if_neg h1, if_neg h1, if_neg h1]
theorem upd_none {τ : Gh} {a b : Addr} {A : AO} (h : τ a = none) (hn : a ≠ b) : upd τ b A a = none := by unfold upd; rw [if_neg hn]; exact h

theorem lo_src {target : Expr} {it : Addr} {i : Nat} {v : Value} {Φ : Unit → Fields → Gh → Prop} (h : Src σ xv I n item) (hit : σ it = some (I i)) (hQ : Φ () m σ) : WP c (letOwnedTupleGo target (.ref it) v) Φ m σ := lo_any hit (h.kind i) hQ

/-- a for loop over what can be walked over -/
theorem wfor_src {target : Expr} {it : Addr} {body : List Stmt} (C : Cx c k) (K : Nat → Fields → Gh → Prop) (hsrc : ∀ i m τ, K i m τ → Src τ xv I n item)
    (turn : ∀ i v m τ, i < n → item i v → K i m τ → τ it = none → WP c (assign target env v) (fun _ m σ => WS c body env (fun m' σ' => ∃ τ', K (i + 1) m' τ' ∧ τ' it = none ∧ Sub (upd τ' it (I (i + 1))) σ') R m σ) m (upd τ it (I (i + 1))))
    (fin : ∀ m τ, K n m τ → N m τ) (h0 : K 0 m σ) (hit : σ it = none) : WFor c target (.ref it) body env N R m (upd σ it (I 0)) := by
  have key : WFor c target (.ref it) body env (fun m' σ' => ∃ σ'', Sub σ'' σ' ∧ N m' σ'') R m (upd σ it (I 0)) := by
    refine wfor_ind (fun r m' σ' => ∃ i τ, r + i = n ∧ K i m' τ ∧ τ it = none ∧ Sub (upd τ it (I i)) σ') ?_ n ⟨0, σ, by omega, h0, hit, Sub.refl _⟩
    rintro r m' σ' ⟨i, τ, hr, hK, hτ, hs⟩
    have hS := (hsrc i m' τ hK).sub (sub_of_upd hs hτ)
    have hi := hs it _ (upd_same _ _ _)
    by_cases hlt : i < n
    · refine src_next hS hi hlt fun v hv => ?_
      refine lo_src (i := i + 1) ((hsrc i m' τ hK).sub (Sub.upd (sub_of_upd hs hτ) hτ)) (upd_same _ _ _) ?_
      · refine WP.weak (sub_upd_upd hs) ((turn i v m' τ hlt hv hK hτ).mono fun _ m2 σ2 hb => ?_)
        refine WP.mono hb fun f m3 σ3 hf => ?_
        cases f with
        | next =>
          obtain ⟨τ', hK', hτ', hs'⟩ := hf
          exact ⟨r - 1, by omega, i + 1, τ', by omega, hK', hτ', hs'⟩
        | ret v => exact hf
        | brk => exact hf.elim
        | cont => exact hf.elim
    · have : i = n := by omega
      subst this
      exact src_end C hS hi ⟨τ, sub_drop_upd hs hτ, fin _ _ hK⟩
  intro hp g d tk o S
  refine codeAny_mono (key hp g d tk o S) fun r s' q => ?_
  cases r with
  | error e => exact q.elim
  | ok f =>
    obtain ⟨h', tk', m', σ', e, S', hq⟩ := q
    cases f with
    | next => obtain ⟨σ'', hs, hN⟩ := hq; exact ⟨h', tk', m', σ'', e, S'.less hs, hN⟩
    | ret v => exact ⟨h', tk', m', σ', e, S', hq⟩
    | brk => exact hq.elim
    | cont => exact hq.elim

abbrev Fr3 (τ : Gh) (it : Addr) (J : AO) (D : Addr) (ys : List Value) (Cn : Addr) (mc : Fields) : Gh := upd (upd (upd τ it J) D (.xlist ys)) Cn (.ns mc)
def CompTurn (c : Cf) (env : Env) (target elt : Expr) (ifs : List Expr) (I : Nat → AO) (n : Nat) (item : Nat → Value → Prop) (it D Cn : Addr) (K : Nat → List Value → Gh → Prop) (mc : Nat → Value → Fields) (m : Fields) : Prop :=
  (∀ i v ys τ old σ' (Φ : Unit → Fields → Gh → Prop), i < n → item i v → K i ys τ → Sub τ σ' → (old = [] ∨ ∃ j u, old = mc j u) → σ' Cn = some (.ns old) → Φ () m (upd σ' Cn (.ns (mc i v))) → WP c (assign target env v) Φ m σ') ∧
  (∀ i v ys τ, i < n → item i v → K i ys τ → τ it = none → τ D = none → τ Cn = none → WP c (tests ifs env) (fun ok m1 σ1 =>
    (ok = true → WP c (eval elt env) (fun y m' σ' => m' = m ∧ ∃ τ', K (i + 1) (ys ++ [y]) τ' ∧ τ' it = none ∧ τ' D = none ∧ τ' Cn = none ∧ Sub (Fr3 τ' it (I (i + 1)) D ys Cn (mc i v)) σ') m1 σ1) ∧
    (ok = false → m1 = m ∧ ∃ τ', K (i + 1) ys τ' ∧ τ' it = none ∧ τ' D = none ∧ τ' Cn = none ∧ Sub (Fr3 τ' it (I (i + 1)) D ys Cn (mc i v)) σ1)) m (Fr3 τ it (I (i + 1)) D ys Cn (mc i v)))

theorem Fr3.core {τ σ : Gh} {it D Cn : Addr} {J : AO} {ys : List Value} {mc : Fields} (h : Sub (Fr3 τ it J D ys Cn mc) σ) (h1 : τ it = none) (h2 : τ D = none) (h3 : τ Cn = none) (a1 : it ≠ D) (a2 : it ≠ Cn) (a3 : D ≠ Cn) :
    Sub τ σ ∧ σ it = some J ∧ σ D = some (.xlist ys) ∧ σ Cn = some (.ns mc) := by
  refine ⟨fun x A e => h x A ?_, h _ _ ?_, h _ _ ?_, h _ _ (upd_same _ _ _)⟩
  · exact upd_ne (ne_of_none h3 e) (upd_ne (ne_of_none h2 e) (upd_ne (ne_of_none h1 e) e))
  · exact upd_ne a2 (upd_ne a1 (upd_same _ _ _))
  · exact upd_ne a3 (upd_same _ _ _)
theorem Fr3.of {τ σ : Gh} {it D Cn : Addr} {J : AO} {ys : List Value} {mc : Fields} (h : Sub τ σ) (h1 : σ it = some J) (h2 : σ D = some (.xlist ys)) (h3 : σ Cn = some (.ns mc)) : Sub (Fr3 τ it J D ys Cn mc) σ := fun x A e => by
  unfold Fr3 upd at e
  split at e
  · rename_i q; cases e; rw [q]; exact h3
  · split at e
    · rename_i q; cases e; rw [q]; exact h2
    · split at e
      · rename_i q; cases e; rw [q]; exact h1
      · exact h x A e

theorem wcomp_src {elt target iter : Expr} {ifs : List Expr} {scope : Scope} {p : Pos} {it D Cn : Addr} {Ψ : Fields → Gh → Prop} (C : Cx c k) (K : Nat → List Value → Gh → Prop) (mc : Nat → Value → Fields)
    (hsrc : ∀ i ys τ, K i ys τ → Src τ xv I n item) (hn : n ≤ sizeLine) (a1 : it ≠ D) (a2 : it ≠ Cn) (a3 : D ≠ Cn) (T : CompTurn c env target elt ifs I n item it D Cn K mc m)
    (fin : ∀ ys τ σ', K n ys τ → ys.length ≤ n → τ D = none → τ Cn = none → Sub τ σ' → σ' D = some (.xlist ys) → (∃ mc, σ' Cn = some (.ns mc)) → Ψ m σ')
    (h0 : K 0 [] σ) (f1 : σ it = none) (f2 : σ D = none) (f3 : σ Cn = none) : WComp c (.ListComp elt [⟨target, iter, ifs, 0⟩] scope p) (.ref it) (.ref D) env Ψ m (Fr3 σ it (I 0) D [] Cn []) := by
  refine wcomp_ind (fun r m' σ' => ∃ i ys τ old, r + i = n ∧ m' = m ∧ ys.length ≤ i ∧ K i ys τ ∧ τ it = none ∧ τ D = none ∧ τ Cn = none ∧ (old = [] ∨ ∃ j u, old = mc j u) ∧ Sub (Fr3 τ it (I i) D ys Cn old) σ') ?_ n ⟨0, [], σ, [], by omega, rfl, Nat.le_refl _, h0, f1, f2, f3, .inl rfl, Sub.refl _⟩
  rintro r m' σ' ⟨i, ys, τ, old, hr, rfl, hy, hK, g1, g2, g3, ho, hs⟩
  obtain ⟨s1, s2, s3, s4⟩ := Fr3.core hs g1 g2 g3 a1 a2 a3
  have hS := hsrc i ys τ hK
  by_cases hlt : i < n
  · refine src_next (hS.sub s1) s2 hlt fun v hv => ?_
    refine lo_src (i := i + 1) (hS.sub (Sub.upd s1 g1)) (upd_same _ _ _) ?_
    refine T.1 i v ys τ old _ _ hlt hv hK (Sub.upd s1 g1) ho (upd_ne a2.symm s4) ?_
    have hs2 : Sub (Fr3 τ it (I (i + 1)) D ys Cn (mc i v)) (upd (upd σ' it (I (i + 1))) Cn (.ns (mc i v))) := by
      refine Fr3.of (Sub.upd (Sub.upd s1 g1) g3) (upd_ne a2 (upd_same _ _ _)) (upd_ne a3 (upd_ne a1.symm s3)) (upd_same _ _ _)
    refine WP.weak hs2 ((T.2 i v ys τ hlt hv hK g1 g2 g3).mono fun ok m1 σ1 q => ⟨fun hok => ?_, fun hok => ?_⟩)
    · refine (q.1 hok).mono fun y m2 σ2 q2 => ?_
      obtain ⟨rfl, τ', b1, b2, b3, b4, b5⟩ := q2
      obtain ⟨t1, t2, t3, t4⟩ := Fr3.core b5 b2 b3 b4 a1 a2 a3
      refine append_x t3 (by omega) ⟨r - 1, by omega, i + 1, ys ++ [y], τ', mc i v, by omega, rfl, by simp; omega, b1, b2, b3, b4, .inr ⟨_, _, rfl⟩, ?_⟩
      exact Fr3.of (Sub.upd t1 b3) (upd_ne a1 t2) (upd_same _ _ _) (upd_ne a3.symm t4)
    · obtain ⟨rfl, τ', b1, b2, b3, b4, b5⟩ := q.2 hok
      exact ⟨r - 1, by omega, i + 1, ys, τ', mc i v, by omega, rfl, by omega, b1, b2, b3, b4, .inr ⟨_, _, rfl⟩, b5⟩
  · have : i = n := by omega
    subst this
    refine src_end C (hS.sub s1) s2 (fin ys τ _ hK hy g2 g3 (Sub.drop s1 g1) ?_ ⟨old, ?_⟩)
    · show (if D = it then none else σ' D) = _
      rw [if_neg a1.symm]; exact s3
    · show (if Cn = it then none else σ' Cn) = _
      rw [if_neg a2.symm]; exact s4

def CompAll (c : Cf) (env : Env) (scope : Scope) (cl : List (Str × Addr)) (target elt : Expr) (ifs : List Expr) (Φ : Value → Fields → Gh → Prop) (xv : Value) (m : Fields) (σ : Gh) : Prop :=
  ∃ I n item K mc, n ≤ sizeLine ∧ K 0 [] σ ∧ (∀ i ys τ, K i ys τ → Src τ xv I n item) ∧
    (∀ it D Cn, σ it = none → σ D = none → σ Cn = none → it ≠ D → it ≠ Cn → D ≠ Cn → CompTurn c (compEnvC scope cl Cn env) target elt ifs I n item it D Cn K mc m) ∧ (∀ ys τ, K n ys τ → ys.length ≤ n → ∀ D, τ D = none → Φ (.ref D) m (upd τ D (.xlist ys)))

theorem none_of_upd {a b : Addr} {A : AO} (h : upd σ b A a = none) : a ≠ b ∧ σ a = none := by
  unfold upd at h
  split at h
  · cases h
  · rename_i q; exact ⟨q, h⟩
theorem wp_compS {elt target iter : Expr} {ifs : List Expr} {scope : Scope} {p : Pos} (C : Cx c k) (cl : List (Str × Addr))
    (h : WP c (eval iter env) (fun xv m σ => CompAll c env scope cl target elt ifs Φ xv m σ) m σ)
    (hclos : closureFor scope env = pure cl) (hcell : ∀ y ∈ scope.names, y.2 ≠ .cell) (hkind : scope.kind = .function) (hnames : ∀ y ∈ scope.names, y.2 = .local → scope.names.lookup y.1 = some .local)
    (hs : ∀ x, foldedSetIterable iter env x = pure x := by intro _; rfl) : WP c (eval (.ListComp elt [⟨target, iter, ifs, 0⟩] scope p) env) Φ m σ := by
  refine WP.forget (wp_comp cl hclos hcell hkind hnames (h.mono fun xv m1 σ1 q => ?_) hs)
  obtain ⟨I, n, item, K, mc, hn, hK, hsrc, hT, hfin⟩ := q
  refine src_iter (hsrc _ _ _ hK) fun it hit => ⟨it, I 0, rfl, upd_same _ _ _, (hsrc _ _ _ hK).kind 0, fun D Cn hD hC hDC => ?_⟩
  obtain ⟨d1, d2⟩ := none_of_upd hD
  obtain ⟨e1, e2⟩ := none_of_upd hC
  refine wcomp_src C K mc hsrc hn d1.symm e1.symm hDC (hT it D Cn hit d2 e2 d1.symm e1.symm hDC) (fun ys τ σ' b1 b2 b3 b4 b5 b6 b7 => ⟨b7, upd τ D (.xlist ys), fun x A e => ?_, hfin ys τ b1 b2 D b3⟩) hK hit d2 e2
  show (if x = Cn then none else σ' x) = some A
  unfold upd at e
  split at e
  · rename_i q; rw [q, if_neg hDC, b6, e]
  · rw [if_neg (ne_of_none b4 e)]; exact b5 _ _ e

theorem WE.forget {st : Stmt} (h : WE c st env (fun m' σ' => ∃ σ'', Sub σ'' σ' ∧ N m' σ'') R m σ) : WE c st env N R m σ := by
  refine WP.forget (WP.mono h fun f m' σ' q => ?_)
  cases f with
  | next => obtain ⟨σ'', hs, hN⟩ := q; exact ⟨σ'', hs, hN⟩
  | ret v => exact ⟨σ', Sub.refl _, q⟩
  | brk => exact q.elim
  | cont => exact q.elim
theorem we_compS {elt target iter : Expr} {ifs : List Expr} {scope : Scope} {p p' : Pos} {x : Str} {px : Pos} (C : Cx c k) (he : Ev c env) (cl : List (Str × Addr))
    (h : WP c (eval iter env) (fun xv m σ => CompAll c env scope cl target elt ifs (fun v m σ => N (setF m x v) σ) xv m σ) m σ)
    (hl : env.kindOf x = some .local) (hsw : swapsWith (.ListComp elt [⟨target, iter, ifs, 0⟩] scope p) (some (.Name x px)) p'.line env = pure true)
    (hclos : closureFor scope env = pure cl) (hcell : ∀ y ∈ scope.names, y.2 ≠ .cell) (hkind : scope.kind = .function) (hnames : ∀ y ∈ scope.names, y.2 = .local → scope.names.lookup y.1 = some .local)
    (hs : ∀ x, foldedSetIterable iter env x = pure x := by intro _; rfl) : WE c (.Assign [.Name x px] (.ListComp elt [⟨target, iter, ifs, 0⟩] scope p) p') env N R m σ := by
  refine WE.forget (we_comp cl hsw hclos hcell hkind hnames (h.mono fun xv m1 σ1 q => ?_) hs)
  obtain ⟨I, n, item, K, mc, hn, hK, hsrc, hT, hfin⟩ := q
  refine src_iter (hsrc _ _ _ hK) fun it hit => ⟨it, I 0, rfl, upd_same _ _ _, (hsrc _ _ _ hK).kind 0, fun D Cn hD hC hDC => ?_⟩
  obtain ⟨d1, d2⟩ := none_of_upd hD
  obtain ⟨e1, e2⟩ := none_of_upd hC
  refine wcomp_src C K mc hsrc hn d1.symm e1.symm hDC (hT it D Cn hit d2 e2 d1.symm e1.symm hDC) (fun ys τ σ' b1 b2 b3 b4 b5 b6 b7 => ?_) hK hit d2 e2
  refine wp_store he hl ⟨b7, upd τ D (.xlist ys), fun x A e => ?_, hfin ys τ b1 b2 D b3⟩
  show (if x = Cn then none else σ' x) = some A
  unfold upd at e
  split at e
  · rename_i q; rw [q, if_neg hDC, b6, e]
  · rw [if_neg (ne_of_none b4 e)]; exact b5 _ _ e

theorem we_forS {target iter : Expr} {body : List Stmt} {p : Pos} (C : Cx c k)
    (h : WP c (eval iter env) (fun xv m σ => ∃ I n item, ∃ K : Nat → Fields → Gh → Prop, K 0 m σ ∧ (∀ i m τ, K i m τ → Src τ xv I n item) ∧
      (∀ it, σ it = none → ∀ i v m τ, i < n → item i v → K i m τ → τ it = none → WP c (assign target env v) (fun _ m σ => WS c body env (fun m' σ' => ∃ τ', K (i + 1) m' τ' ∧ τ' it = none ∧ Sub (upd τ' it (I (i + 1))) σ') R m σ) m (upd τ it (I (i + 1)))) ∧
      (∀ m τ, K n m τ → N m τ)) m σ)
    (hs : ∀ x, foldedSetIterable iter env x = pure x := by intro _; rfl) : WE c (.For target iter body [] p) env N R m σ := by
  refine we_for (h.mono fun xv m1 σ1 q => ?_) hs
  obtain ⟨I, n, item, K, hK, hsrc, hT, hfin⟩ := q
  exact src_iter (hsrc _ _ _ hK) fun it hit => wfor_src C K hsrc (hT it hit) hfin hK hit

theorem nc_local {x : Str} {p : Pos} {v : Value} {scope : Scope} {cl : List (Str × Addr)} {C : Addr} {mc : Fields} (he : Ev c env) (hk : scope.kind = .function) (hl : (compEnvC scope cl C env).kindOf x = some .local) (hm : σ C = some (.ns mc)) (hv : lk mc x = some v) (h : Φ v m σ) (hd' : (x == ("__debug__" : Str)) = false := by decide) : WP c (eval (.Name x p) (compEnvC scope cl C env)) Φ m σ :=
  ng_local (he.eg.comp hk) hl rfl hm hv h hd'

theorem asg_name {x : Str} {p : Pos} {scope : Scope} {cl : List (Str × Addr)} {Cn : Addr} {K : Nat → List Value → Gh → Prop} (he : Ev c env) (hk : scope.kind = .function) (hl : (compEnvC scope cl Cn env).kindOf x = some .local) :
    ∀ i v ys τ old σ' (Φ : Unit → Fields → Gh → Prop), i < n → item i v → K i ys τ → Sub τ σ' → (old = [] ∨ ∃ j u, old = (fun (_ : Nat) (v : Value) => [(x, v)]) j u) → σ' Cn = some (.ns old) → Φ () m (upd σ' Cn (.ns ((fun (_ : Nat) (v : Value) => [(x, v)]) i v))) →
      WP c (assign (.Name x p) (compEnvC scope cl Cn env) v) Φ m σ' := by
  intro i v ys τ old σ' Φ hi hv hK hs ho hc h
  refine as_store (sg_local (he.eg.comp hk) hl rfl hc ?_)
  rcases ho with rfl | ⟨j, u, rfl⟩
  · exact h
  · have e : setF [(x, u)] x v = [(x, v)] := by rw [setF_cons]; simp
    show Φ () m (upd σ' Cn (.ns (setF [(x, u)] x v)))
    rw [e]; exact h
/-- a fresh thing, beside the three -/
theorem Fr3.new {τ : Gh} {it D Cn b : Addr} {J : AO} {ys : List Value} {mc : Fields} {B : AO} (hb : Fr3 τ it J D ys Cn mc b = none) : Sub (Fr3 (upd τ b B) it J D ys Cn mc) (upd (Fr3 τ it J D ys Cn mc) b B) ∧ τ b = none ∧ b ≠ it ∧ b ≠ D ∧ b ≠ Cn := by
  obtain ⟨h1, h2⟩ := none_of_upd hb
  obtain ⟨h3, h4⟩ := none_of_upd h2
  obtain ⟨h5, h6⟩ := none_of_upd h4
  refine ⟨?_, h6, h5, h3, h1⟩
  show Sub (upd (upd (upd (upd τ b B) it J) D (.xlist ys)) Cn (.ns mc)) _
  rw [upd_comm h5, upd_comm h3, upd_comm h1]
  exact Sub.refl _
end
end Mine
namespace Mine
section
variable {c : Cf} {k : Nat} {m : Fields} {σ ρ : Gh} {b rl : Addr} {cs : List Gy} {i : Nat} {q : Gy}
theorem Sub.new {σ σ' : Gh} {a : Addr} {A : AO} (h : Sub σ σ') (ha : σ' a = none) : Sub σ (Mine.upd σ' a A) := h.upd (h.none_of ha)
theorem lt_of_ble {n m : Nat} (h : Nat.ble (n + 1) m = true) : n < m := Nat.le_of_ble_eq_true h
theorem upd_eq_self {a : Addr} {A : AO} (h : σ a = some A) : upd σ a A = σ := by
  funext x; unfold upd; split
  · rename_i e; rw [e, h]
  · rfl
theorem sa_new {x d cl : Addr} {fs : Fields} {name : Str} {v : Value} {Φ : Unit → Fields → Gh → Prop} (C : Cx c k) (hxd : x ≠ d) (hcl : attrSet c.w cl name = true) (hlen : fs.length < 900)
    (h : Φ () m (upd (upd σ d (.attrs (setF fs name v))) x (.inst cl d))) : WP c (setAttr (.ref x) name v) Φ m (upd (upd σ d (.attrs fs)) x (.inst cl d)) := by
  refine sa_inst C (upd_same _ _ _) (upd_ne hxd.symm (upd_same _ _ _)) hcl hlen ?_
  rw [upd_comm hxd, upd_upd]
  exact h
theorem gs_new {x d cl : Addr} {fs : Fields} (hxd : x ≠ d) : InstF (upd (upd σ d (.attrs fs)) x (.inst cl d)) x cl fs := ⟨d, upd_same _ _ _, upd_ne hxd.symm (upd_same _ _ _)⟩

theorem attrs_ne {a d : Addr} {fs : Fields} {A : AO} (h1 : σ a = some A) (h2 : σ d = some (.attrs fs)) (hA : A ≠ .attrs fs) : a ≠ d := fun e => by rw [e, h2] at h1; exact hA (Option.some.inj h1).symm
theorem LstAt.ne {l d : Addr} {vs : List Value} {A : AO} (h : LstAt σ l vs) (h2 : σ d = Option.some A) (hA : ∀ vs, A ≠ .list vs ∧ A ≠ .xlist vs) : l ≠ d := fun e => by
  rcases h with h | h
  · rw [e, h2] at h; exact (hA vs).1 (Option.some.inj h)
  · rw [e, h2] at h; exact (hA vs).2 (Option.some.inj h)

theorem Wd.setv (W : Wd ρ σ b rl cs) (hi : cs[i]? = some q) (v' : IV) : Wd ρ (upd σ q.d (.attrs v'.fs)) b rl (cs.set i { q with v := v' }) := by
  obtain ⟨hlt, hq⟩ := List.getElem?_eq_some_iff.mp hi
  obtain ⟨_, hmem, hat⟩ := W.get hi
  have hm : ∀ (β : Type) (f : Gy → β), (f { q with v := v' } = f q) → (cs.set i { q with v := v' }).map f = cs.map f := by
    intro β f hf
    rw [List.map_set, hf]
    apply List.ext_getElem?
    intro j
    rw [List.getElem?_set]
    split
    · rename_i e
      subst e
      split
      · rw [List.getElem?_map, hi]; rfl
      · rename_i h; exact absurd (by simpa using hlt) h
    · rfl
  have hinst : ∀ x cl fs, InstF σ x cl fs → fs ≠ q.v.fs → InstF (upd σ q.d (.attrs v'.fs)) x cl fs := by
    rintro x cl fs ⟨d, h1, h2⟩ hne
    exact ⟨d, upd_ne (attrs_ne h1 hat.2 (by simp)) h1, upd_ne (attrs_ne h2 hat.2 (by simpa using hne)) h2⟩
  refine ⟨W.sub.upd (W.dis q hmem), ⟨?_, ?_, ?_, ?_⟩, ?_, W.disl, by rw [List.length_set]; exact W.size⟩
  · obtain ⟨t, hb⟩ := W.buf.buf
    exact ⟨t, hinst _ _ _ hb (by intro e; simp [IV.fs] at e)⟩
  · rw [hm _ (fun q => Value.ref q.x) rfl]
    exact W.buf.row.upd (W.buf.row.ne hat.2 (by simp))
  · intro q' hq'
    obtain ⟨j, hj⟩ := List.getElem?_of_mem hq'
    rw [List.getElem?_set] at hj
    split at hj
    · try rw [if_pos hlt] at hj
      cases hj
      exact ⟨upd_ne (attrs_ne hat.1 hat.2 (by simp)) hat.1, upd_same _ _ _⟩
    · rename_i hne
      have hm' := List.mem_of_getElem? hj
      have h' := W.buf.cells q' hm'
      have hdd : q'.d ≠ q.d := by
        intro e
        have hn := W.buf.nodup
        have e1 : (cs.map (·.d))[j]? = some q'.d := by rw [List.getElem?_map, hj]; rfl
        have e2 : (cs.map (·.d))[i]? = some q.d := by rw [List.getElem?_map, hi]; rfl
        obtain ⟨l1, e1⟩ := List.getElem?_eq_some_iff.mp e1
        obtain ⟨l2, e2⟩ := List.getElem?_eq_some_iff.mp e2
        have hp := List.pairwise_iff_getElem.mp hn
        rcases Nat.lt_or_gt_of_ne hne with hlt' | hlt'
        · exact hp i j l2 l1 hlt' (e2.trans (e.symm.trans e1.symm))
        · exact hp j i l1 l2 hlt' (e1.trans (e.trans e2.symm))
      exact ⟨upd_ne (attrs_ne h'.1 hat.2 (by simp)) h'.1, upd_ne hdd h'.2⟩
  · rw [hm _ (·.d) rfl]; exact W.buf.nodup
  · intro q' hq'
    have : q'.d ∈ (cs.set i { q with v := v' }).map (·.d) := List.mem_map.mpr ⟨q', hq', rfl⟩
    rw [hm _ (·.d) rfl] at this
    obtain ⟨q2, h2, e⟩ := List.mem_map.mp this
    rw [← e]; exact W.dis q2 h2

/-- the same glyphs, in the same places -/
def kk (q : Gy) : Addr × Addr × Int × Int := (q.x, q.d, q.v.g, q.v.ms)
theorem kk_set (hi : cs[i]? = some q) {v' : IV} (h1 : v'.g = q.v.g) (h2 : v'.ms = q.v.ms) : (cs.set i { q with v := v' }).map kk = cs.map kk := by
  rw [List.map_set]
  apply List.ext_getElem?
  intro j
  rw [List.getElem?_set]
  split
  · rename_i e
    subst e
    split
    · rw [List.getElem?_map, hi]
      simp [kk, h1, h2]
    · rename_i h
      rw [List.getElem?_map, hi] 
      have hlt := (List.getElem?_eq_some_iff.mp hi).1
      exact absurd (by simpa using hlt) h
  · rfl
theorem kk_get {cs' : List Gy} (h : cs'.map kk = cs.map kk) (hi : cs[i]? = some q) : ∃ q', cs'[i]? = some q' ∧ q'.x = q.x ∧ q'.d = q.d ∧ q'.v.g = q.v.g ∧ q'.v.ms = q.v.ms := by
  have e : (cs'.map kk)[i]? = some (kk q) := by rw [h, List.getElem?_map, hi]; rfl
  rw [List.getElem?_map] at e
  cases e2 : cs'[i]? with
  | none => rw [e2] at e; cases e
  | some q' =>
    rw [e2] at e
    simp only [Option.map_some, Option.some.injEq, kk, Prod.mk.injEq] at e
    exact ⟨q', rfl, e⟩
theorem kk_len {cs' : List Gy} (h : cs'.map kk = cs.map kk) : cs'.length = cs.length := by simpa using congrArg List.length h
theorem kk_map {β : Type} {cs' : List Gy} (h : cs'.map kk = cs.map kk) (f : Addr × Addr × Int × Int → β) : cs'.map (fun q => f (kk q)) = cs.map (fun q => f (kk q)) := by
  have := congrArg (List.map f) h
  rw [List.map_map, List.map_map] at this
  exact this
theorem Wd.new {a : Addr} {A : AO} (W : Wd ρ σ b rl cs) (ha : σ a = none) : Wd (upd ρ a A) (upd σ a A) b rl cs := by
  have hs : Sub σ (upd σ a A) := (Sub.refl _).upd ha
  exact ⟨sub_upd W.sub, W.buf.sub hs, fun q hq => upd_none (W.dis q hq) (ne_of_none ha (W.buf.cells q hq).2), upd_none W.disl (by
    obtain ⟨A, hA⟩ := W.buf.row.some
    exact ne_of_none ha hA), W.size⟩
theorem Wd.less {ρ' : Gh} (W : Wd ρ σ b rl cs) (h : Sub ρ' ρ) : Wd ρ' σ b rl cs := ⟨h.trans W.sub, W.buf, fun q hq => h.none_of (W.dis q hq), h.none_of W.disl, W.size⟩
/-- a change of one cell -/
theorem sa_gy {name : Str} {v : Value} {Φ : Unit → Fields → Gh → Prop} (C : Cx c k) (hq : q.At σ) (v' : IV) (hf : setF q.v.fs name v = v'.fs) (hcl : attrSet c.w 142 name = true)
    (h : Φ () m (upd σ q.d (.attrs v'.fs))) : WP c (setAttr (.ref q.x) name v) Φ m σ := by
  refine sa_inst C hq.1 hq.2 hcl (by simp [IV.fs]) ?_
  rw [hf]; exact h

theorem pick_len (l : List Value) (lo hi : Option Int) : (kms_pick l lo hi).length ≤ l.length := by
  unfold kms_pick; rw [List.length_take, List.length_drop]; omega
theorem pick_get {l : List Value} {lo hi : Option Int} {j : Nat} {v : Value} (h : (kms_pick l lo hi)[j]? = some v) : ∃ i : Nat, l[i]? = some v := by
  obtain ⟨hlt, e⟩ := List.getElem?_eq_some_iff.mp h
  have : v ∈ kms_pick l lo hi := e ▸ List.getElem_mem _
  exact List.getElem?_of_mem (List.mem_of_mem_drop (List.mem_of_mem_take this))
theorem pick_gy {lo hi : Option Int} {j : Nat} {v : Value} (h : (kms_pick (cs.map fun q => Value.ref q.x) lo hi)[j]? = some v) : ∃ (i : Nat) (q : Gy), cs[i]? = some q ∧ v = .ref q.x := by
  obtain ⟨i, hi⟩ := pick_get h
  rw [List.getElem?_map] at hi
  cases e : cs[i]? with
  | none => rw [e] at hi; cases hi
  | some q => rw [e] at hi; exact ⟨i, q, e, (Option.some.inj hi).symm⟩

theorem Wd.setrow {cs' : List Gy} (W : Wd ρ σ b rl cs) (hcs : ∀ q ∈ cs', q.At σ ∧ ρ q.d = none) (hn : (cs'.map (·.d)).Nodup) (hz : cs'.length < 1000) : Wd ρ (upd σ rl (.list (cs'.map fun q => .ref q.x))) b rl cs' := by
  obtain ⟨A, hA⟩ := W.buf.row.some
  have hne : ∀ {a : Addr} {B : AO}, σ a = some B → (∀ vs, B ≠ .list vs ∧ B ≠ .xlist vs) → a ≠ rl := fun h1 h2 e => by subst e; exact (W.buf.row.ne h1 h2) rfl
  refine ⟨W.sub.upd W.disl, ⟨?_, .inl (upd_same _ _ _), fun q hq => ?_, hn⟩, fun q hq => (hcs q hq).2, W.disl, hz⟩
  · obtain ⟨t, d, h1, h2⟩ := W.buf.buf
    exact ⟨t, d, upd_ne (hne h1 (by simp)) h1, upd_ne (hne h2 (by simp)) h2⟩
  · obtain ⟨⟨h1, h2⟩, _⟩ := hcs q hq
    exact ⟨upd_ne (hne h1 (by simp)) h1, upd_ne (hne h2 (by simp)) h2⟩
theorem cp_eq_ints {a d : Addr} {vs us : List Value} {ns ms : List Int} {Φ : Value → Fields → Gh → Prop} (C : Cx c (k + 3)) (h1 : LstAt σ a vs) (h2 : IntsAre vs ns) (h3 : LstAt σ d us) (h4 : IntsAre us ms) (h : Φ (.bool (decide (ns = ms))) m σ) : WP c (compareOp .Eq (.ref a) (.ref d)) Φ m σ := fun hp g dd tk o S =>
  eq_intsK (h1.isList S) h2 (h3.isList S) h4 (by have := C.units; omega) ⟨hp, tk, m, σ, rfl, S, h⟩

theorem gy_pred {e : Nat} (he : 0 < e) (hi : cs[e - 1]? = some q) : (cs.map fun q => Value.ref q.x)[((e : Int) - 1).toNat]? = some (.ref q.x) := by
  have : ((e : Int) - 1).toNat = e - 1 := by omega
  rw [this, List.getElem?_map, hi]; rfl
theorem gy_ex {e : Nat} (he : e < cs.length) : ∃ q, cs[e]? = some q := ⟨_, List.getElem?_eq_getElem he⟩
end
end Mine
namespace Mine
section
variable {c : Cf} {k : Nat} {env : Env} {m : Fields} {σ ρ : Gh} {Φ : Value → Fields → Gh → Prop}
theorem nc_free {x : Str} {p : Pos} {v : Value} {a : Addr} {scope : Scope} {cl : List (Str × Addr)} {C : Addr} (he : Ev c env) (hk : scope.kind = .function) (hl : (compEnvC scope cl C env).kindOf x = some .free) (ha : (compEnvC scope cl C env).cells.lookup x = some a) (hv : σ a = some (.cell (some v))) (h : Φ v m σ) (hd' : (x == ("__debug__" : Str)) = false := by decide) (hn : (x == ("__classdict__" : Str)) = false := by decide) : WP c (eval (.Name x p) (compEnvC scope cl C env)) Φ m σ :=
  ng_free (he.eg.comp hk) hl ha hv h hd' hn
theorem nc_cell {x : Str} {p : Pos} {v : Value} {a : Addr} {scope : Scope} {cl : List (Str × Addr)} {C : Addr} (he : Ev c env) (hk : scope.kind = .function) (hl : (compEnvC scope cl C env).kindOf x = some .cell) (ha : (compEnvC scope cl C env).cells.lookup x = some a) (hv : σ a = some (.cell (some v))) (h : Φ v m σ) (hd' : (x == ("__debug__" : Str)) = false := by decide) : WP c (eval (.Name x p) (compEnvC scope cl C env)) Φ m σ :=
  ng_cell (he.eg.comp hk) hl ha hv h hd'

theorem nd_no {l : Addr} {kvs : List (Int × Value)} {j : Int} {t : Tok} (hl : σ l = some (.idict kvs)) (e : valueAt kvs j = none) (h : Φ (.bool true) m σ) : WP c (compareOp .NotIn (.int j t) (.ref l)) Φ m σ := notin_dict hl (by rw [e]; exact h)
theorem nd_yes {l : Addr} {kvs : List (Int × Value)} {j : Int} {t : Tok} {v : Value} (hl : σ l = some (.idict kvs)) (e : valueAt kvs j = some v) (h : Φ (.bool false) m σ) : WP c (compareOp .NotIn (.int j t) (.ref l)) Φ m σ := notin_dict hl (by rw [e]; exact h)
theorem id_no {l : Addr} {kvs : List (Int × Value)} {j : Int} {t : Tok} (hl : σ l = some (.idict kvs)) (e : valueAt kvs j = none) (h : Φ (.bool false) m σ) : WP c (compareOp .In (.int j t) (.ref l)) Φ m σ := in_dict hl (by rw [e]; exact h)
theorem id_yes {l : Addr} {kvs : List (Int × Value)} {j : Int} {t : Tok} {v : Value} (hl : σ l = some (.idict kvs)) (e : valueAt kvs j = some v) (h : Φ (.bool true) m σ) : WP c (compareOp .In (.int j t) (.ref l)) Φ m σ := in_dict hl (by rw [e]; exact h)
theorem gd_no {l : Addr} {kvs : List (Int × Value)} {j : Int} {t : Tok} {dv : Value} (hl : σ l = some (.idict kvs)) (e : valueAt kvs j = none) (h : Φ dv m σ) : WP c (call (.builtin "dict.get") [.ref l, .int j t, dv]) Φ m σ := get_dict hl (by rw [e]; exact h)
theorem gd_yes {l : Addr} {kvs : List (Int × Value)} {j : Int} {t : Tok} {dv v : Value} (hl : σ l = some (.idict kvs)) (e : valueAt kvs j = some v) (h : Φ v m σ) : WP c (call (.builtin "dict.get") [.ref l, .int j t, dv]) Φ m σ := get_dict hl (by rw [e]; exact h)

variable {b rl : Addr} {cs : List Gy} {i : Nat} {q : Gy}
theorem Wd.updx {F : Addr} {vs : List Value} {A : AO} (W : Wd ρ σ b rl cs) (hF : σ F = some (.xlist vs)) (hne : F ≠ rl) (hρ : ρ F = none) : Wd ρ (upd σ F A) b rl cs := by
  have ne : ∀ {a : Addr} {B : AO}, σ a = some B → B ≠ .xlist vs → a ≠ F := fun h1 h2 e => by rw [e, hF] at h1; exact h2 (Option.some.inj h1).symm
  refine ⟨W.sub.upd hρ, ⟨?_, W.buf.row.upd hne.symm, fun q hq => ?_, W.buf.nodup⟩, W.dis, W.disl, W.size⟩
  · obtain ⟨t, d, h1, h2⟩ := W.buf.buf
    exact ⟨t, d, upd_ne (ne h1 (by simp)) h1, upd_ne (ne h2 (by simp)) h2⟩
  · have := W.buf.cells q hq
    exact ⟨upd_ne (ne this.1 (by simp)) this.1, upd_ne (ne this.2 (by simp)) this.2⟩
theorem cp_eq_nil {a d : Addr} {vs : List Value} (C : Cx c k) (h1 : LstAt σ a vs) (h3 : LstAt σ d []) (h : Φ (.bool vs.isEmpty) m σ) : WP c (compareOp .Eq (.ref a) (.ref d)) Φ m σ := fun hp g dd tk o S => by
  have hu : c.A.units < cLine := by have := C.units; omega
  cases vs with
  | nil => exact PySem.SeqAt.eq_listAt (e := fun _ => true) (h1.isList S) (h3.isList S) rfl hu (fun j h1 _ => absurd h1 (by simp)) ⟨hp, tk, m, σ, rfl, S, h⟩
  | cons v r => exact PySem.SeqAt.eq_list_lengthsAt (h1.isList S) (h3.isList S) (by simp) hu ⟨hp, tk, m, σ, rfl, S, h⟩
theorem cp_eq_unit {a d : Addr} (C : Cx c k) (h1 : σ a = some (.tuple [])) (h3 : σ d = some (.tuple [])) (h : Φ (.bool true) m σ) : WP c (compareOp .Eq (.ref a) (.ref d)) Φ m σ := fun hp g dd tk o S => by
  have hu : c.A.units < cLine := by have := C.units; omega
  obtain ⟨o1, ho1, e1, n1, e1'⟩ := S.at_ h1
  obtain ⟨o2, ho2, e2, n2, e2'⟩ := S.at_ h3
  exact PySem.SeqAt.eq_tupleAt (e := fun _ => true) ⟨o1, ho1, e1, n1, e1'⟩ ⟨o2, ho2, e2, n2, e2'⟩ hu (fun j h1 _ => absurd h1 (by simp)) ⟨hp, tk, m, σ, rfl, S, h⟩
def gm (q : Gy) : Int × Int := (q.v.g, q.v.ms)
theorem gm_of_kk {cs' : List Gy} (h : cs'.map kk = cs.map kk) : cs'.map gm = cs.map gm := kk_map h fun p => (p.2.2.1, p.2.2.2)
def splice (l : List (Int × Int)) (i : Nat) (ps : List Int) (ms : Int) : List (Int × Int) := l.take i ++ ps.map (fun g => (g, ms)) ++ l.drop (i + 1)
theorem gm_set (hi : cs[i]? = some q) (v' : IV) (h2 : v'.ms = q.v.ms) : (cs.set i { q with v := v' }).map gm = splice (cs.map gm) i [v'.g] q.v.ms := by
  obtain ⟨hlt, hq⟩ := List.getElem?_eq_some_iff.mp hi
  unfold splice
  rw [List.map_set, List.set_eq_take_append_cons_drop, if_pos (by simpa using hlt)]
  simp [gm, h2]
end
end Mine
namespace Mine
section
variable {c : Cf} {k : Nat} {env : Env} {m : Fields} {σ ρ : Gh} {Φ : Value → Fields → Gh → Prop} {b rl : Addr} {cs : List Gy} {i : Nat} {q : Gy}
/-- all but the row and the cells -/
def rest (σ : Gh) (rl : Addr) (cs : List Gy) : Gh := fun a => if a = rl ∨ a ∈ cs.map (·.d) then none else σ a
theorem Wd.max (W : Wd ρ σ b rl cs) : Wd (rest σ rl cs) σ b rl cs ∧ Sub ρ (rest σ rl cs) := by
  refine ⟨⟨fun a A e => ?_, W.buf, fun q hq => ?_, ?_, W.size⟩, fun a A e => ?_⟩
  · unfold rest at e; split at e
    · cases e
    · exact e
  · unfold rest; rw [if_pos (.inr (List.mem_map.mpr ⟨q, hq, rfl⟩))]
  · unfold rest; rw [if_pos (.inl rfl)]
  · unfold rest
    rw [if_neg ?_]
    · exact W.sub a A e
    · rintro (rfl | h)
      · rw [W.disl] at e; cases e
      · obtain ⟨q, hq, rfl⟩ := List.mem_map.mp h
        rw [W.dis q hq] at e; cases e
theorem Wd.rest_get (W : Wd ρ σ b rl cs) {a : Addr} {A : AO} (e : σ a = some A) (h1 : ∀ vs, A ≠ .list vs ∧ A ≠ .xlist vs) (h2 : ∀ v : IV, A ≠ .attrs v.fs) : rest σ rl cs a = some A := by
  unfold rest
  rw [if_neg ?_]
  · exact e
  · rintro (rfl | h)
    · exact (W.buf.row.ne e h1) rfl
    · obtain ⟨q, hq, rfl⟩ := List.mem_map.mp h
      have := (W.buf.cells q hq).2
      rw [e] at this
      exact h2 _ (Option.some.inj this)
theorem Wd.rest_inst (W : Wd ρ σ b rl cs) {x cl : Addr} {fs : Fields} (h : InstF σ x cl fs) (hne : ∀ v : IV, fs ≠ v.fs) : InstF (rest σ rl cs) x cl fs := by
  obtain ⟨d, h1, h2⟩ := h
  exact ⟨d, W.rest_get h1 (by simp) (by simp), W.rest_get h2 (by simp) (fun v e => hne v (AO.attrs.inj e))⟩

theorem lo_nat {n : Nat} (h : i ≤ n) : kms_lo (some (i : Int)) n = i := by simp only [kms_lo]; split <;> omega
theorem hi_nat {n : Nat} (h : i < n) : kms_hi (some ((i : Int) + 1)) n = i + 1 := by simp only [kms_hi]; split <;> omega
theorem set_row1 {b2 a : Addr} {new : List Gy} {t t' : Tok} {Φ : Unit → Fields → Gh → Prop} (B : Wd ρ σ b rl cs) (hlt : i < cs.length) (hb : LstAt σ b2 (new.map fun q => .ref q.x)) (hne : rl ≠ b2) (ha : σ a = some (.raw (sliceO (.int i t) (.int ((i : Int) + 1) t'))))
    (hnew : ∀ q ∈ new, q.At σ ∧ ρ q.d = none) (hnd : ((cs.take i ++ new ++ cs.drop (i + 1)).map (·.d)).Nodup) (hz : (cs.take i ++ new ++ cs.drop (i + 1)).length < 1000) (hn10 : new.length < 10)
    (h : Wd ρ (upd σ rl (.list ((cs.take i ++ new ++ cs.drop (i + 1)).map fun q => .ref q.x))) b rl (cs.take i ++ new ++ cs.drop (i + 1)) → Φ () m (upd σ rl (.list ((cs.take i ++ new ++ cs.drop (i + 1)).map fun q => .ref q.x)))) :
    WP c (setItem (.ref rl) (.ref a) (.ref b2)) Φ m σ := by
  refine set_slice B.buf.row hb ha (.int _ _) (.int _ _) (by rw [List.length_map, List.length_map, sizeLine_eq]; have := B.size; omega) hne ?_
  have e : ((cs.map fun q => Value.ref q.x).take (kms_lo (some (i : Int)) (cs.map fun q => Value.ref q.x).length) ++ new.map (fun q => Value.ref q.x) ++ (cs.map fun q => Value.ref q.x).drop (max (kms_lo (some (i : Int)) (cs.map fun q => Value.ref q.x).length) (kms_hi (some ((i : Int) + 1)) (cs.map fun q => Value.ref q.x).length))) =
      (cs.take i ++ new ++ cs.drop (i + 1)).map fun q => Value.ref q.x := by
    rw [List.length_map, lo_nat (Nat.le_of_lt hlt), hi_nat hlt, Nat.max_eq_right (Nat.le_succ i)]
    simp [List.map_take, List.map_drop]
  rw [e]
  refine h (B.setrow (fun q hq => ?_) hnd hz)
  rcases List.mem_append.mp hq with hq | hq
  · rcases List.mem_append.mp hq with hq | hq
    · exact ⟨B.buf.cells q (List.mem_of_mem_take hq), B.dis q (List.mem_of_mem_take hq)⟩
    · exact hnew q hq
  · exact ⟨B.buf.cells q (List.mem_of_mem_drop hq), B.dis q (List.mem_of_mem_drop hq)⟩
end
end Mine
namespace Mine
theorem rs_up (n : Nat) (h : n < 2 ^ 60) : Builtin.Range.small 0 n 1 = true ∧ Builtin.Range.rangeSize 0 n 1 = (n : Int) := by
  constructor
  · exact PySem.small_one (by omega) (by omega) (by omega) (by omega)
  · rw [rangeSize_one]; split <;> omega
theorem rs_dn (n : Nat) (h : n < 2 ^ 60) : Builtin.Range.small ((n : Int) - 1) (-1) (-1) = true ∧ Builtin.Range.rangeSize ((n : Int) - 1) (-1) (-1) = (n : Int) := by
  have e : Builtin.Range.rangeSize ((n : Int) - 1) (-1) (-1) = (n : Int) := by
    unfold Builtin.Range.rangeSize
    simp only [show ¬ ((-1 : Int) > 0) by decide, if_false]
    split
    · simp
    · omega
  refine ⟨?_, e⟩
  unfold Builtin.Range.small
  rw [e]
  simp only [Builtin.Range.rangeFitsLong, Bool.and_eq_true, Bool.or_eq_true, decide_eq_true_eq, beq_iff_eq, show ¬ ((-1 : Int) > 0) by decide, if_false]
  omega
end Mine
namespace Mine
section
variable {c : Cf} {k : Nat} {env : Env} {m : Fields} {σ ρ : Gh} {Φ : Value → Fields → Gh → Prop} {b rl : Addr} {cs : List Gy} {i : Nat} {q : Gy}
def without (σ : Gh) (a : Addr) : Gh := fun x => if x = a then none else σ x
theorem without_self {a : Addr} : without σ a a = none := by unfold without; rw [if_pos rfl]
theorem without_ne {a x : Addr} (h : x ≠ a) : without σ a x = σ x := by unfold without; rw [if_neg h]
theorem without_sub {a : Addr} {A : AO} (h : σ a = some A) : Sub (upd (without σ a) a A) σ := fun x B e => by
  unfold upd at e; split at e
  · rename_i q; cases e; rw [q]; exact h
  · rename_i q; rwa [without_ne q] at e
theorem Wd.without {it : Addr} {I : AO} (W : Wd (upd ρ it I) σ b rl cs) (hI : ItKind I) (hρ : ρ it = none) : Wd ρ (without σ it) b rl cs := by
  have hit : σ it = some I := W.sub _ _ (upd_same _ _ _)
  have ne : ∀ {a : Addr} {B : AO}, σ a = some B → (∀ l i, B ≠ .listIter l i) → (∀ l i, B ≠ .tupIter l i) → (∀ x y z, B ≠ .rangeIter x y z) → a ≠ it := by
    intro a B h1 h2 h3 h4 e
    rw [e, hit] at h1
    cases h1
    rcases hI with ⟨l, i, h⟩ | ⟨l, i, h⟩ | ⟨x, y, z, h⟩
    · exact h2 _ _ h
    · exact h3 _ _ h
    · exact h4 _ _ _ h
  have keep : ∀ {a : Addr} {B : AO}, σ a = some B → (∀ l i, B ≠ .listIter l i) → (∀ l i, B ≠ .tupIter l i) → (∀ x y z, B ≠ .rangeIter x y z) → Mine.without σ it a = some B := fun h1 h2 h3 h4 => by rw [without_ne (ne h1 h2 h3 h4)]; exact h1
  refine ⟨fun a A e => ?_, ⟨?_, ?_, fun q hq => ?_, W.buf.nodup⟩, fun q hq => ?_, ?_, W.size⟩
  · have hne := ne_of_none hρ e
    rw [without_ne hne]
    exact W.sub _ _ (upd_ne hne e)
  · obtain ⟨t, d, h1, h2⟩ := W.buf.buf
    exact ⟨t, d, keep h1 (by simp) (by simp) (by simp), keep h2 (by simp) (by simp) (by simp)⟩
  · rcases W.buf.row with h | h
    · exact .inl (keep h (by simp) (by simp) (by simp))
    · exact .inr (keep h (by simp) (by simp) (by simp))
  · have := W.buf.cells q hq
    exact ⟨keep this.1 (by simp) (by simp) (by simp), keep this.2 (by simp) (by simp) (by simp)⟩
  · exact (none_of_upd (W.dis q hq)).2
  · exact (none_of_upd W.disl).2
theorem gms_get {cs' : List Gy} (h : cs'.map gm = cs.map gm) (hi : cs[i]? = some q) : ∃ q', cs'[i]? = some q' ∧ q'.v.g = q.v.g ∧ q'.v.ms = q.v.ms := by
  have e : (cs'.map gm)[i]? = some (gm q) := by rw [h, List.getElem?_map, hi]; rfl
  rw [List.getElem?_map] at e
  cases e2 : cs'[i]? with
  | none => rw [e2] at e; cases e
  | some q' =>
    rw [e2] at e
    simp only [Option.map_some, Option.some.injEq, gm, Prod.mk.injEq] at e
    exact ⟨q', rfl, e⟩
theorem gms_len {cs' : List Gy} (h : cs'.map gm = cs.map gm) : cs'.length = cs.length := by simpa using congrArg List.length h
end
end Mine
namespace Mine
section
variable {c : Cf} {k : Nat} {env : Env} {m : Fields} {σ ρ : Gh} {Φ : Value → Fields → Gh → Prop}
theorem sm_ints {l : Addr} {vs : List Value} {ns : List Int} (C : Cx c k) (hl : LstAt σ l vs) (hi : IntsAre vs ns) (h : ∀ t, Φ (.int ns.sum t) m σ) : WP c (call (.builtin "sum") [.ref l]) Φ m σ := fun hp g d tk o S => by
  obtain ⟨news, Nw, hN, hnd⟩ := S.news
  exact LSm.sum_ints S.fr Nw C.hh (hl.isList S) hi fun h' tk' t' F' N' => ⟨h', tk', m, _, rfl, ⟨F', Led.of_news N' hN⟩, h t'⟩
theorem adr1 (a : Addr) : a ≤ a + 1 := Nat.le_succ a
theorem adr2 (a : Addr) : a ≤ a + 1 + 1 := Nat.le_trans (Nat.le_succ a) (Nat.le_succ _)
theorem adr3 (a : Addr) : a ≤ a + 1 + 1 + 1 := Nat.le_trans (adr2 a) (Nat.le_succ _)
theorem adn12 (a : Addr) : a + 1 + 1 ≠ a + 1 := Nat.succ_ne_self _
theorem adn23 (a : Addr) : a + 1 + 1 + 1 ≠ a + 1 + 1 := Nat.succ_ne_self _
theorem adn13 (a : Addr) : a + 1 + 1 + 1 ≠ a + 1 := Nat.ne_of_gt (Nat.lt_trans (Nat.lt_succ_self _) (Nat.lt_succ_self _))

variable {b rl : Addr} {cs : List Gy}
theorem Wd.drop1 {a : Addr} {A : AO} (W : Wd (upd ρ a A) σ b rl cs) (h1 : ∀ C d, A ≠ .inst C d) (h2 : ∀ fs, A ≠ .attrs fs) (hρ : ρ a = none) : Wd ρ (Mine.without σ a) b rl cs := by
  have hit : σ a = some A := W.sub _ _ (upd_same _ _ _)
  have hrl : rl ≠ a := fun e => by have := W.disl; rw [e, upd_same] at this; cases this
  have keep : ∀ {x : Addr} {B : AO}, σ x = some B → B ≠ A → Mine.without σ a x = some B := fun e1 e2 => by
    rw [without_ne (fun e => by rw [e, hit] at e1; exact e2 (Option.some.inj e1).symm)]; exact e1
  refine ⟨fun x B e => ?_, ⟨?_, ?_, fun q hq => ?_, W.buf.nodup⟩, fun q hq => (none_of_upd (W.dis q hq)).2, (none_of_upd W.disl).2, W.size⟩
  · have hne := ne_of_none hρ e
    rw [without_ne hne]
    exact W.sub _ _ (upd_ne hne e)
  · obtain ⟨t, d, e1, e2⟩ := W.buf.buf
    exact ⟨t, d, keep e1 (h1 _ _).symm, keep e2 (h2 _).symm⟩
  · rcases W.buf.row with h | h
    · exact .inl (by rw [without_ne hrl]; exact h)
    · exact .inr (by rw [without_ne hrl]; exact h)
  · have := W.buf.cells q hq
    exact ⟨keep this.1 (h1 _ _).symm, keep this.2 (h2 _).symm⟩
theorem Wd.fr3 {it D Cn : Addr} {J : AO} {ys : List Value} {mc : Fields} (B : Wd ρ σ b rl cs) (g1 : σ it = none) (g2 : σ D = none) (g3 : σ Cn = none) (d1 : it ≠ D) (d2 : it ≠ Cn) (d3 : D ≠ Cn) : Wd (Fr3 ρ it J D ys Cn mc) (Fr3 σ it J D ys Cn mc) b rl cs :=
  ((B.new g1).new (upd_none g2 d1.symm)).new (upd_none (upd_none g3 d2.symm) d3.symm)
theorem Wd.unfr3 {it D Cn : Addr} {J : AO} {ys : List Value} {mc : Fields} (W : Wd (Fr3 ρ it J D ys Cn mc) σ b rl cs) (hJ : ItKind J) (g1 : ρ it = none) (g2 : ρ D = none) (g3 : ρ Cn = none) (d1 : it ≠ D) (d2 : it ≠ Cn) (d3 : D ≠ Cn) :
    ∃ τ, Wd ρ τ b rl cs ∧ τ it = none ∧ τ D = none ∧ τ Cn = none ∧ Sub (Fr3 τ it J D ys Cn mc) σ := by
  have e1 : σ Cn = some (.ns mc) := W.sub _ _ (upd_same _ _ _)
  have e2 : σ D = some (.xlist ys) := W.sub _ _ (upd_ne d3 (upd_same _ _ _))
  have e3 : σ it = some J := W.sub _ _ (upd_ne d2 (upd_ne d1 (upd_same _ _ _)))
  have W1 := Wd.drop1 W (by simp) (by simp) (upd_none (upd_none g3 d2.symm) d3.symm)
  have W2 := Wd.drop1 W1 (by simp) (by simp) (upd_none g2 d1.symm)
  have hk : (∀ C d, J ≠ .inst C d) ∧ ∀ fs, J ≠ .attrs fs := by
    rcases hJ with ⟨l, i, rfl⟩ | ⟨l, i, rfl⟩ | ⟨x, y, z, rfl⟩ <;> exact ⟨by simp, by simp⟩
  have W3 := Wd.drop1 W2 hk.1 hk.2 g1
  refine ⟨_, W3, without_self, ?_, ?_, Fr3.of (fun x B e => ?_) e3 e2 e1⟩
  · rw [without_ne d1.symm]; exact without_self
  · rw [without_ne d2.symm, without_ne d3.symm]; exact without_self
  · unfold Mine.without at e
    split at e
    · cases e
    · split at e
      · cases e
      · split at e
        · cases e
        · exact e
end
end Mine
namespace Mine
theorem updF_of {P : Addr} {o : Obj} : ∀ {news : List (Addr × Obj)}, (news.map (·.1)).Nodup → (P, o) ∈ news → ∃ g, UpdF P o news g ∧ ∀ o', (P, o') ∈ g o' ∧ ∀ a x, (a, x) ∈ news → a ≠ P → (a, x) ∈ g o'
  | [], _, h => by cases h
  | p :: r, hn, h => by
    rw [List.map_cons] at hn
    obtain ⟨h1, h2⟩ := List.nodup_cons.mp hn
    by_cases hp : p.1 = P
    · have : p = (P, o) := by
        rcases List.mem_cons.mp h with e | h
        · exact e.symm
        · exact absurd (List.mem_map.mpr ⟨_, h, hp.symm⟩) h1
      subst this
      refine ⟨_, .head fun q hq e => h1 (List.mem_map.mpr ⟨q, hq, e⟩), fun o' => ⟨.head _, fun a x hm hne => ?_⟩⟩
      rcases List.mem_cons.mp hm with e | hm
      · cases e; exact absurd rfl hne
      · exact .tail _ hm
    · have hr : (P, o) ∈ r := by
        rcases List.mem_cons.mp h with e | h
        · rw [← e] at hp; exact absurd rfl hp
        · exact h
      obtain ⟨g, hg, hk⟩ := updF_of h2 hr
      refine ⟨_, .tail hp hg, fun o' => ⟨.tail _ (hk o').1, fun a x hm hne => ?_⟩⟩
      rcases List.mem_cons.mp hm with e | hm
      · rw [e]; exact .head _
      · exact .tail _ ((hk o').2 a x hm hne)

section
variable {c : Cf} {k : Nat} {m : Fields} {σ ρ : Gh} {N : Fields → Gh → Prop} {R : Value → Fields → Gh → Prop} {Φ : Value → Fields → Gh → Prop}
theorem nest_def {cn : Str} {cs : Scope} {a cc P : Addr} {cl clos : List (Str × Addr)} {name : Str} {params : Arguments} {body : List Stmt} {scope : Scope} {pos : Pos} {ps : Array Value} (C : Cx c k) (hcd : codeHdIn (hd.heap_39 c.w.params) cc P = true) (hP : σ P = some (.raw (tabObj ps))) (ht : TriplesOk ps.toList) (hnf : codeAmong pos ps.toList = none)
    (hcl : closureFor scope (envX cn cs c.L a (.ref cc) cl) = pure clos) (hd0 : params.defaults = []) (hk0 : params.kw_defaults = []) (ha : annTrees params none (envX cn cs c.L a (.ref cc) cl) = [])
    (h : ∀ f c' oc vs t ctv doc pm, σ f = none → σ c' = none → f ≠ c' → oc.data = .fields vs → vs[1]? = some (.str (qualnameIn (envX cn cs c.L a (.ref cc) cl) name name) t) →
      WP c (storeName (envX cn cs c.L a (.ref cc) cl) name (.ref f)) (fun _ m σ => N m σ) m (upd (upd (upd σ P (.raw (tabObj (ps ++ #[rawInt pos.line, rawInt pos.col, .ref c'])))) c' (.raw oc)) f (.raw (fnMade name (qualnameIn (envX cn cs c.L a (.ref cc) cl) name name) params body scope clos doc pm c' ctv)))) :
    WE c (.FunctionDef name params body [] none [] scope none name pos) (envX cn cs c.L a (.ref cc) cl) N R m σ := fun hp g d tk o S => by
  obtain ⟨p, loose, mean, mg, mb, T⟩ := C.top
  obtain ⟨news, Nw, hN, hnd⟩ := S.news
  obtain ⟨oP, hoP, hPe⟩ := hN P _ hP
  have hPe : oP = tabObj ps := hPe
  subst hPe
  obtain ⟨gg, hU, hkeep⟩ := updF_of hnd hoP
  refine nestDef_K hd0 hk0 ha ?_
  refine nest_K S.fr Nw T (codeHd_of_K C.X hcd) rfl hU ht hnf hcl fun f c' oc vs t ctv doc h' tk' F' N' e1 e2 l1 l2 => ?_
  have hc' : σ c' = none := free_of hN l1
  have hf' : σ f = none := by
    cases e : σ f with
    | none => rfl
    | some A => obtain ⟨o', hm, _⟩ := hN f A e; exact absurd (Nat.lt_trans l2 (l1 _ hm)) (Nat.lt_irrefl _)
  have S' : St c.w c.h₀ c.L h' m (upd (upd (upd σ P (.raw (tabObj (ps ++ #[rawInt pos.line, rawInt pos.col, .ref c'])))) c' (.raw oc)) f (.raw (fnMade name (qualnameIn (envX cn cs c.L a (.ref cc) cl) name name) params body scope clos doc ((mg "__name__").getD .none) c' ctv))) := by
    refine ⟨F', Led.of_news N' (led_push (led_push (fun x B e => ?_) rfl) rfl)⟩
    unfold upd at e
    split at e
    · rename_i q; cases e; subst q; exact ⟨_, (hkeep _).1, rfl⟩
    · rename_i q
      obtain ⟨o', hm, hA⟩ := hN x B e
      exact ⟨o', (hkeep _).2 x o' hm q, hA⟩
  exact WP.use (h f c' oc vs t ctv doc _ hf' hc' (Nat.ne_of_gt l2) e1 e2) S' fun _ h2 tk2 m2 σ2 S2 hn => ⟨h2, tk2, m2, σ2, rfl, S2, hn⟩

/-- a closure's value in the ghost heap -/
def FnIn (σ : Gh) (f : Addr) (name qual : Str) (params : Arguments) (body : List Stmt) (scope : Scope) (clos : List (Str × Addr)) : Prop :=
  ∃ doc pm c' ctv oc vs t, σ f = some (.raw (fnMade name qual params body scope clos doc pm c' ctv)) ∧ σ c' = some (.raw oc) ∧ oc.data = .fields vs ∧ vs[1]? = some (.str qual t)
theorem FnIn.sub {σ' : Gh} {f : Addr} {name qual : Str} {params : Arguments} {body : List Stmt} {scope : Scope} {clos : List (Str × Addr)} (h : FnIn σ f name qual params body scope clos) (hs : Sub σ σ') : FnIn σ' f name qual params body scope clos :=
  let ⟨a, b, d, e, f, g, t, h1, h2, h3⟩ := h; ⟨a, b, d, e, f, g, t, hs _ _ h1, hs _ _ h2, h3⟩
theorem fnAt_of {w : World} {h₀ h : Heap} {L : Addr} {f : Addr} {name qual : Str} {params : Arguments} {body : List Stmt} {scope : Scope} {clos : List (Str × Addr)} (S : St w h₀ L h m σ) (F : FnIn σ f name qual params body scope clos) : FnAt f h := by
  obtain ⟨doc, pm, c', ctv, oc, vs, t, h1, _⟩ := F
  obtain ⟨o, ho, rfl⟩ := S.at_ h1
  exact ⟨_, _, _, _, ho⟩
theorem cw_fn {f : Addr} {name qual : Str} {params : Arguments} {body : List Stmt} {scope : Scope} {clos : List (Str × Addr)} {e : Expr} {rest : List Expr} {p : Pos} {env : Env} (F : FnIn σ f name qual params body scope clos)
    (h : WP c (spliced (backTo p (starEach (e :: rest) env))) (fun vs m σ => FnIn σ f name qual params body scope clos ∧ WP c (call (.ref f) vs) Φ m σ) m σ)
    (he : starEach (e :: rest) env = (false, eval e env) :: starEach rest env := by rfl) (hplain : (backTo p (starEach rest env)).any (·.1) = false := by rfl) :
    WP c (callWith p (.ref f) [] (backTo p (starEach (e :: rest) env)) []) Φ m σ :=
  fun hp g d tk o S => callWith_F (first := []) (fnAt_of S F) (WP.use h S fun vs h' tk' m' σ' S' hv => ⟨fnAt_of S' hv.1, hv.2 h' g d tk' o S'⟩) he hplain

theorem enterN {f : Addr} {name qual : Str} {params : Arguments} {body : List Stmt} {scope : Scope} {clos : List (Str × Addr)} {args : List Value} (binds : Fields)
    (C : Cx c (k + 1)) (F : FnIn σ f name qual params body scope clos)
    (hbind : ∀ (s : Shared) doc pm c' ctv, BindsTo s (fnX name qual params body scope clos .none .none doc pm none (.ref c') ctv) ⟨args, []⟩ binds) (hloc : (binds.all fun x => decide (scope.names.lookup x.1 = some .local)) = true)
    (h : ∀ A' h₀' L' c', Cx ⟨c.w, A', h₀', L'⟩ k → Ev ⟨c.w, A', h₀', L'⟩ (envX qual scope L' f (.ref c') clos) → WS ⟨c.w, A', h₀', L'⟩ body (envX qual scope L' f (.ref c') clos) (fun _ σ' => Φ .none m σ') (fun v _ σ' => Φ v m σ') binds.reverse σ)
    (hco : scope.isCoroutine = false) (hgen : scope.isGenerator = false) (hk : scope.kind = .function) (hcell : ∀ x ∈ scope.names, x.2 ≠ .cell) : WC c (.ref f) args Φ m σ := fun hp g d tk o S => by
  obtain ⟨A₀, base, outer, env, B, hA, hf, hke⟩ := C.below
  obtain ⟨p, loose, mean, mg, mb, T⟩ := C.top
  obtain ⟨news, Nw, hN, hnd⟩ := S.news
  obtain ⟨doc, pm, c', ctv, oc, vs, t, e1, e2, e3, e4⟩ := F
  obtain ⟨o1, hm1, q1⟩ := hN f _ e1
  have q1 : o1 = _ := q1
  subst q1
  obtain ⟨o2, hm2, q2⟩ := hN c' _ e2
  have q2 : o2 = oc := q2
  subst q2
  refine code_nest (cl := clos) B S.fr C.X Nw T hA hf hke hm1 (codeRec_news Nw hm2 e3 e4) (by have := C.depth; omega) (hbind _ _ _ _ _) (locs hloc) (fun g' L' h₁ FG F' N' B' X' T' => ?_) hco hgen hk hcell
  have C' : Cx ⟨c.w, c.A.deeper (envX qual scope L' f (.ref c') clos), g', L'⟩ k := by
    refine ⟨⟨c.A, base, env :: outer, envX qual scope L' f (.ref c') clos, B', Around.frames_deeper hA, rfl, hk⟩, X', ⟨p, loose, mean, mg, mb, T'⟩, C.hh, ?_, ?_⟩
    · have := C.depth; show c.A.depth + 1 + k < recursionLimit; omega
    · have := C.units; show c.A.units + 3 + 20 * k + 20 < cLine; omega
  have S' : St c.w g' L' h₁ binds.reverse σ := ⟨by rw [lk_lookup]; exact F', Led.of_news N' hN⟩
  refine wpAny_mono (h _ _ _ _ C' ⟨rfl, hk, rfl, rfl, rfl⟩ h₁ g d _ o S') (fun fl s' q => ?_) fun _ _ x => x.elim
  obtain ⟨h', tk', m', σ', rfl, S2, hq⟩ := q
  obtain ⟨news', Nw', hN', _⟩ := S2.news
  refine leaveK_ S2.fr Nw' fun F2 N2 => ?_
  have S3 : St c.w c.h₀ c.L h' m σ' := ⟨F2, Led.of_news N2 hN'⟩
  cases fl with
  | next => exact ⟨h', tk', m, σ', rfl, S3, hq⟩
  | ret v => exact ⟨h', tk', m, σ', rfl, S3, hq⟩
  | brk => exact hq.elim
  | cont => exact hq.elim
end
end Mine
namespace Mine
section
variable {c : Cf} {k : Nat} {m : Fields} {σ ρ : Gh} {N : Fields → Gh → Prop} {R : Value → Fields → Gh → Prop} {Φ : Value → Fields → Gh → Prop}
theorem op_pow {a n : Int} {t u : Tok} (hn : 0 ≤ n) (hsz : (Builtin.Int.intBits a : Int) * n ≤ 2 ^ 27) (h : ∀ t, Φ (.int (a ^ n.toNat) t) m σ) : WP c (binaryOp .Pow (.int a t) (.int n u)) Φ m σ := fun hp g d tk o S => pow_int hn hsz ⟨hp, _, m, σ, rfl, S, h _⟩
theorem op_shr {a n : Int} {t u : Tok} (hn : 0 ≤ n) (h : ∀ t, Φ (.int (a.fdiv (2 ^ n.toNat)) t) m σ) : WP c (binaryOp .RShift (.int a t) (.int n u)) Φ m σ := fun hp g d tk o S => rshift_int hn ⟨hp, _, m, σ, rfl, S, h _⟩
theorem log2_pow (b : Nat) (hb : b < 2 ^ 20) : ∀ n : Nat, b ^ n < 2 ^ (20 * n + 1)
  | 0 => by simp
  | n + 1 => by
    have ih := log2_pow b hb n
    rw [Nat.pow_succ]
    calc b ^ n * b ≤ b ^ n * 2 ^ 20 := Nat.mul_le_mul_left _ (Nat.le_of_lt hb)
      _ < 2 ^ (20 * n + 1) * 2 ^ 20 := Nat.mul_lt_mul_of_pos_right ih (by decide)
      _ = 2 ^ (20 * (n + 1) + 1) := by rw [← Nat.pow_add]; congr 1
theorem noPy (x : Int) (n : Nat) (hn : n ≤ 400) : Builtin.divisionGoesByPylong x ((720720 : Int) ^ n) = false := by
  refine PyProof.noPylong_of_log2 ?_
  have e : ((720720 : Int) ^ n).natAbs = 720720 ^ n := by rw [Int.natAbs_pow]; rfl
  rw [e]
  have h := log2_pow 720720 (by decide) n
  have h1 : (720720 ^ n).log2 < 20 * n + 1 := (Nat.log2_lt (Nat.ne_of_gt (Nat.pow_pos (by decide)))).mpr h
  omega
end
end Mine
namespace Mine
section
variable {c : Cf} {k : Nat} {m : Fields} {σ ρ : Gh} {N : Fields → Gh → Prop} {R : Value → Fields → Gh → Prop} {Φ : Value → Fields → Gh → Prop}
/-! other words for what stands there -/
theorem St.retag {w : World} {h₀ h : Heap} {L : Addr} {a : Addr} {A B : AO} (S : St w h₀ L h m σ) (e : σ a = some A) (k : ∀ o, A.Is w a o → B.Is w a o) : St w h₀ L h m (upd σ a B) := by
  refine ⟨S.fr, fun b D q => ?_⟩
  unfold upd at q
  by_cases hb : b = a
  · rw [if_pos hb] at q; cases q; subst hb
    obtain ⟨⟨o, ho, hA⟩, h1, h2⟩ := S.led b A e
    exact ⟨⟨o, ho, k o hA⟩, h1, h2⟩
  · rw [if_neg hb] at q; exact S.led b D q
theorem WP.retag {α : Type} {t : Sem α} {Φ : α → Fields → Gh → Prop} {a : Addr} {A B : AO} (e : σ a = some A) (k : ∀ o, A.Is c.w a o → B.Is c.w a o) (h : WP c t Φ m (upd σ a B)) : WP c t Φ m σ := fun hp g d tk o S => h hp g d tk o (S.retag e k)
theorem WP.obj {α : Type} {t : Sem α} {Φ : α → Fields → Gh → Prop} {a : Addr} {A : AO} (e : σ a = some A) (h : ∀ o, A.Is c.w a o → WP c t Φ m (upd σ a (.raw o))) : WP c t Φ m σ := fun hp g d tk o S => by
  obtain ⟨⟨ob, ho, hA⟩, h1, h2⟩ := S.led a A e
  refine h ob hA hp g d tk o ⟨S.fr, fun b D q => ?_⟩
  unfold upd at q
  by_cases hb : b = a
  · rw [if_pos hb] at q; cases q; subst hb; exact ⟨⟨ob, ho, rfl⟩, h1, h2⟩
  · rw [if_neg hb] at q; exact S.led b D q
/-! list of a tuple -/
theorem ls_tuple {a : Addr} {vs : List Value} (ha : σ a = some (.tuple vs)) (hz : vs.length ≤ 16384) (h : ∀ D, σ D = none → Φ (.ref D) m (upd σ D (.xlist vs))) : WP c (call (.type "list") [.ref a]) Φ m σ := fun hp g d tk o S => by
  obtain ⟨news, Nw, hN, hnd⟩ := S.news
  refine list_copyKT S.fr Nw (isTup_of S ha) (fun D cc h' F' N' l1 => ⟨h', tk, m, _, rfl, ⟨F', Led.of_news N' (led_push (A := .xlist vs) hN ⟨cc, rfl⟩)⟩, h D (free_of hN l1)⟩) ?_
  rw [List.size_toArray, sizeLine_eq]; omega
/-! lists of pairs -/
def PairsAt (σ : Gh) (l : Addr) (ps : List (Int × Int)) : Prop := ∃ vs, LstAt σ l vs ∧ vs.length = ps.length ∧ ∀ (j : Nat) v, vs[j]? = some v → ∃ tp t1 t2 p, v = .ref tp ∧ σ tp = some (.tuple [.int p.1 t1, .int p.2 t2]) ∧ ps[j]? = some p
theorem PairsAt.sub {σ' : Gh} {l : Addr} {ps : List (Int × Int)} (h : PairsAt σ l ps) (hs : Sub σ σ') : PairsAt σ' l ps := by
  obtain ⟨vs, h1, h2, h3⟩ := h
  refine ⟨vs, h1.sub hs, h2, fun j v e => ?_⟩
  obtain ⟨tp, t1, t2, p, e1, e2, e3⟩ := h3 j v e
  exact ⟨tp, t1, t2, p, e1, hs _ _ e2, e3⟩
def datOf (p : Int × Int) : Dat := .tuple [.int p.1, .int p.2]
theorem datOf_inj : ∀ {ps qs : List (Int × Int)}, ps.map datOf = qs.map datOf ↔ ps = qs := by
  intro ps qs
  refine ⟨fun h => ?_, fun h => by rw [h]⟩
  exact (List.map_inj_right (f := datOf) (fun a b e => by simp [datOf] at e; exact Prod.ext e.1 e.2)).mp h
theorem reads_pairs_all {w : World} {h₀ h : Heap} {L : Addr} (S : St w h₀ L h m σ) : ∀ (vs : List Value) (ps : List (Int × Int)), vs.length = ps.length → (∀ (j : Nat) v, vs[j]? = some v → ∃ tp t1 t2 p, v = .ref tp ∧ σ tp = some (.tuple [.int p.1 t1, .int p.2 t2]) ∧ ps[j]? = some p) → ∃ as, ReadsAll h vs (kqdPs (ps.map datOf)) as
  | [], [], _, _ => ⟨_, by simpa [kqdPs] using ReadsAll.nil⟩
  | v :: vs, p :: ps, hl, hv => by
    obtain ⟨as, ih⟩ := reads_pairs_all S vs ps (by simpa using hl) fun j u e => by simpa using hv (j + 1) u (by simpa using e)
    obtain ⟨tp, t1, t2, p', rfl, e2, e3⟩ := hv 0 v rfl
    cases e3
    obtain ⟨o, ho, h1, n, h2⟩ := S.at_ e2
    have r : Reads h (.ref tp) (.tuple [.int p.1, .int p.2]) [] := reads_tuple_at ho h1 h2 (by simpa using ReadsAll.cons (Reads.int _ _) (ReadsAll.cons (Reads.int _ _) ReadsAll.nil))
    have : kqdP (datOf p) = .tuple [.int p.1, .int p.2] := by simp [datOf, kqdP, kqdPs]
    rw [List.map_cons, kqdPs, this]
    exact ⟨_, ReadsAll.cons r ih⟩
  | [], _ :: _, hl, _ => by simp at hl
  | _ :: _, [], hl, _ => by simp at hl
theorem reads_pairs {w : World} {h₀ h : Heap} {L : Addr} {l : Addr} {ps : List (Int × Int)} (S : St w h₀ L h m σ) (P : PairsAt σ l ps) : ∃ as, Reads h (.ref l) (.list (kqdPs (ps.map datOf))) as := by
  obtain ⟨vs, h1, h2, h3⟩ := P
  obtain ⟨as, r⟩ := reads_pairs_all S vs ps h2 h3
  obtain ⟨o, ho, e1, n, e2⟩ := h1.isList S
  exact ⟨_, reads_list_at ho e1 e2 (by simpa using r)⟩
theorem dats_ok (ps : List (Int × Int)) : ∀ d ∈ ps.map datOf, kqdOk 8 d = true := by
  intro d hd
  obtain ⟨p, _, rfl⟩ := List.mem_map.mp hd
  simp [datOf, kqdOk]
theorem dats_all (ps : List (Int × Int)) : kqdOk 9 (.list (ps.map datOf)) = true := by
  rw [kqdOk]
  exact List.all_eq_true.mpr (dats_ok ps)
theorem pairs_shaped (ps : List (Int × Int)) : SeqAt.shaped (.list (kqdPs (ps.map datOf))) = true := by
  have la := kqd_lay 9 (.list (ps.map datOf)) (dats_all ps)
  rw [kqdP] at la
  unfold SeqAt.shaped; rw [la.1, Bool.true_and]; exact decide_eq_true (Nat.le_trans la.2 (by decide))
theorem pairs_eqv (ps qs : List (Int × Int)) : PyData.eqv (.list (kqdPs (ps.map datOf))) (.list (kqdPs (qs.map datOf))) = decide (ps = qs) := by
  have q := kqd_eqv 9 (.list (ps.map datOf)) (.list (qs.map datOf)) 9 (dats_all ps) (dats_all qs)
  rw [kqdP, kqdP, Dat.list.injEq, datOf_inj] at q
  by_cases hq : ps = qs
  · rw [decide_eq_true hq]; exact q.mpr hq
  · rw [decide_eq_false hq]; exact Bool.eq_false_iff.mpr fun x => hq (q.mp x)
theorem cp_eq_pairs {a d : Addr} {ps qs : List (Int × Int)} (C : Cx c (k + 3)) (h1 : PairsAt σ a ps) (h2 : PairsAt σ d qs) (h : Φ (.bool (decide (ps = qs))) m σ) : WP c (compareOp .Eq (.ref a) (.ref d)) Φ m σ := fun hp g dd tk o S => by
  obtain ⟨as, ra⟩ := reads_pairs S h1
  obtain ⟨bs, rb⟩ := reads_pairs S h2
  exact eq_dataH ra rb (pairs_shaped _) (pairs_shaped _) (by have := C.units; show c.A.units + 64 < cLine; omega) (by rw [pairs_eqv]; exact ⟨hp, tk, m, σ, rfl, S, h⟩)
theorem cp_ne_pairs {a d : Addr} {ps qs : List (Int × Int)} (C : Cx c (k + 3)) (h1 : PairsAt σ a ps) (h2 : PairsAt σ d qs) (h : Φ (.bool (!decide (ps = qs))) m σ) : WP c (compareOp .NotEq (.ref a) (.ref d)) Φ m σ := fun hp g dd tk o S => by
  obtain ⟨as, ra⟩ := reads_pairs S h1
  obtain ⟨bs, rb⟩ := reads_pairs S h2
  exact ne_dataH ra rb (pairs_shaped _) (pairs_shaped _) (by have := C.units; show c.A.units + 64 < cLine; omega) (by rw [pairs_eqv]; exact ⟨hp, tk, m, σ, rfl, S, h⟩)
/-! dict of a dict -/
theorem no_mod {w : World} {h₀ h : Heap} {L : Addr} (C : Cx c k) (S : St c.w c.h₀ c.L h m σ) : (h.objs.size == sysModules) = false := by
  obtain ⟨_, _, _, mg, mb, T⟩ := C.top
  have h1 := modules_low T.nolimit
  have h2 := S.fr.above
  have h3 := S.ltL
  exact beq_eq_false_iff_ne.mpr (Nat.ne_of_gt (Nat.lt_of_lt_of_le h1 (Nat.le_trans h2 (Nat.le_of_lt h3))))
theorem dc_dict {a : Addr} {kvs : List (Int × Value)} (C : Cx c k) (ha : σ a = some (.idict kvs)) (hz : kvs.length ≤ 1000) (h : ∀ D, σ D = none → Φ (.ref D) m (upd σ D (.idict kvs))) : WP c (call (.type "dict") [.ref a]) Φ m σ := fun hp g d tk o S => by
  obtain ⟨h1, h2⟩ := dict_at S ha
  have hsys := no_mod (h := hp) (w := c.w) (h₀ := c.h₀) (L := c.L) C S
  refine kt_call_dict h1 h2 (by rw [sizeLine_eq]; omega) fun h' hd' hs' => ?_
  have S1 : St c.w c.h₀ c.L (hp.push { cls := .type "dict", data := .dict #[] }) m (upd σ hp.objs.size (.raw { cls := .type "dict", data := .dict #[] })) := S.push rfl rfl
  obtain ⟨o', ho', h4⟩ := Heap.dictOf_iff.mp hd'
  have S2 := S1.set (A := .idict kvs) hs' (upd_same _ _ _) ⟨o', ho', hsys, h4⟩
  rw [upd_upd] at S2
  exact ⟨h', tk, m, _, rfl, S2, h _ S.free⟩
/-! sorted, of a dict with one key -/
theorem so_one {a : Addr} {g : Int} {v : Value} (C : Cx c k) (ha : σ a = some (.idict [(g, v)])) (h : ∀ D t, σ D = none → Φ (.ref D) m (upd σ D (.xlist [.int g t]))) : WP c (call (.builtin "sorted") [.ref a]) Φ m σ := fun hp gg d tk o S => by
  obtain ⟨h1, h2⟩ := dict_at S ha
  obtain ⟨news, Nw, hN, hnd⟩ := S.news
  obtain ⟨ep, hat⟩ := h2.dictAt
  refine kdu_sorted (kdl_dict (knd := intKind pg c.w) (kvs := [(g, v)]) (ep := ep) h1) C.hh S.fr Nw hat (by rw [sizeLine_eq]; simp) fun D h' tk' vs F' N' l1 hl hv => ?_
  obtain ⟨x, rfl⟩ : ∃ x, vs = [x] := by
    match vs, hl with
    | [x], _ => exact ⟨x, rfl⟩
  obtain ⟨kk, xx, e1, e2⟩ := hv 0 x rfl
  cases e1
  obtain ⟨t, rfl⟩ := PyProof.V.Flat.int_inv (kdl_flat_int e2)
  have hD : σ D = none := free_of hN l1
  have hap : ∀ p ∈ news, p.1 ≠ D := fun p hp => Nat.ne_of_lt (l1 p hp)
  refine lks_sort (q := [g]) (its := [Value.int g t].toArray) (n := 0) (news' := fun t' => (D, PySem.W.listOf (lks_vals [g] 0 t').toArray (0 + 2)) :: news) F' N' (fun t' => Upd.head hap) rfl (by simp [lks_ok, lks_nums, lks_asc, List.isPerm]) rfl (by simp) fun t' h2 F2 N2 => ?_
  exact ⟨h2, tk', m, _, rfl, ⟨F2, Led.of_news N2 (led_push (A := .xlist [.int g (t' 0)]) hN ⟨_, rfl⟩)⟩, h D (t' 0) hD⟩
end
end Mine
namespace Mine
theorem keys_miss : typeLookup (.type "list") "keys" = pure none := am_miss_of_fast (by kernel_rfl)
theorem keys_name : (["__module__", "__name__", "__qualname__", "__doc__", "__annotations__"] : List Str).contains "keys" = false := by decide
theorem keys_none {prog : Program} {w : World} {A : Around} {E : Value → Shared → Prop} {hp : Heap} {g : Array GenState} {d : Drawn} {tk : Nat} {os : OsState} {a : Addr} {xs : Array Value} {k : Nat} {sl : Array (Option Value)} {Q : Option Value → Shared → Prop}
    (hx : hp.get? a = some { cls := .type "list", dict := none, data := .seq xs k, slots := sl }) (hA : A.handled = none)
    (h : ∀ h' tk', (∀ b o, hp.get? b = some o → h'.get? b = some o) → Q none ⟨h', g, d, tk', os⟩) : wpAny (model prog w) A (getAttr? (.ref a) "keys") Q E ⟨hp, g, d, tk, os⟩ := by
  have hT : ∀ tk', (⟨hp, g, d, tk', os⟩ : Shared).TypeIs (.ref a) "list" := fun _ => ⟨_, hx, rfl⟩
  have f1 := sub_AttributeError
  have f3 := F.slot_list_getattribute.lookup
  have f4 := F.slot_list_getattribute.bind (.ref a)
  have f5 := am_list_getattr_none
  unfold getAttr? getAttrBy? getAttrBy
  repeat (any_goals (first | assumption | exact hT _ | ((with_reducible show wpAny _ _ (call (Value.builtin "list.__getattribute__") _ _) _ _ _); refine call_meets F.slot_list_getattribute (hT _) am_entry_list_getattribute (F.args_list_getattribute_2 _ _) (meets_getattribute_miss_list a xs k sl "keys" _ keys_miss keys_name (by size_fits)) ⟨hx, hA, fun h' tk' e hx' => ?_⟩) | wp_step))
  obtain ⟨t', u', he⟩ := hx'.there
  show wpAny _ _ (getattributeRaised _ _ _ _ _ _ _) _ _ _
  unfold getattributeRaised
  repeat (any_goals (first | assumption | wp_step))
  exact h h' tk' hx'.keeps

theorem plain_upd_loop : plainId "dict.update.loop" = true := by decide +kernel
theorem entry_upd_loop : entryFor table "dict.update.loop" = some Builtin.«dict.update.loop» := entryFor_of_fast (by kernel_rfl)
section
variable {c : Cf} {k : Nat} {m : Fields} {σ ρ : Gh} {N : Fields → Gh → Prop} {R : Value → Fields → Gh → Prop} {Φ : Value → Fields → Gh → Prop}
theorem WP.useE {α : Type} {t : Sem α} {Φ : α → Fields → Gh → Prop} {E : Value → Shared → Prop} {A' : Around} (h : WP ⟨c.w, A', c.h₀, c.L⟩ t Φ m σ) {hp : Heap} {g : Array GenState} {d : Drawn} {tk : Nat} {o : OsState} (S : St c.w c.h₀ c.L hp m σ) {Q : α → Shared → Prop}
    (k : ∀ a h' tk' m' σ', St c.w c.h₀ c.L h' m' σ' → Φ a m' σ' → Q a ⟨h', g, d, tk', o⟩) : wpAny (model pg c.w) A' t Q E ⟨hp, g, d, tk, o⟩ :=
  wpAny_mono (WP.use (c := ⟨c.w, A', c.h₀, c.L⟩) h S k) (fun _ _ q => q) fun _ _ x => x.elim
theorem wp_dictSet {D : Addr} {kvs : List (Int × Value)} {j : Int} {t : Tok} {v : Value} {Φ : Unit → Fields → Gh → Prop} (hl : σ D = some (.idict kvs)) (hs : kvs.length ≤ sizeLine) (h : Φ () m (upd σ D (.idict (stored kvs j v)))) : WP c (dictSet D (.int j t) v) Φ m σ := fun hp g d tk o S => by
  obtain ⟨h1, h2⟩ := dict_at S hl
  unfold dictSet
  try with_reducible refine wpAny_holding ?_
  refine wpAny_bind ((intKind pg c.w).pyHash (k := j) (intKind_is _ _ _ _) ?_)
  refine wpAny_dictSetHashed_pairs (knd := intKind pg c.w) (k := j) (intKind_is _ _ _ _) h2 (fun h' hd' hs' => ⟨h', _, m, _, rfl, S.set hs' hl ?_, h⟩) hs
  obtain ⟨o', ho', h3⟩ := Heap.dictOf_iff.mp hd'
  exact ⟨o', ho', h1, h3⟩
theorem merged_snoc (kvs : List (Int × Value)) (i : Nat) (kv : Int × Value) (h : kvs[i]? = some kv) : merged [] (kvs.take (i + 1)) = stored (merged [] (kvs.take i)) kv.1 kv.2 := merged_take_succ [] kvs i kv h
theorem dc_loop {A' : Around} {a D it : Addr} {vs : List Value} {kvs : List (Int × Value)} {RR : Result → Shared → Prop} {g : Array GenState} {d : Drawn} {o : OsState} (hh : A'.handled = none) (ha : σ a = some (.xlist vs)) (hl : vs.length = kvs.length) (hz : kvs.length ≤ 1000)
    (hv : ∀ (j : Nat) v, vs[j]? = some v → ∃ tp t kv, v = .ref tp ∧ σ tp = some (.tuple [.int kv.1 t, kv.2]) ∧ kvs[j]? = some kv) (hD : σ D = none) (hit : σ it = none) (hne : it ≠ D)
    (hR : ∀ h' tk', St c.w c.h₀ c.L h' m (upd σ D (.idict (merged [] kvs))) → RR (.ok (.ret .none)) ⟨h', g, d, tk', o⟩) :
    ∀ (n i : Nat) (t : Tok) (hp : Heap) (tk : Nat), n + i = kvs.length → St c.w c.h₀ c.L hp m (upd (upd σ D (.idict (merged [] (kvs.take i)))) it (.listIter a i)) →
      codeAny (model pg c.w) A' (.builtin "dict.update.loop" ⟨[.ref D, .ref it, .int i t, .none], []⟩) RR ⟨hp, g, d, tk, o⟩ := by
  have haD : a ≠ D := ne_of_none hD ha
  have hai : a ≠ it := ne_of_none hit ha
  intro n
  induction n with
  | zero =>
    intro i t hp tk hn S
    have : i = kvs.length := by omega
    subst this
    rw [List.take_length] at S
    refine codeAny_builtin entry_upd_loop ?_
    rw [Around.under_plainId plain_upd_loop _]
    show wpAny _ A'.in1 (pyNext (.ref it) >>= _) _ _ _
    obtain ⟨oi, hoi, e1, e2⟩ := S.at_ (upd_same _ _ _)
    refine wpAny_bind (wpAny_pyNext_list_end hh ⟨oi, hoi, e1, e2⟩ (LstAt.isList S (.inr (upd_ne hai (upd_ne haD ha)))) (by simp [hl]) fun h' he => ?_)
    refine wpAny_bind (wpAny_pure ?_)
    refine wpAny_pure (hR h' tk ?_)
    obtain ⟨_, hne', hnn⟩ := S.led it _ (upd_same _ _ _)
    refine ⟨⟨S.fr.ns.extBut he (Ne.symm hne'), fun b o q => he b o (fun x => by rw [x, hnn] at q; cases q) (S.fr.keep b o q), S.fr.above⟩, fun b B e => ?_⟩
    have hb : b ≠ it := ne_of_none (upd_none hit hne) e
    obtain ⟨⟨o', ho', hA⟩, h3, h4⟩ := S.led b B (upd_ne hb e)
    exact ⟨⟨o', he b o' hb ho', hA⟩, h3, h4⟩
  | succ n ih =>
    intro i t hp tk hn S
    have hi : i < kvs.length := by omega
    obtain ⟨v, hvi⟩ : ∃ v, vs[i]? = some v := ⟨_, List.getElem?_eq_getElem (by omega)⟩
    obtain ⟨tp, t', kv, rfl, etp, ekv⟩ := hv i v hvi
    refine codeAny_builtin entry_upd_loop ?_
    rw [Around.under_plainId plain_upd_loop _]
    show wpAny _ A'.in1 (pyNext (.ref it) >>= _) _ _ _
    refine wpAny_bind (WP.useE (c := c) (A' := A'.in1) (nx_list (Φ := fun r m' σ' => r = some (.ref tp) ∧ m' = m ∧ σ' = upd (upd σ D (.idict (merged [] (kvs.take i)))) it (.listIter a (i + 1))) (upd_same _ _ _) (.inr (upd_ne hai (upd_ne haD ha))) hvi ⟨rfl, rfl, upd_upd⟩) S fun r h1 tk1 m1 σ1 S1 q => ?_)
    obtain ⟨rfl, rfl, rfl⟩ := q
    have htp : (upd (upd σ D (.idict (merged [] (kvs.take i)))) it (.listIter a (i + 1))) tp = some (.tuple [.int kv.1 t', kv.2]) := upd_ne (ne_of_none hit etp) (upd_ne (ne_of_none hD etp) etp)
    obtain ⟨ot, hot, c1, nt, c2⟩ := S1.at_ htp
    refine wpAny_bind (wpAny_holding ?_)
    refine wpAny_bind (m := Sem.tryCatch _ _) (wpAny_tryCatch ?_)
    unfold Builtin.Dict.pairItems
    refine wpAny_bind (wpAny_typeOf (T := "tuple") ⟨ot, hot, c1⟩ ?_)
    rw [if_pos (by decide)]
    unfold seqItems?
    refine wpAny_bind (wpAny_bind (wpAny_load hot ?_))
    rw [c2]
    refine wpAny_pure (wpAny_pure ?_)
    show wpAny _ _ (holding [.int kv.1 t', kv.2] (dictSet D (.int kv.1 t') kv.2)) _ _ _
    refine wpAny_holding (WP.useE (c := c) (A' := A'.in1) (wp_dictSet (kvs := merged [] (kvs.take i)) (Φ := fun _ m' σ' => m' = m1 ∧ σ' = upd (upd σ D (.idict (merged [] (kvs.take (i + 1))))) it (.listIter a (i + 1))) (upd_ne hne.symm (upd_same _ _ _)) ?_ ⟨rfl, ?_⟩) S1 fun r h2 tk2 m2 σ2 S2 q => ?_)
    · have := merged_length_le ([] : List (Int × Value)) (kvs.take i)
      have h3 : (kvs.take i).length ≤ kvs.length := by rw [List.length_take]; omega
      rw [sizeLine_eq]; simp only [List.length_nil] at this; omega
    · rw [upd_comm hne, upd_upd, merged_snoc _ _ _ ekv]
    · obtain ⟨rfl, rfl⟩ := q
      refine wpAny_pure ⟨plainId_quiet plain_upd_loop _, ?_⟩
      exact ih (i + 1) _ h2 tk2 (by omega) S2
theorem dc_pairs {a : Addr} {vs : List Value} {kvs : List (Int × Value)} (C : Cx c k) (ha : σ a = some (.xlist vs)) (hl : vs.length = kvs.length) (hz : kvs.length ≤ 1000)
    (hv : ∀ (j : Nat) v, vs[j]? = some v → ∃ tp t kv, v = .ref tp ∧ σ tp = some (.tuple [.int kv.1 t, kv.2]) ∧ kvs[j]? = some kv)
    (h : ∀ D, σ D = none → Φ (.ref D) m (upd σ D (.idict (merged [] kvs)))) : WP c (call (.type "dict") [.ref a]) Φ m σ := fun hp g d tk o S => by
  have hsys := no_mod (h := hp) (w := c.w) (h₀ := c.h₀) (L := c.L) C S
  refine callType_codes (Q₁ := fun obj s₁ => obj = .ref hp.objs.size ∧ s₁ = ⟨hp.push { cls := .type "dict", data := .dict #[] }, g, d, tk, o⟩) F.kt_called_dict (F.kt_typeCall_dict_1 _) F.entry_dict_init (kt_code_dict_new _ ⟨rfl, rfl⟩) ?_
  rintro obj s₁ ⟨rfl, rfl⟩
  have hD : σ hp.objs.size = none := S.free
  have hD0 : Heap.DictOf (intKind pg c.w) (hp.push { cls := .type "dict", data := .dict #[] }) hp.objs.size [] := Heap.DictOf.new hp
  obtain ⟨od, hod, hdd⟩ := Heap.dictOf_iff.mp hD0
  have hod' : od = { cls := .type "dict", data := .dict #[] } := by
    have : (hp.push { cls := .type "dict", data := .dict #[] }).get? hp.objs.size = some { cls := .type "dict", data := .dict #[] } := Heap.get?_push_size _ rfl
    rw [this] at hod
    exact (Option.some.inj hod).symm
  have S1 : St c.w c.h₀ c.L (hp.push { cls := .type "dict", data := .dict #[] }) m (upd σ hp.objs.size (.idict [])) := S.push ⟨hsys, hod' ▸ hdd⟩ rfl
  refine ⟨hD0.typeIs, F.args_dict_init_2 _ _, ?_⟩
  unfold Builtin.«dict.__init__»
  refine wpAny_bind ?_
  unfold Builtin.Dict.selfAndRest
  refine wpAny_bind (wpAny_notOrdered_dict hD0.typeIs ?_)
  show wpAny _ _ (pure (hp.objs.size, [Value.ref a])) _ _ _
  refine wpAny_pure ?_
  show wpAny _ _ (Builtin.Dict.updateFrom "dict.__init__" hp.objs.size (.ref a) [] .none) _ _ _
  unfold Builtin.Dict.updateFrom
  have haD : a ≠ hp.objs.size := ne_of_none hD ha
  obtain ⟨oa, hoa, na, rfl⟩ := S1.at_ (upd_ne haD ha)
  refine wpAny_bind (wpAny_typeOf (T := "list") ⟨_, hoa, rfl⟩ ?_)
  rw [if_pos (by decide)]
  refine wpAny_bind (keys_none hoa C.hh fun h2 tk2 hk => ?_)
  have S2 := S1.ext hk
  refine wpAny_bind (wpAny_rule ?_)
  refine wpAny_bind (WP.useE (c := c) (A' := c.A.in1.in1) (it_list (vs := vs) (Φ := fun v m' σ' => ∃ it, v = .ref it ∧ m' = m ∧ it ≠ hp.objs.size ∧ σ it = none ∧ σ' = upd (upd σ hp.objs.size (.idict [])) it (.listIter a 0)) (.inr (upd_ne haD ha)) fun it hit => ?_) S2 fun r h3 tk3 m3 σ3 S3 q => ?_)
  · exact ⟨it, rfl, rfl, (none_of_upd hit).1, (none_of_upd hit).2, rfl⟩
  · obtain ⟨it, rfl, rfl, q1, q2, rfl⟩ := q
    refine wpAny_pure ⟨plainId_quiet plain_upd_loop _, ?_⟩
    refine dc_loop (c := c) (A' := c.A.in1) C.hh ha hl hz hv hD q2 q1 (fun h' tk' S' => ?_) kvs.length 0 _ h3 tk3 rfl S3
    exact ⟨rfl, h', tk', _, _, rfl, S', h _ hD⟩
end
end Mine
namespace Mine
section
variable {c : Cf} {k : Nat} {env : Env} {m : Fields} {σ ρ : Gh} {Φ : Value → Fields → Gh → Prop} {N : Fields → Gh → Prop} {R : Value → Fields → Gh → Prop}
/-! the drawn numbers: pl is the place list, all else stands in ρ -/
structure TkW (ρ σ : Gh) (pl : Addr) (B : Int) : Prop where
  sub : Sub ρ σ
  free : ρ pl = none
  at_ : ∃ kk t, LstAt σ pl [.int kk t] ∧ 0 ≤ kk ∧ kk ≤ B
theorem TkW.new {pl a : Addr} {A : AO} {B : Int} (W : TkW ρ σ pl B) (h : σ a = none) : TkW (upd ρ a A) (upd σ a A) pl B := by
  obtain ⟨kk, t, h1, h2⟩ := W.at_
  obtain ⟨X, hX⟩ := h1.some
  have hne : pl ≠ a := ne_of_none h hX
  exact ⟨sub_upd W.sub, upd_none W.free hne, kk, t, h1.upd hne, h2⟩
theorem TkW.set {pl a : Addr} {A A' : AO} {B : Int} (W : TkW ρ σ pl B) (h : ρ a = some A) : TkW (upd ρ a A') (upd σ a A') pl B := by
  obtain ⟨kk, t, h1, h2⟩ := W.at_
  have hne : pl ≠ a := fun e => by rw [← e, W.free] at h; cases h
  exact ⟨sub_upd W.sub, upd_none W.free hne, kk, t, h1.upd hne, h2⟩
theorem TkW.less {ρ' : Gh} {pl : Addr} {B : Int} (W : TkW ρ σ pl B) (h : Sub ρ' ρ) : TkW ρ' σ pl B := ⟨h.trans W.sub, h.none_of W.free, W.at_⟩
theorem TkW.le {pl : Addr} {B B' : Int} (W : TkW ρ σ pl B) (h : B ≤ B') : TkW ρ σ pl B' := ⟨W.sub, W.free, let ⟨kk, t, a, b, d⟩ := W.at_; ⟨kk, t, a, b, Int.le_trans d h⟩⟩
theorem TkW.without {pl a : Addr} {A : AO} {B : Int} (W : TkW ρ σ pl B) (h : ρ a = some A) : TkW (without ρ a) (without σ a) pl B := by
  obtain ⟨kk, t, h1, h2⟩ := W.at_
  have hne : pl ≠ a := fun e => by rw [← e, W.free] at h; cases h
  refine ⟨fun x X e => ?_, ?_, kk, t, ?_, h2⟩
  · have hx : x ≠ a := fun q => by rw [q, without_self] at e; cases e
    rw [without_ne hx] at e ⊢; exact W.sub _ _ e
  · rw [without_ne hne]; exact W.free
  · rcases h1 with h1 | h1
    · exact .inl (by rw [without_ne hne]; exact h1)
    · exact .inr (by rw [without_ne hne]; exact h1)
theorem sub_without {a : Addr} (h : Sub ρ σ) (ha : ρ a = none) : Sub ρ (without σ a) := Sub.drop h ha
/-! iterators that give themselves -/
def Selfy (c : Cf) (it : Addr) (A : AO) : Prop := ∀ (m' : Fields) (σ' : Gh) (Φ : Value → Fields → Gh → Prop), σ' it = some A → Φ (.ref it) m' σ' → WP c (pyIter (.ref it)) Φ m' σ'
theorem Selfy.of {it : Addr} {A : AO} (hA : ItKind A) : Selfy c it A := fun m' σ' Φ e h => it_self e hA h
theorem comp_blockG {elt target iter : Expr} {ifs : List Expr} {scope : Scope} {cl : List (Str × Addr)} {p : Pos} {it : Addr} {A : AO} {env : Env} (hcell : ∀ y ∈ scope.names, y.2 ≠ .cell) (hkind : scope.kind = .function)
    (hi : σ it = some A) (hA : Selfy c it A) {RR : Value → Addr → Result → Shared → Prop} {hp : Heap} {g : Array GenState} {d : Drawn} {tk : Nat} {o : OsState} (S : St c.w c.h₀ c.L hp m σ)
    {Ψ : Addr → Addr → Fields → Gh → Prop}
    (h : ∀ D C, σ D = none → σ C = none → D ≠ C → WComp c (.ListComp elt [⟨target, iter, ifs, 0⟩] scope p) (.ref it) (.ref D) (compEnvC scope cl C env) (fun m σ => Ψ D C m σ) m (upd (upd σ D (.xlist [])) C (.ns [])))
    (hRR : ∀ D C h' tk' m' σ', St c.w c.h₀ c.L h' m' σ' → Ψ D C m' σ' → RR (.ref D) C (.ok .next) ⟨h', g, d, tk', o⟩) (hok : ∀ D C f s', RR D C (.ok .next) s' → RR D C (.ok f) s') :
    wpAny (model pg c.w) c.A (newList []) (fun acc s₃ => wpAny (model pg c.w) c.A (newFunctionEnv scope env.globals cl [] env.qual none .none (some env)) (fun cenv s₄ =>
      codeAny (model pg c.w) c.A (.compStart (.ListComp elt [⟨target, iter, ifs, 0⟩] scope p) 0 (.ref it) acc { cenv with scope := relabel scope env }) (RR acc cenv.locals) s₄) (fun _ _ => False) s₃) (fun _ _ => False) ⟨hp, g, d, tk, o⟩ := by
  refine wpAny_newObj_type (wpAny_newFunctionEnv hcell (by intro y hy; simp at hy) (fun h₁ hns₁ hsb₁ => ?_) hkind)
  dsimp only at hns₁ hsb₁ ⊢
  generalize hH2 : hp.push { cls := .type "list", dict := none, data := .seq ([] : List Value).toArray } = H2 at hns₁ hsb₁ ⊢
  have S1 : St c.w c.h₀ c.L H2 m (upd σ hp.objs.size (.xlist [])) := by
    rw [← hH2]; exact S.push (A := .xlist []) ⟨0, rfl⟩ rfl
  have hD := S.free
  have hsz : H2.objs.size = hp.objs.size + 1 := by rw [← hH2, Heap.size_push]
  have hC : σ H2.objs.size = none := by
    cases e : σ H2.objs.size with
    | none => rfl
    | some A => exact absurd (S.lt e) (by rw [hsz]; exact Nat.not_lt.mpr (Nat.le_succ _))
  have hne : hp.objs.size ≠ H2.objs.size := by rw [hsz]; exact Nat.ne_of_lt (Nat.lt_succ_self _)
  have S2 : St c.w c.h₀ c.L h₁ m (upd (upd σ hp.objs.size (.xlist [])) H2.objs.size (.ns [])) := by
    have S2' := S1.push (o := { cls := .type "dict", dict := none, data := .dict #[] }) (A := .ns []) ⟨#[], 0, rfl, (fun e he => by simp at he), fun name => rfl⟩ rfl
    have := S2'.set (a := H2.objs.size) (A := .ns []) hsb₁ (upd_same _ _ _) (by
      obtain ⟨o', es, ep, ho', h1, h2, h3⟩ := hns₁
      exact ⟨o', ho', es, ep, h1, h2, fun name => by rw [h3]; rfl⟩)
    rw [upd_upd] at this
    exact this
  have hi2 : (upd (upd σ hp.objs.size (.xlist [])) H2.objs.size (.ns [])) it = some A := upd_ne (ne_of_none hC hi) (upd_ne (ne_of_none hD hi) hi)
  have loop : ∀ (h' : Heap) (tk' : Nat), St c.w c.h₀ c.L h' m (upd (upd σ hp.objs.size (.xlist [])) H2.objs.size (.ns [])) → codeAny (model pg c.w) c.A (.compLoop (.ListComp elt [⟨target, iter, ifs, 0⟩] scope p) 0 (.ref it) (.ref hp.objs.size) (compEnvC scope cl H2.objs.size env)) (RR (.ref hp.objs.size) H2.objs.size) ⟨h', g, d, tk', o⟩ := fun h' tk' S' =>
    codeAny_mono (h _ _ hD hC hne h' g d _ o S') fun r s' q => by
      cases r with
      | error e => exact q.elim
      | ok f =>
        obtain ⟨h', tk', m', σ', rfl, S', hq⟩ := q
        exact hok _ _ f _ (hRR _ _ h' tk' m' σ' S' hq)
  refine codeAny_compStart_list (loop _ _ S2) ?_
  refine wpAny_mono (hA m _ (fun v m2 σ2 => v = .ref it ∧ m2 = m ∧ σ2 = (upd (upd σ hp.objs.size (.xlist [])) H2.objs.size (.ns []))) hi2 ⟨rfl, rfl, rfl⟩ h₁ g d _ o S2) (fun v s' q => ?_) fun _ _ x => x.elim
  obtain ⟨h', tk', m', σ', rfl, S', rfl, rfl, rfl⟩ := q
  exact loop _ _ S'
theorem wp_compG {elt target iter : Expr} {ifs : List Expr} {scope : Scope} {p : Pos} (cl : List (Str × Addr))
    (hclos : closureFor scope env = pure cl) (hcell : ∀ y ∈ scope.names, y.2 ≠ .cell) (hkind : scope.kind = .function) (hnames : ∀ y ∈ scope.names, y.2 = .local → scope.names.lookup y.1 = some .local)
    (h : WP c (eval iter env) (fun xv m σ => WP c (pyIter xv) (fun iv m σ => ∃ it A, iv = .ref it ∧ σ it = some A ∧ Selfy c it A ∧
      ∀ D C, σ D = none → σ C = none → D ≠ C → WComp c (.ListComp elt [⟨target, iter, ifs, 0⟩] scope p) (.ref it) (.ref D) (compEnvC scope cl C env) (fun m σ => (∃ mc, σ C = some (.ns mc)) ∧ Φ (.ref D) m (fun a => if a = C then none else σ a)) m (upd (upd σ D (.xlist [])) C (.ns []))) m σ) m σ)
    (hs : ∀ x, foldedSetIterable iter env x = pure x := by intro _; rfl) : WP c (eval (.ListComp elt [⟨target, iter, ifs, 0⟩] scope p) env) Φ m σ := fun hp g d tk o S => by
  rw [eval_ListComp]
  refine wpAny_comprehension_free (use := none) rfl hs hclos hkind hnames (WP.use h S fun xv h1 tk1 m1 σ1 S1 w1 => WP.use w1 S1 fun iv h2 tk2 m2 σ2 S2 w2 => ?_)
  obtain ⟨it, A, rfl, hi, hA, hw⟩ := w2
  refine comp_blockG (RR := fun acc C => compPost (model pg c.w) c.A (fun _ _ => False) none (Post c g d o Φ) acc C) hcell hkind hi hA S2 hw (fun D C h' tk' m' σ' S' hq => ?_) (fun _ _ f _ q => q)
  obtain ⟨⟨mc, hC⟩, hΦ⟩ := hq
  exact ⟨_, ns_at S' hC, fun h'' hs'' => ⟨h'', _, m', _, rfl, comp_drop S' hC hs'', hΦ⟩⟩
/-! over the keys of a dict -/
theorem Selfy.key {it d : Addr} {io : Obj} {i n ep : Nat} (hi : KdkIter io d i n ep) : Selfy c it (.raw io) := fun m' σ' Φ e h hp g dd tk o S => by
  obtain ⟨o', ho', rfl⟩ := S.at_ e
  exact wpAny_pyIter_keyiter (hi.at ho') ⟨hp, tk, m', σ', rfl, S, h⟩
theorem it_key {d : Addr} {od : Obj} {kvs : List (Int × Value)} {ep : Nat} (hd : σ d = some (.raw od)) (hk : KdkAt (intKind pg c.w) od kvs ep) (lo : (d == sysModules) = false)
    (h : ∀ it io, σ it = none → KdkIter io d 0 kvs.length ep → Φ (.ref it) m (upd σ it (.raw io))) : WP c (pyIter (.ref d)) Φ m σ := fun hp g dd tk o S => by
  obtain ⟨o', ho', rfl⟩ := S.at_ hd
  refine wpAny_pyIter_dict (s := ⟨hp, g, dd, tk, o⟩) lo (hk.dictAt ho') ?_
  exact ⟨_, tk, m, _, rfl, S.push (A := .raw _) rfl rfl, h _ _ S.free ⟨rfl, rfl⟩⟩
theorem nx_key {it d : Addr} {od io : Obj} {kvs : List (Int × Value)} {ep i : Nat} {kk : Int} {x : Value} {Φ : Option Value → Fields → Gh → Prop} (hit : σ it = some (.raw io)) (hi : KdkIter io d i kvs.length ep) (hd : σ d = some (.raw od)) (hk : KdkAt (intKind pg c.w) od kvs ep) (hx : kvs[i]? = some (kk, x))
    (h : ∀ io' t, KdkIter io' d (i + 1) kvs.length ep → Φ (some (.int kk t)) m (upd σ it (.raw io'))) : WP c (pyNext (.ref it)) Φ m σ := fun hp g dd tk o S => by
  obtain ⟨o', ho', rfl⟩ := S.at_ hd
  obtain ⟨o2, ho2, rfl⟩ := S.at_ hit
  refine wpAny_pyNext_dict_item (hi.at ho2) (hk.dictAt ho') hx fun key h' hkey hit' hs => ?_
  obtain ⟨t, rfl⟩ := PyProof.V.Flat.int_inv (kdl_flat_int hkey)
  obtain ⟨o3, ho3, hc3, hd3⟩ := hit'
  exact ⟨h', _, m, _, rfl, S.set (A := .raw o3) hs hit ⟨o3, ho3, rfl⟩, h o3 t ⟨hc3, hd3⟩⟩
theorem nx_key_end {it d : Addr} {od io : Obj} {kvs : List (Int × Value)} {ep : Nat} {Φ : Option Value → Fields → Gh → Prop} (C : Cx c k) (hit : σ it = some (.raw io)) (hi : KdkIter io d kvs.length kvs.length ep) (hd : σ d = some (.raw od)) (hk : KdkAt (intKind pg c.w) od kvs ep)
    (h : Φ none m (fun a => if a = it then none else σ a)) : WP c (pyNext (.ref it)) Φ m σ := fun hp g dd tk o S => by
  obtain ⟨o', ho', rfl⟩ := S.at_ hd
  obtain ⟨o2, ho2, rfl⟩ := S.at_ hit
  refine wpAny_pyNext_dict_end (s := ⟨hp, g, dd, tk, o⟩) C.hh (hi.at ho2) (hk.dictAt ho') (List.getElem?_eq_none (Nat.le_refl _)) fun h' he => ⟨h', tk, m, _, rfl, ?_, h⟩
  obtain ⟨_, hne, hn⟩ := S.led it _ hit
  refine ⟨⟨S.fr.ns.extBut he (Ne.symm hne), fun b o q => he b o (fun x => by rw [x, hn] at q; cases q) (S.fr.keep b o q), S.fr.above⟩, fun a A e => ?_⟩
  split at e
  · cases e
  · rename_i q
    obtain ⟨⟨o', ho', hA⟩, h3, h4⟩ := S.led a A e
    exact ⟨⟨o', he a o' q ho', hA⟩, h3, h4⟩
theorem lo_key {target : Expr} {it d : Addr} {io : Obj} {i n ep : Nat} {v : Value} {Φ : Unit → Fields → Gh → Prop} (hit : σ it = some (.raw io)) (hi : KdkIter io d i n ep) (h : Φ () m σ) : WP c (letOwnedTupleGo target (.ref it) v) Φ m σ := fun hp g dd tk o S => by
  obtain ⟨o2, ho2, rfl⟩ := S.at_ hit
  exact letGo_keyiter (hi.at ho2) ⟨hp, tk, m, σ, rfl, S, h⟩
theorem sub_rawdict {e i : Expr} {l : Addr} {od : Obj} {kvs : List (Int × Value)} {ep : Nat} {j : Int} {t : Tok} {x : Value} (hl : σ l = some (.raw od)) (hk : KdkAt (intKind pg c.w) od kvs ep) (hx : valueAt kvs j = some x) (h : Φ x m σ)
    (hs : subscripted i false (.ref l) (.int j t) = operate [.ref l, .int j t] (getItem (.ref l) (.int j t)) := by rfl) : WP c (subscriptTail e i (.ref l) (.int j t)) Φ m σ := fun hp g d tk o S => by
  obtain ⟨o', ho', rfl⟩ := S.at_ hl
  have hD := (hk.dictAt ho').dictOf
  exact tail_any hD.typeIs slot_dict_getitem.lookup (wpAny_getItem_of (intKind_is _ _ _ _) hD.mapOf hx ⟨hp, _, m, σ, rfl, S, h⟩) hs
def KeyTurn (c : Cf) (env : Env) (target elt : Expr) (kvs : List (Int × Value)) (it D Cn : Addr) (K : Nat → List Value → Gh → Prop) (mc : Value → Fields) (m : Fields) : Prop :=
  (∀ i kk x t ys τ old σ' (Φ : Unit → Fields → Gh → Prop), kvs[i]? = some (kk, x) → K i ys τ → Sub τ σ' → (old = [] ∨ ∃ u, old = mc u) → σ' Cn = some (.ns old) → Φ () m (upd σ' Cn (.ns (mc (.int kk t)))) → WP c (assign target env (.int kk t)) Φ m σ') ∧
  (∀ i kk x t ys τ J, kvs[i]? = some (kk, x) → K i ys τ → τ it = none → τ D = none → τ Cn = none → WP c (eval elt env) (fun y m' σ' => m' = m ∧ ∃ τ', K (i + 1) (ys ++ [y]) τ' ∧ τ' it = none ∧ τ' D = none ∧ τ' Cn = none ∧ Sub (Fr3 τ' it J D ys Cn (mc (.int kk t))) σ') m (Fr3 τ it J D ys Cn (mc (.int kk t))))
theorem wcomp_key {elt target iter : Expr} {scope : Scope} {p : Pos} {it D Cn d : Addr} {od io0 : Obj} {kvs : List (Int × Value)} {ep : Nat} {Ψ : Fields → Gh → Prop} (C : Cx c k) (K : Nat → List Value → Gh → Prop) (mc : Value → Fields)
    (hd : ∀ i ys τ, K i ys τ → τ d = some (.raw od)) (hk : KdkAt (intKind pg c.w) od kvs ep) (hio : KdkIter io0 d 0 kvs.length ep) (hn : kvs.length ≤ 1000) (a1 : it ≠ D) (a2 : it ≠ Cn) (a3 : D ≠ Cn) (T : KeyTurn c env target elt kvs it D Cn K mc m)
    (fin : ∀ ys τ σ', K kvs.length ys τ → τ D = none → τ Cn = none → Sub τ σ' → σ' D = some (.xlist ys) → (∃ mc, σ' Cn = some (.ns mc)) → Ψ m σ')
    (h0 : K 0 [] σ) (f1 : σ it = none) (f2 : σ D = none) (f3 : σ Cn = none) : WComp c (.ListComp elt [⟨target, iter, [], 0⟩] scope p) (.ref it) (.ref D) env Ψ m (Fr3 σ it (.raw io0) D [] Cn []) := by
  refine wcomp_ind (fun r m' σ' => ∃ i ys τ old io, r + i = kvs.length ∧ m' = m ∧ ys.length ≤ i ∧ K i ys τ ∧ τ it = none ∧ τ D = none ∧ τ Cn = none ∧ (old = [] ∨ ∃ u, old = mc u) ∧ KdkIter io d i kvs.length ep ∧ Sub (Fr3 τ it (.raw io) D ys Cn old) σ') ?_ kvs.length ⟨0, [], σ, [], io0, by omega, rfl, Nat.le_refl _, h0, f1, f2, f3, .inl rfl, hio, Sub.refl _⟩
  rintro r m' σ' ⟨i, ys, τ, old, io, hr, rfl, hy, hK, g1, g2, g3, ho, hi, hs⟩
  obtain ⟨s1, s2, s3, s4⟩ := Fr3.core hs g1 g2 g3 a1 a2 a3
  have hS := hd i ys τ hK
  by_cases hlt : i < kvs.length
  · obtain ⟨⟨kk, x⟩, hx⟩ : ∃ kv, kvs[i]? = some kv := ⟨_, List.getElem?_eq_getElem hlt⟩
    refine nx_key s2 hi (s1 _ _ hS) hk hx fun io' t hi' => ?_
    refine lo_key (upd_same _ _ _) hi' ?_
    refine T.1 i kk x t ys τ old _ _ hx hK (Sub.upd s1 g1) ho (upd_ne a2.symm s4) ?_
    have hs2 : Sub (Fr3 τ it (.raw io') D ys Cn (mc (.int kk t))) (upd (upd σ' it (.raw io')) Cn (.ns (mc (.int kk t)))) := by
      refine Fr3.of (Sub.upd (Sub.upd s1 g1) g3) (upd_ne a2 (upd_same _ _ _)) (upd_ne a3 (upd_ne a1.symm s3)) (upd_same _ _ _)
    refine wt_nil ⟨fun _ => WP.weak hs2 ((T.2 i kk x t ys τ _ hx hK g1 g2 g3).mono fun y m2 σ2 q2 => ?_), fun h => by cases h⟩
    obtain ⟨rfl, τ', b1, b2, b3, b4, b5⟩ := q2
    obtain ⟨t1, t2, t3, t4⟩ := Fr3.core b5 b2 b3 b4 a1 a2 a3
    refine append_x t3 (by rw [sizeLine_eq]; omega) ⟨r - 1, by omega, i + 1, ys ++ [y], τ', mc (.int kk t), io', by omega, rfl, by simp; omega, b1, b2, b3, b4, .inr ⟨_, rfl⟩, hi', ?_⟩
    exact Fr3.of (Sub.upd t1 b3) (upd_ne a1 t2) (upd_same _ _ _) (upd_ne a3.symm t4)
  · have : i = kvs.length := by omega
    subst this
    refine nx_key_end C s2 hi (s1 _ _ hS) hk (fin ys τ _ hK g2 g3 (Sub.drop s1 g1) ?_ ⟨old, ?_⟩)
    · show (if D = it then none else σ' D) = _
      rw [if_neg a1.symm]; exact s3
    · show (if Cn = it then none else σ' Cn) = _
      rw [if_neg a2.symm]; exact s4
/-- a comprehension over the keys of a dict -/
theorem wp_compD {elt target iter : Expr} {scope : Scope} {p : Pos} (C : Cx c k) (cl : List (Str × Addr))
    (h : WP c (eval iter env) (fun xv m σ => ∃ d kvs, xv = .ref d ∧ σ d = some (.idict kvs) ∧ kvs.length ≤ 1000 ∧ ∀ od ep, KdkAt (intKind pg c.w) od kvs ep → ∃ K mc, K 0 [] (upd σ d (.raw od)) ∧ (∀ i ys τ, K i ys τ → τ d = some (.raw od)) ∧
      (∀ it D Cn, (upd σ d (.raw od)) it = none → (upd σ d (.raw od)) D = none → (upd σ d (.raw od)) Cn = none → it ≠ D → it ≠ Cn → D ≠ Cn → KeyTurn c (compEnvC scope cl Cn env) target elt kvs it D Cn K mc m) ∧
      (∀ ys τ, K kvs.length ys τ → ∀ D, τ D = none → Φ (.ref D) m (upd (upd τ D (.xlist ys)) d (.idict kvs)))) m σ)
    (hclos : closureFor scope env = pure cl) (hcell : ∀ y ∈ scope.names, y.2 ≠ .cell) (hkind : scope.kind = .function) (hnames : ∀ y ∈ scope.names, y.2 = .local → scope.names.lookup y.1 = some .local)
    (hs : ∀ x, foldedSetIterable iter env x = pure x := by intro _; rfl) : WP c (eval (.ListComp elt [⟨target, iter, [], 0⟩] scope p) env) Φ m σ := by
  suffices key : WP c (eval (.ListComp elt [⟨target, iter, [], 0⟩] scope p) env) (fun v m' σ' => ∃ σ'' d od kvs, Sub σ'' σ' ∧ σ'' d = some (.raw od) ∧ (AO.idict kvs).Is c.w d od ∧ Φ v m' (upd σ'' d (.idict kvs))) m σ by
    intro hp g dd tk o S
    refine WP.use key S fun v h' tk' m' σ' S' q => ?_
    obtain ⟨σ'', d, od, kvs, hsub, e1, e2, hΦ⟩ := q
    exact ⟨h', tk', m', _, rfl, (S'.less hsub).retag e1 (fun o ho => by have : o = od := ho; rw [this]; exact e2), hΦ⟩
  refine wp_compG cl hclos hcell hkind hnames (h.mono fun xv m1 σ1 q => ?_) hs
  obtain ⟨d, kvs, rfl, e1, hz, q⟩ := q
  refine WP.obj e1 fun od hod => ?_
  obtain ⟨ep, hk⟩ := KdkAt.of hod.2
  obtain ⟨K, mc, hK, hKd, hT, hfin⟩ := q od ep hk
  refine it_key (upd_same _ _ _) hk hod.1 fun it io hit hio => ⟨it, .raw io, rfl, upd_same _ _ _, Selfy.key hio, fun D Cn hD hC hDC => ?_⟩
  obtain ⟨d1, d2⟩ := none_of_upd hD
  obtain ⟨f1, f2⟩ := none_of_upd hC
  refine wcomp_key C K mc hKd hk hio hz d1.symm f1.symm hDC (hT it D Cn hit d2 f2 d1.symm f1.symm hDC) (fun ys τ σ' b1 b3 b4 b5 b6 b7 => ⟨b7, upd τ D (.xlist ys), d, od, kvs, fun x A e => ?_, ?_, hod, hfin ys τ b1 D b3⟩) hK hit d2 f2
  · show (if x = Cn then none else σ' x) = some A
    unfold upd at e
    split at e
    · rename_i q; rw [q, if_neg hDC, b6, e]
    · rw [if_neg (ne_of_none b4 e)]; exact b5 _ _ e
  · exact upd_ne (ne_of_none b3 (hKd _ _ _ b1)) (hKd _ _ _ b1)
end
end Mine
namespace Mine
theorem lk_same {m : Fields} {x : Str} {v : Value} : lk (setF m x v) x = some v := by rw [lk_setF]; simp
theorem lk_ne {m : Fields} {x y : Str} {v w : Value} (h : y ≠ x) (e : lk m y = some w) : lk (setF m x v) y = some w := by rw [lk_setF]; simp [h, e]
section
variable {c : Cf} {k : Nat} {env : Env} {m : Fields} {σ ρ : Gh} {Φ : Value → Fields → Gh → Prop} {N : Fields → Gh → Prop} {R : Value → Fields → Gh → Prop}
theorem vA_cons (kv : Int × Value) (r : List (Int × Value)) (g : Int) : valueAt (kv :: r) g = if kv.1 = g then some kv.2 else valueAt r g := by
  unfold valueAt
  rw [List.find?_cons]
  by_cases h : kv.1 = g <;> simp [h]
theorem vA_map (j : Int) (v : Value) (g : Int) : ∀ kvs : List (Int × Value), valueAt (kvs.map fun kv => if kv.1 = j then (kv.1, v) else kv) g = if g = j then (valueAt kvs g).map (fun _ => v) else valueAt kvs g
  | [] => by simp [valueAt]
  | kv :: r => by
    rw [List.map_cons, vA_cons, vA_map j v g r, vA_cons]
    by_cases h1 : kv.1 = j
    · by_cases h2 : kv.1 = g
      · have : g = j := h2.symm.trans h1
        simp [h1, h2, this]
      · have : ¬ g = j := fun e => h2 (h1.trans e.symm)
        have h4 : ¬ j = g := fun e => this e.symm
        simp [h1, h4, this]
    · by_cases h2 : kv.1 = g
      · have : ¬ g = j := fun e => h1 (h2.trans e)
        simp [h1, h2, this]
      · by_cases h3 : g = j
        · simp [h1, h2, h3]
        · simp [h1, h2, h3]
theorem vA_app (k0 : Int × Value) (g : Int) : ∀ kvs : List (Int × Value), valueAt (kvs ++ [k0]) g = match valueAt kvs g with | some x => some x | none => if k0.1 = g then some k0.2 else none
  | [] => by rw [List.nil_append, vA_cons]; simp [valueAt]
  | kv :: r => by
    rw [List.cons_append, vA_cons, vA_app k0 g r, vA_cons]
    by_cases h : kv.1 = g <;> simp [h]
theorem vA_any (j : Int) : ∀ kvs : List (Int × Value), kvs.any (fun kv => kv.1 = j) = (valueAt kvs j).isSome
  | [] => by simp [valueAt]
  | kv :: r => by
    rw [List.any_cons, vA_any j r, vA_cons]
    by_cases h : kv.1 = j <;> simp [h]
theorem valueAt_stored (kvs : List (Int × Value)) (j : Int) (v : Value) (g : Int) : valueAt (stored kvs j v) g = if g = j then some v else valueAt kvs g := by
  unfold stored
  rw [vA_any]
  by_cases h : (valueAt kvs j).isSome = true
  · rw [if_pos h, vA_map]
    obtain ⟨x, hx⟩ := Option.isSome_iff_exists.mp h
    by_cases hg : g = j
    · subst hg; simp [hx]
    · simp [hg]
  · rw [if_neg h, vA_app]
    have hn : valueAt kvs j = none := by simpa using h
    by_cases hg : g = j
    · subst hg; simp [hn]
    · have : ¬ j = g := fun e => hg e.symm
      simp [hg, this]
      cases valueAt kvs g <;> rfl
theorem stored_nodup (kvs : List (Int × Value)) (j : Int) (v : Value) (h : (kvs.map (·.1)).Nodup) : ((stored kvs j v).map (·.1)).Nodup := by
  unfold stored
  split
  · have e : (kvs.map fun kv => if kv.1 = j then (kv.1, v) else kv).map (·.1) = kvs.map (·.1) := by
      rw [List.map_map]
      refine List.map_congr_left fun kv _ => ?_
      show (if kv.1 = j then (kv.1, v) else kv).1 = kv.1
      split <;> rfl
    rw [e]; exact h
  · rename_i hn
    rw [List.map_append, List.nodup_append]
    refine ⟨h, by simp, fun a ha b hb e => hn ?_⟩
    obtain ⟨kv, hkv, rfl⟩ := List.mem_map.mp ha
    simp at hb
    exact List.any_eq_true.mpr ⟨kv, hkv, by simp; omega⟩
/-- a range from 0 -/
def rI (n : Nat) : Nat → AO := fun i => .rangeIter (0 + (i : Nat) * 1) ((n : Int) - (i : Nat)) 1
def rItem : Nat → Value → Prop := fun i v => ∃ t, v = .int (i : Nat) t
theorem Src.up {r : Addr} {n : Nat} {t1 t2 t3 : Tok} (h : σ r = some (.raw (rangeO 0 n 1 t1 t2 t3))) (hn : n < 2 ^ 60) : Src σ (.ref r) (rI n) n rItem := by
  obtain ⟨a1, a2⟩ := rs_up n hn
  exact .inr (.inr ⟨r, 0, n, 1, t1, t2, t3, rfl, h, a1, a2, rfl, fun i t => ⟨t, by rw [Int.zero_add, Int.mul_one]⟩⟩)
end
end Mine
namespace Mine
section
variable {c : Cf} {k : Nat} {env : Env} {m : Fields} {σ : Gh} {Φ : Value → Fields → Gh → Prop}
theorem enterC2 {f : Addr} {name qual : Str} {params : Arguments} {body : List Stmt} {scope : Scope} {dV kV doc pm cdv ct oc : Value} {an od : Option Addr} {osl : Array (Option Value)} {args : List Value} (binds : Fields) (m₀ : Fields)
    (C : Cx c (k + 1)) (ho : (hd.heap_39 c.w.params).lookup f = some ⟨oc, od, .func (fnOf name qual params body scope dV kV doc pm an cdv ct), osl⟩) (hcd : codeIn (hd.heap_39 c.w.params) cdv qual = true)
    (hbind : ∀ s : Shared, (hd.heap_39 c.w.params).In s.heap → BindsTo s (fnOf name qual params body scope dV kV doc pm an cdv ct) ⟨args, []⟩ binds)
    (hkind : (binds.all fun y => scope.names.lookup y.1 == some .local || scope.names.lookup y.1 == some .cell) = true) (hnd : ((cellsFrom 0 scope.names []).map (·.1)).Nodup)
    (hm : ∀ L', bindL (envOfC qual scope L' f cdv).kindOf binds (fun _ => none) = lk m₀)
    (h : ∀ A' h₀' L', Cx ⟨c.w, A', h₀', L'⟩ k → Ev ⟨c.w, A', h₀', L'⟩ (envOfC qual scope L' f cdv) → (∀ a, L' ≤ a → σ a = none) → (∀ a o, c.h₀.get? a = some o → h₀'.get? a = some o) →
      WS ⟨c.w, A', h₀', L'⟩ body (envOfC qual scope L' f cdv) (fun _ σ' => Φ .none m σ') (fun v _ σ' => Φ v m σ') m₀ (addCells (bindC (envOfC qual scope L' f cdv).kindOf binds fun _ => none) σ (cellsFrom (L' + 1) scope.names [])))
    (hco : scope.isCoroutine = false) (hgen : scope.isGenerator = false) (hk : scope.kind = .function) : WC c (.ref f) args Φ m σ := fun hp g d tk o S => by
  obtain ⟨A₀, base, outer, env, B, hA, hf, hke⟩ := C.below
  obtain ⟨p, loose, mean, mg, mb, T⟩ := C.top
  obtain ⟨news, Nw, hN, hnd'⟩ := S.news
  refine code_defC B S.fr C.X Nw T hA hf hke ho hcd (by have := C.depth; omega) (hbind _ (C.X.keeps S.fr.keep)) hkind hnd (fun g' L' h₁ tk' cells FG F' N' Y B' X' T' l1 => ?_) hco hgen hk
  have C' : Cx ⟨c.w, c.A.deeper (envOfC qual scope L' f cdv), g', L'⟩ k := by
    refine ⟨⟨c.A, base, env :: outer, envOfC qual scope L' f cdv, B', Around.frames_deeper hA, rfl, hk⟩, X', ⟨p, loose, mean, mg, mb, T'⟩, C.hh, ?_, ?_⟩
    · have := C.depth; show c.A.depth + 1 + k < recursionLimit; omega
    · have := C.units; show c.A.units + 3 + 20 * k + 20 < cLine; omega
  have hfree : ∀ a, L' ≤ a → σ a = none := fun a ha => by
    cases e : σ a with
    | none => rfl
    | some A =>
      obtain ⟨o', hm', _⟩ := hN a A e
      exact absurd (Nat.lt_of_lt_of_le (l1 _ hm') ha) (Nat.lt_irrefl _)
  have S' : St c.w g' L' h₁ m₀ (addCells (bindC (envOfC qual scope L' f cdv).kindOf binds fun _ => none) σ (cellsFrom (L' + 1) scope.names [])) := by
    refine ⟨by rw [← hm L']; exact F', Led.of_news N' (addCells_led Y (fun p hp => List.mem_append_left _ hp) fun a A e => ?_)⟩
    obtain ⟨o', hm', hA'⟩ := hN a A e
    exact ⟨o', List.mem_append_right _ hm', hA'⟩
  refine wpAny_mono (h _ _ _ C' ⟨rfl, hk, rfl, rfl, rfl⟩ hfree FG.keep h₁ g d _ o S') (fun fl s' q => ?_) fun _ _ x => x.elim
  obtain ⟨h', tk', m', σ', rfl, S2, hq⟩ := q
  obtain ⟨news', Nw', hN', _⟩ := S2.news
  refine leaveK_ S2.fr Nw' fun F2 N2 => ?_
  have S3 : St c.w c.h₀ c.L h' m σ' := ⟨F2, Led.of_news N2 hN'⟩
  cases fl with
  | next => exact ⟨h', tk', m, σ', rfl, S3, hq⟩
  | ret v => exact ⟨h', tk', m, σ', rfl, S3, hq⟩
  | brk => exact hq.elim
  | cont => exact hq.elim
/-- a list that stood before the frame -/
theorem sub_sliceB {value i : Expr} {l a : Addr} {vs : List Value} {vl vu : Value} {lo hi : Option Int} (hl : c.h₀.IsList l vs.toArray) (ha : σ a = some (.raw (sliceO vl vu))) (pl : IsPart vl lo) (pu : IsPart vu hi) (hz : vs.length ≤ sizeLine)
    (h : ∀ D, σ D = none → Φ (.ref D) m (upd σ D (.xlist (kms_pick vs lo hi)))) (hs : subscripted i false (.ref l) (.ref a) = operate [.ref a, .ref l] (getItem (.ref l) (.ref a)) := by rfl) : WP c (subscriptTail value i (.ref l) (.ref a)) Φ m σ := fun hp g d tk o S => by
  have hl' : hp.IsList l vs.toArray := by
    obtain ⟨o', ho', r⟩ := hl
    exact ⟨o', S.fr.keep _ _ ho', r⟩
  refine tail_any hl'.typeIs list_getitem_lookup (wpAny_getItem_list_slice hl' (slice_at S ha) pl pu .none (by simp) ⟨_, tk, m, _, rfl, S.push (A := .xlist (kms_pick vs lo hi)) ⟨0, ?_⟩ rfl, h _ S.free⟩ (by simpa using hz)) hs
  rw [kms_pick_eq]
end
end Mine
namespace Mine
section
variable {c : Cf} {k : Nat} {env : Env} {m : Fields} {σ ρ : Gh} {Φ : Value → Fields → Gh → Prop} {N : Fields → Gh → Prop} {R : Value → Fields → Gh → Prop}
theorem envOne {M : Model} {A : Around} {E : Value → Shared → Prop} {s : Shared} {scope : Scope} {globals : Addr} {cl : List (Str × Addr)} {qual : Str} {outer : Env} {Q : Env → Shared → Prop} {kn : Str}
    (hpc : ∀ h : Heap, pushCells h scope.names = h.push { cls := .type "cell", data := .cell none }) (hcf : ∀ lo, cellsFrom lo scope.names cl = (kn, lo) :: cl)
    (h : Q { scope, locals := s.heap.objs.size, globals, cells := (kn, s.heap.objs.size + 1) :: cl, qual, func := none, code := outer.code, frame := outer.frame, builtins := outer.builtins } { s with heap := (s.heap.push { cls := .type "dict", data := .dict #[] }).push { cls := .type "cell", data := .cell none } }) :
    wpAny M A (newFunctionEnv scope globals cl [] qual none .none (some outer)) Q E s := by
  simp only [newFunctionEnv, Option.isSome_some, if_true]
  refine wpAny_bind (wpAny_alloc ?_)
  refine wpAny_bind (wpAny_layCells _ (fun name kind cells => by cases hkc : kind == NameKind.cell <;> simp [hkc]) _ _ _ _ ?_)
  rw [hpc, hcf]
  dsimp only
  rw [Heap.size_push]
  exact wpAny_bind (wpAny_pure (wpAny_pure h))
abbrev Fr4 (τ : Gh) (it : Addr) (J : AO) (D : Addr) (ys : List Value) (Cn : Addr) (mc : Fields) (Kc : Addr) (kv : Option Value) : Gh := upd (Fr3 τ it J D ys Cn mc) Kc (.cell kv)
theorem comp_blockK {elt target iter : Expr} {ifs : List Expr} {scope : Scope} {cl : List (Str × Addr)} {p : Pos} {it : Addr} {A : AO} {env : Env} {kn : Str}
    (hpc : ∀ h : Heap, pushCells h scope.names = h.push { cls := .type "cell", data := .cell none }) (hcf : ∀ lo, cellsFrom lo scope.names cl = (kn, lo) :: cl)
    (hi : σ it = some A) (hA : Selfy c it A) {RR : Value → Addr → Result → Shared → Prop} {hp : Heap} {g : Array GenState} {d : Drawn} {tk : Nat} {o : OsState} (S : St c.w c.h₀ c.L hp m σ)
    {Ψ : Addr → Addr → Fields → Gh → Prop}
    (h : ∀ D C, σ D = none → σ C = none → σ (C + 1) = none → D ≠ C → D ≠ C + 1 → WComp c (.ListComp elt [⟨target, iter, ifs, 0⟩] scope p) (.ref it) (.ref D) (compEnvC scope ((kn, C + 1) :: cl) C env) (fun m σ => Ψ D C m σ) m (upd (upd (upd σ D (.xlist [])) C (.ns [])) (C + 1) (.cell none)))
    (hRR : ∀ D C h' tk' m' σ', St c.w c.h₀ c.L h' m' σ' → Ψ D C m' σ' → RR (.ref D) C (.ok .next) ⟨h', g, d, tk', o⟩) (hok : ∀ D C f s', RR D C (.ok .next) s' → RR D C (.ok f) s') :
    wpAny (model pg c.w) c.A (newList []) (fun acc s₃ => wpAny (model pg c.w) c.A (newFunctionEnv scope env.globals cl [] env.qual none .none (some env)) (fun cenv s₄ =>
      codeAny (model pg c.w) c.A (.compStart (.ListComp elt [⟨target, iter, ifs, 0⟩] scope p) 0 (.ref it) acc { cenv with scope := relabel scope env }) (RR acc cenv.locals) s₄) (fun _ _ => False) s₃) (fun _ _ => False) ⟨hp, g, d, tk, o⟩ := by
  refine wpAny_newObj_type (envOne hpc hcf ?_)
  dsimp only
  generalize hH2 : hp.push { cls := .type "list", dict := none, data := .seq ([] : List Value).toArray } = H2
  have S1 : St c.w c.h₀ c.L H2 m (upd σ hp.objs.size (.xlist [])) := by
    rw [← hH2]; exact S.push (A := .xlist []) ⟨0, rfl⟩ rfl
  have hD := S.free
  have hsz : H2.objs.size = hp.objs.size + 1 := by rw [← hH2, Heap.size_push]
  have hfr : ∀ {a : Addr}, hp.objs.size ≤ a → σ a = none := fun {a} ha => by
    cases e : σ a with
    | none => rfl
    | some A => exact absurd (S.lt e) (Nat.not_lt.mpr ha)
  have hC : σ H2.objs.size = none := hfr (by rw [hsz]; exact Nat.le_succ _)
  have hC1 : σ (H2.objs.size + 1) = none := hfr (by rw [hsz]; exact Nat.le_trans (Nat.le_succ _) (Nat.le_succ _))
  have hne : hp.objs.size ≠ H2.objs.size := by rw [hsz]; exact Nat.ne_of_lt (Nat.lt_succ_self _)
  have hne1 : hp.objs.size ≠ H2.objs.size + 1 := by rw [hsz]; exact Nat.ne_of_lt (Nat.lt_succ_of_lt (Nat.lt_succ_self _))
  have S2 : St c.w c.h₀ c.L (H2.push { cls := .type "dict", dict := none, data := .dict #[] }) m (upd (upd σ hp.objs.size (.xlist [])) H2.objs.size (.ns [])) :=
    S1.push (o := { cls := .type "dict", dict := none, data := .dict #[] }) (A := .ns []) ⟨#[], 0, rfl, (fun e he => by simp at he), fun name => rfl⟩ rfl
  have S3 : St c.w c.h₀ c.L ((H2.push { cls := .type "dict", dict := none, data := .dict #[] }).push { cls := .type "cell", data := .cell none }) m (upd (upd (upd σ hp.objs.size (.xlist [])) H2.objs.size (.ns [])) (H2.objs.size + 1) (.cell none)) := by
    have := S2.push (o := { cls := .type "cell", data := .cell none }) (A := .cell none) rfl rfl
    rw [Heap.size_push] at this
    exact this
  have hi2 : (upd (upd (upd σ hp.objs.size (.xlist [])) H2.objs.size (.ns [])) (H2.objs.size + 1) (.cell none)) it = some A := upd_ne (ne_of_none hC1 hi) (upd_ne (ne_of_none hC hi) (upd_ne (ne_of_none hD hi) hi))
  have loop : ∀ (h' : Heap) (tk' : Nat), St c.w c.h₀ c.L h' m (upd (upd (upd σ hp.objs.size (.xlist [])) H2.objs.size (.ns [])) (H2.objs.size + 1) (.cell none)) → codeAny (model pg c.w) c.A (.compLoop (.ListComp elt [⟨target, iter, ifs, 0⟩] scope p) 0 (.ref it) (.ref hp.objs.size) (compEnvC scope ((kn, H2.objs.size + 1) :: cl) H2.objs.size env)) (RR (.ref hp.objs.size) H2.objs.size) ⟨h', g, d, tk', o⟩ := fun h' tk' S' =>
    codeAny_mono (h _ _ hD hC hC1 hne hne1 h' g d _ o S') fun r s' q => by
      cases r with
      | error e => exact q.elim
      | ok f =>
        obtain ⟨h', tk', m', σ', rfl, S', hq⟩ := q
        exact hok _ _ f _ (hRR _ _ h' tk' m' σ' S' hq)
  refine codeAny_compStart_list (loop _ _ S3) ?_
  refine wpAny_mono (hA m _ (fun v m2 σ2 => v = .ref it ∧ m2 = m ∧ σ2 = (upd (upd (upd σ hp.objs.size (.xlist [])) H2.objs.size (.ns [])) (H2.objs.size + 1) (.cell none))) hi2 ⟨rfl, rfl, rfl⟩ _ g d _ o S3) (fun v s' q => ?_) fun _ _ x => x.elim
  obtain ⟨h', tk', m', σ', rfl, S', rfl, rfl, rfl⟩ := q
  exact loop _ _ S'
def TurnK (c : Cf) (env : Env) (target elt : Expr) (I : Nat → AO) (n : Nat) (item : Nat → Value → Prop) (it D Cn Kc : Addr) (K : Nat → List Value → Gh → Prop) (mc : Nat → Value → Fields) (kv : Nat → Value → Value) (m : Fields) : Prop :=
  (∀ i v ys τ old oldk σ' (Φ : Unit → Fields → Gh → Prop), i < n → item i v → K i ys τ → Sub τ σ' → (old = [] ∨ ∃ j u, old = mc j u) → σ' Cn = some (.ns old) → σ' Kc = some (.cell oldk) → Cn ≠ Kc → Φ () m (upd (upd σ' Kc (.cell (some (kv i v)))) Cn (.ns (mc i v))) → WP c (assign target env v) Φ m σ') ∧
  (∀ i v ys τ, i < n → item i v → K i ys τ → τ it = none → τ D = none → τ Cn = none → τ Kc = none → WP c (eval elt env) (fun y m' σ' => m' = m ∧ ∃ τ', K (i + 1) (ys ++ [y]) τ' ∧ τ' it = none ∧ τ' D = none ∧ τ' Cn = none ∧ τ' Kc = none ∧ Sub (Fr4 τ' it (I (i + 1)) D ys Cn (mc i v) Kc (some (kv i v))) σ') m (Fr4 τ it (I (i + 1)) D ys Cn (mc i v) Kc (some (kv i v))))
theorem Fr4.core {τ σ : Gh} {it D Cn Kc : Addr} {J : AO} {ys : List Value} {mc : Fields} {kv : Option Value} (h : Sub (Fr4 τ it J D ys Cn mc Kc kv) σ) (h1 : τ it = none) (h2 : τ D = none) (h3 : τ Cn = none) (h4 : τ Kc = none) (a1 : it ≠ D) (a2 : it ≠ Cn) (a3 : D ≠ Cn) (b1 : it ≠ Kc) (b2 : D ≠ Kc) (b3 : Cn ≠ Kc) :
    Sub τ σ ∧ σ it = some J ∧ σ D = some (.xlist ys) ∧ σ Cn = some (.ns mc) ∧ σ Kc = some (.cell kv) := by
  refine ⟨fun x A e => h x A ?_, h _ _ ?_, h _ _ ?_, h _ _ ?_, h _ _ (upd_same _ _ _)⟩
  · exact upd_ne (ne_of_none h4 e) (upd_ne (ne_of_none h3 e) (upd_ne (ne_of_none h2 e) (upd_ne (ne_of_none h1 e) e)))
  · exact upd_ne b1 (upd_ne a2 (upd_ne a1 (upd_same _ _ _)))
  · exact upd_ne b2 (upd_ne a3 (upd_same _ _ _))
  · exact upd_ne b3 (upd_same _ _ _)
theorem Fr4.of {τ σ : Gh} {it D Cn Kc : Addr} {J : AO} {ys : List Value} {mc : Fields} {kv : Option Value} (h : Sub τ σ) (h1 : σ it = some J) (h2 : σ D = some (.xlist ys)) (h3 : σ Cn = some (.ns mc)) (h4 : σ Kc = some (.cell kv)) : Sub (Fr4 τ it J D ys Cn mc Kc kv) σ := fun x A e => by
  unfold Fr4 at e
  unfold upd at e
  split at e
  · rename_i q; cases e; rw [q]; exact h4
  · exact Fr3.of h h1 h2 h3 x A e
theorem wcomp_srcK {elt target iter : Expr} {scope : Scope} {p : Pos} {it D Cn Kc : Addr} {Ψ : Fields → Gh → Prop} {xv : Value} {I : Nat → AO} {n : Nat} {item : Nat → Value → Prop} (C : Cx c k) (K : Nat → List Value → Gh → Prop) (mc : Nat → Value → Fields) (kv : Nat → Value → Value)
    (hsrc : ∀ i ys τ, K i ys τ → Src τ xv I n item) (hn : n ≤ sizeLine) (a1 : it ≠ D) (a2 : it ≠ Cn) (a3 : D ≠ Cn) (b1 : it ≠ Kc) (b2 : D ≠ Kc) (b3 : Cn ≠ Kc) (T : TurnK c env target elt I n item it D Cn Kc K mc kv m)
    (fin : ∀ ys τ σ', K n ys τ → ys.length ≤ n → τ D = none → τ Cn = none → Sub τ σ' → σ' D = some (.xlist ys) → (∃ mc, σ' Cn = some (.ns mc)) → Ψ m σ')
    (h0 : K 0 [] σ) (f1 : σ it = none) (f2 : σ D = none) (f3 : σ Cn = none) (f4 : σ Kc = none) : WComp c (.ListComp elt [⟨target, iter, [], 0⟩] scope p) (.ref it) (.ref D) env Ψ m (Fr4 σ it (I 0) D [] Cn [] Kc none) := by
  refine wcomp_ind (fun r m' σ' => ∃ i ys τ old oldk, r + i = n ∧ m' = m ∧ ys.length ≤ i ∧ K i ys τ ∧ τ it = none ∧ τ D = none ∧ τ Cn = none ∧ τ Kc = none ∧ (old = [] ∨ ∃ j u, old = mc j u) ∧ Sub (Fr4 τ it (I i) D ys Cn old Kc oldk) σ') ?_ n ⟨0, [], σ, [], none, by omega, rfl, Nat.le_refl _, h0, f1, f2, f3, f4, .inl rfl, Sub.refl _⟩
  rintro r m' σ' ⟨i, ys, τ, old, oldk, hr, rfl, hy, hK, g1, g2, g3, g4, ho, hs⟩
  obtain ⟨s1, s2, s3, s4, s5⟩ := Fr4.core hs g1 g2 g3 g4 a1 a2 a3 b1 b2 b3
  have hS := hsrc i ys τ hK
  by_cases hlt : i < n
  · refine src_next (hS.sub s1) s2 hlt fun v hv => ?_
    refine lo_src (i := i + 1) (hS.sub (Sub.upd s1 g1)) (upd_same _ _ _) ?_
    refine T.1 i v ys τ old oldk _ _ hlt hv hK (Sub.upd s1 g1) ho (upd_ne a2.symm s4) (upd_ne b1.symm s5) b3 ?_
    have hs2 : Sub (Fr4 τ it (I (i + 1)) D ys Cn (mc i v) Kc (some (kv i v))) (upd (upd (upd σ' it (I (i + 1))) Kc (.cell (some (kv i v)))) Cn (.ns (mc i v))) := by
      refine Fr4.of (Sub.upd (Sub.upd (Sub.upd s1 g1) g4) g3) (upd_ne a2 (upd_ne b1 (upd_same _ _ _))) (upd_ne a3 (upd_ne b2 (upd_ne a1.symm s3))) (upd_same _ _ _) (upd_ne b3.symm (upd_same _ _ _))
    refine wt_nil ⟨fun _ => WP.weak hs2 ((T.2 i v ys τ hlt hv hK g1 g2 g3 g4).mono fun y m2 σ2 q2 => ?_), fun h => by cases h⟩
    obtain ⟨rfl, τ', c1, c2, c3, c4, c5, c6⟩ := q2
    obtain ⟨t1, t2, t3, t4, t5⟩ := Fr4.core c6 c2 c3 c4 c5 a1 a2 a3 b1 b2 b3
    refine append_x t3 (by omega) ⟨r - 1, by omega, i + 1, ys ++ [y], τ', mc i v, some (kv i v), by omega, rfl, by simp; omega, c1, c2, c3, c4, c5, .inr ⟨_, _, rfl⟩, ?_⟩
    exact Fr4.of (Sub.upd t1 c3) (upd_ne a1 t2) (upd_same _ _ _) (upd_ne a3.symm t4) (upd_ne b2.symm t5)
  · have : i = n := by omega
    subst this
    refine src_end C (hS.sub s1) s2 (fin ys τ _ hK hy g2 g3 (Sub.drop s1 g1) ?_ ⟨old, ?_⟩)
    · show (if D = it then none else σ' D) = _
      rw [if_neg a1.symm]; exact s3
    · show (if Cn = it then none else σ' Cn) = _
      rw [if_neg a2.symm]; exact s4
/-- a comprehension whose scope has one cell of its own -/
theorem wp_compK {elt target iter : Expr} {scope : Scope} {p : Pos} {kn : Str} (C : Cx c k) (cl : List (Str × Addr))
    (hpc : ∀ h : Heap, pushCells h scope.names = h.push { cls := .type "cell", data := .cell none }) (hcf : ∀ lo, cellsFrom lo scope.names cl = (kn, lo) :: cl)
    (h : WP c (eval iter env) (fun xv m σ => ∃ I n item K mc kv, n ≤ sizeLine ∧ K 0 [] σ ∧ (∀ i ys τ, K i ys τ → Src τ xv I n item) ∧
      (∀ it D Cn, σ it = none → σ D = none → σ Cn = none → σ (Cn + 1) = none → it ≠ D → it ≠ Cn → D ≠ Cn → it ≠ Cn + 1 → D ≠ Cn + 1 → TurnK c (compEnvC scope ((kn, Cn + 1) :: cl) Cn env) target elt I n item it D Cn (Cn + 1) K mc kv m) ∧ (∀ ys τ, K n ys τ → ys.length ≤ n → ∀ D, τ D = none → Φ (.ref D) m (upd τ D (.xlist ys)))) m σ)
    (hclos : closureFor scope env = pure cl) (hkind : scope.kind = .function) (hnames : ∀ y ∈ scope.names, y.2 = .local → scope.names.lookup y.1 = some .local)
    (hs : ∀ x, foldedSetIterable iter env x = pure x := by intro _; rfl) : WP c (eval (.ListComp elt [⟨target, iter, [], 0⟩] scope p) env) Φ m σ := by
  refine WP.forget ?_
  intro hp g d tk o S
  rw [eval_ListComp]
  refine wpAny_comprehension_free (use := none) rfl hs hclos hkind hnames (WP.use h S fun xv h1 tk1 m1 σ1 S1 w1 => ?_)
  obtain ⟨I, n, item, K, mc, kv, hn, hK, hsrc, hT, hfin⟩ := w1
  refine WP.use (src_iter (Φ := fun iv m' σ' => ∃ it, iv = .ref it ∧ m' = m1 ∧ σ1 it = none ∧ σ' = upd σ1 it (I 0)) (hsrc _ _ _ hK) fun it hit => ⟨it, rfl, rfl, hit, rfl⟩) S1 fun iv h2 tk2 m2 σ2 S2 w2 => ?_
  obtain ⟨it, rfl, rfl, hit, rfl⟩ := w2
  refine comp_blockK (RR := fun acc C => compPost (model pg c.w) c.A (fun _ _ => False) none (Post c g d o fun a m' σ' => ∃ σ'', Sub σ'' σ' ∧ Φ a m' σ'') acc C)
    (Ψ := fun D Cn m' σ' => (∃ mc, σ' Cn = some (.ns mc)) ∧ ∃ σ'', Sub σ'' (fun a => if a = Cn then none else σ' a) ∧ Φ (.ref D) m' σ'') hpc hcf (upd_same _ _ _) (Selfy.of ((hsrc _ _ _ hK).kind 0)) S2 (fun D Cn hD hC hC1 hDC hDC1 => ?_) (fun D C h' tk' m' σ' S' hq => ?_) (fun _ _ f _ q => q)
  · obtain ⟨d1, d2⟩ := none_of_upd hD
    obtain ⟨e1, e2⟩ := none_of_upd hC
    obtain ⟨k1, k2⟩ := none_of_upd hC1
    refine wcomp_srcK C K mc kv hsrc hn d1.symm e1.symm hDC k1.symm hDC1 (Nat.ne_of_lt (Nat.lt_succ_self _)) (hT it D Cn hit d2 e2 k2 d1.symm e1.symm hDC k1.symm hDC1) (fun ys τ σ' b1 b2 b3 b4 b5 b6 b7 => ⟨b7, upd τ D (.xlist ys), fun x A e => ?_, hfin ys τ b1 b2 D b3⟩) hK hit d2 e2 k2
    show (if x = Cn then none else σ' x) = some A
    unfold upd at e
    split at e
    · rename_i q; rw [q, if_neg hDC, b6, e]
    · rw [if_neg (ne_of_none b4 e)]; exact b5 _ _ e
  · obtain ⟨⟨mc', hC⟩, hΦ⟩ := hq
    exact ⟨_, ns_at S' hC, fun h'' hs'' => ⟨h'', _, m', _, rfl, comp_drop S' hC hs'', hΦ⟩⟩
theorem nc2_local {x : Str} {p : Pos} {v : Value} {scope scope2 : Scope} {cl cl2 : List (Str × Addr)} {C C2 : Addr} {mc : Fields} (he : Ev c env) (hk : scope.kind = .function) (hk2 : scope2.kind = .function) (hl : (compEnvC scope2 cl2 C2 (compEnvC scope cl C env)).kindOf x = some .local) (hm : σ C2 = some (.ns mc)) (hv : lk mc x = some v) (h : Φ v m σ) (hd' : (x == ("__debug__" : Str)) = false := by decide) : WP c (eval (.Name x p) (compEnvC scope2 cl2 C2 (compEnvC scope cl C env))) Φ m σ :=
  ng_local ((he.eg.comp hk).comp hk2) hl rfl hm hv h hd'
theorem nc2_cell {x : Str} {p : Pos} {v : Value} {a : Addr} {scope scope2 : Scope} {cl cl2 : List (Str × Addr)} {C C2 : Addr} (he : Ev c env) (hk : scope.kind = .function) (hk2 : scope2.kind = .function) (hl : (compEnvC scope2 cl2 C2 (compEnvC scope cl C env)).kindOf x = some .cell) (ha : (compEnvC scope2 cl2 C2 (compEnvC scope cl C env)).cells.lookup x = some a) (hv : σ a = some (.cell (some v))) (h : Φ v m σ) (hd' : (x == ("__debug__" : Str)) = false := by decide) : WP c (eval (.Name x p) (compEnvC scope2 cl2 C2 (compEnvC scope cl C env))) Φ m σ :=
  ng_cell ((he.eg.comp hk).comp hk2) hl ha hv h hd'
theorem nc2_glob {x : Str} {p : Pos} {v : Value} {scope scope2 : Scope} {cl cl2 : List (Str × Addr)} {C C2 : Addr} (hC : Cx c k) (he : Ev c env) (hk : scope.kind = .function) (hk2 : scope2.kind = .function) (hl : (compEnvC scope2 cl2 C2 (compEnvC scope cl C env)).kindOf x = some .globalImplicit) (hv : nsIn (hd.heap_39 c.w.params) mainGlobals x = some (some v)) (h : Φ v m σ) (hd' : (x == ("__debug__" : Str)) = false := by decide) : WP c (eval (.Name x p) (compEnvC scope2 cl2 C2 (compEnvC scope cl C env))) Φ m σ :=
  ng_glob hC ((he.eg.comp hk).comp hk2) hl hv h hd'
end
end Mine
namespace Mine
local macro_rules | `(tactic| walk_at "ne") => `(tactic| first | with_reducible assumption | (refine Ne.symm ?_; with_reducible assumption) | omega | (refine' ne_of_none ?hn ?he; (case hn => with_reducible assumption); (case he => walk_at "sig")) | (refine Ne.symm ?_; refine' ne_of_none ?hn ?he; (case hn => with_reducible assumption); (case he => walk_at "sig")) | fail)
local macro_rules | `(tactic| walk_at "sig") => `(tactic| first | with_reducible assumption | with_reducible exact upd_same _ _ _ | ((with_reducible refine' upd_ne ?hne ?hup); (case hne => walk_at "ne"); (case hup => walk_at "sig")) | fail)
local macro_rules | `(tactic| walk_at "name") => `(tactic| first
  | refine wp_name (by with_reducible assumption) (by with_unfolding_all rfl) (by with_unfolding_all rfl) ?_
  | refine wp_nameG (by with_reducible assumption) (by with_reducible assumption) (by with_unfolding_all rfl) (by k_is) ?_
  | refine wp_nameB (by with_reducible assumption) (by with_reducible assumption) (by with_unfolding_all rfl) (by k_is) (by boot_by_name) (by decide) ?_
  | (refine' nc_local (by with_reducible assumption) (by with_unfolding_all rfl) (by with_unfolding_all rfl) ?hm ?hv ?_; (case hm => walk_at "sig"); (case hv => with_unfolding_all rfl))
  | (refine' nc_cell (by with_reducible assumption) (by with_unfolding_all rfl) (by with_unfolding_all rfl) (by with_unfolding_all rfl) ?hv ?_; (case hv => walk_at "sig"))
  | (refine' nc_free (by with_reducible assumption) (by with_unfolding_all rfl) (by with_unfolding_all rfl) (by with_unfolding_all rfl) ?hv ?_; (case hv => walk_at "sig"))
  | refine ng_glob (by with_reducible assumption) (Eg.comp (Ev.eg (by with_reducible assumption)) (by with_unfolding_all rfl)) (by with_unfolding_all rfl) (by k_is) ?_
  | refine ng_blt (by with_reducible assumption) (Eg.comp (Ev.eg (by with_reducible assumption)) (by with_unfolding_all rfl)) (by with_unfolding_all rfl) (by k_is) (by boot_by_name) (by decide) ?_
  | (refine' ng_free (Eg.comp (Ev.eg (by with_reducible assumption)) (by with_unfolding_all rfl)) (by with_unfolding_all rfl) (by with_unfolding_all rfl) ?hv ?_; (case hv => walk_at "sig"))
  | (refine' ng_cell (Ev.eg (by with_reducible assumption)) (by with_unfolding_all rfl) (by with_unfolding_all rfl) ?hv ?_; (case hv => walk_at "sig"))
  | (refine' ng_free (Ev.eg (by with_reducible assumption)) (by with_unfolding_all rfl) (by with_unfolding_all rfl) ?hv ?_; (case hv => walk_at "sig")) | fail)
local macro_rules | `(tactic| walk_at "w") => `(tactic| first
  | with_reducible refine ws_cons ?_
  | with_reducible refine ws_nil ?_
  | with_reducible refine we_ret ?_
  | with_reducible refine we_ret0 ?_
  | with_reducible refine we_if ?_
  | (with_reducible refine we_assign (by assumption) ?_ ?hl ?hsw; (case hl => with_unfolding_all rfl); (case hsw => with_unfolding_all rfl))
  | ((with_reducible refine we_assignG ?_ ?hsw); (case hsw => with_unfolding_all rfl))
  | ((with_reducible show WP _ (storeName _ _ _) _ _ _); refine' sg_cell (Ev.eg (by with_reducible assumption)) (by with_unfolding_all rfl) (by with_unfolding_all rfl) ?hv ?_; (case hv => walk_at "sig"))
  | ((with_reducible refine we_unpack ?_ ?h1 ?h2); (case h1 => with_unfolding_all rfl); (case h2 => with_unfolding_all rfl))
  | ((with_reducible refine we_setitem ?_ ?hsw); (case hsw => with_unfolding_all rfl))
  | ((with_reducible refine' as_tuple (by assumption) ?hl ?h1 ?h2 ?_); (case hl => walk_at "sig"); (case h1 => with_unfolding_all rfl); (case h2 => with_unfolding_all rfl))
  | ((with_reducible show WP _ (assignInOrder _ (_ :: _)) _ _ _); (with_unfolding_all refine ao_cons ?_); (with_unfolding_all refine as_store ?_))
  | ((with_reducible show WP _ (assignInOrder _ []) _ _ _); (with_unfolding_all refine ao_nil ?_))
  | ((with_reducible show WP _ (storeName _ _ _) _ _ _); refine wp_store (by with_reducible assumption) ?hl ?_; (case hl => with_unfolding_all rfl))
  | (with_reducible refine we_setattr ?_ ?hsw; (case hsw => with_unfolding_all rfl))
  | (with_reducible refine we_expr ?_ ?h1 ?h2; (case h1 => with_unfolding_all rfl); (case h2 => with_unfolding_all rfl))
  | ((with_reducible show WP _ (eval (.Name _ _) _) _ _ _); walk_at "name")
  | (with_reducible refine wp_int ?_; intro t)
  | (with_reducible refine wp_str ?_; intro t)
  | with_reducible refine wp_slice ?_
  | (with_reducible refine rg1 ?_; intro r t1 t2 t3 hr)
  | (with_reducible refine rg2 ?_; intro r t1 t2 t3 hr)
  | ((with_reducible refine rg3 ?b0 ?bp ?_); (case b0 => decide); (case bp => exact PyProof.noPylong_small (by decide)); intro r t1 t2 t3 hr)
  | ((with_reducible refine' append_x ?hl ?hs ?_); (case hl => walk_at "sig"); (case hs => simp only [List.length_map, List.length_append, List.length_cons, List.length_nil, sizeLine_eq]; omega))
  | ((with_reducible refine' nd_no ?hl ?he ?_); (case hl => walk_at "sig"); (case he => with_reducible assumption))
  | ((with_reducible refine' nd_yes ?hl ?he ?_); (case hl => walk_at "sig"); (case he => with_reducible assumption))
  | ((with_reducible refine' id_no ?hl ?he ?_); (case hl => walk_at "sig"); (case he => with_reducible assumption))
  | ((with_reducible refine' id_yes ?hl ?he ?_); (case hl => walk_at "sig"); (case he => with_reducible assumption))
  | ((with_reducible refine' gd_no ?hl ?he ?_); (case hl => walk_at "sig"); (case he => with_reducible assumption))
  | ((with_reducible refine' gd_yes ?hl ?he ?_); (case hl => walk_at "sig"); (case he => with_reducible assumption))
  | ((with_reducible show WP _ (newList _) _ _ _); refine' nl ?q1 ?_; (case q1 => simp only [List.length_cons, List.length_nil, List.length_map, sizeLine_eq]; omega); intro nlD hnlD)
  | ((with_reducible show WP _ (compareOp .In (.int _ _) (.ref _)) _ _ _); refine' cp_in_ints ?hl ?hi ?_; (case hl => walk_at "lst"); (case hi => with_reducible assumption))
  | (with_reducible show ∀ _, _ → WP _ (subscriptTail _ _ _ _) _ _ _; intro sa hsa)
  | (with_reducible show ∀ _, _ → WP _ (spliced _) _ _ _; intro sp hsp)
  | (with_reducible refine tp_list ?hl ?hz ?_; (case hl => walk_at "lst"); (case hz => first | omega | (simp only [List.length_map]; omega)))
  | (with_reducible refine sa_new (by assumption) (by assumption) ?hcl ?hlen ?_; (case hcl => kernel_rfl); (case hlen => exact lt_of_ble (by with_unfolding_all rfl)))
  | ((with_reducible refine as_store ?_); refine wp_store (by with_reducible assumption) ?hl ?_; (case hl => with_unfolding_all rfl))
  | ((with_reducible show WP _ (newTuple _) _ _ _); refine' nt ?q1 ?_; (case q1 => simp only [List.length_cons, List.length_nil, List.length_map, sizeLine_eq]; omega))
  | with_reducible refine ev_none ?_
  | with_reducible refine ev_some ?_
  | with_reducible refine wt_nil ?_
  | with_reducible refine wt_one ?_
  | (with_reducible refine wp_compS (by assumption) [] ?_ ?hcl ?hce ?hki ?hna ?hfo; (case hcl => with_unfolding_all rfl); (case hce => decide); (case hki => with_unfolding_all rfl); (case hna => decide); (case hfo => intro x; with_unfolding_all rfl))
  | (with_reducible refine we_compS (by assumption) (by assumption) [] ?_ ?hl ?hsw ?hcl ?hce ?hki ?hna ?hfo; (case hl => with_unfolding_all rfl); (case hsw => with_unfolding_all rfl); (case hcl => with_unfolding_all rfl); (case hce => decide); (case hki => with_unfolding_all rfl); (case hna => decide); (case hfo => intro x; with_unfolding_all rfl))
  | (with_reducible refine we_forS (by assumption) ?_ ?hfo; (case hfo => intro x; with_unfolding_all rfl))
  | with_reducible refine wp_bool ?_
  | with_reducible refine wp_none ?_
  | with_reducible refine wp_binop ?_
  | (with_reducible refine wp_compare ?_ ?hb; (case hb => with_unfolding_all rfl))
  | with_reducible refine wp_and ?_
  | with_reducible refine wp_or ?_
  | with_reducible refine wp_bool1 ?_
  | with_reducible refine wp_unary ?_
  | with_reducible refine wp_ifexp ?_
  | with_reducible refine wp_attrN ?_
  | (with_reducible refine wp_attr ?_ ?hr; (case hr => with_unfolding_all rfl))
  | with_reducible refine wp_sub ?_
  | with_reducible refine wp_list ?_
  | with_reducible refine wp_tuple ?_
  | (with_reducible refine' wp_callM ?_ ?hr; (case hr => with_unfolding_all rfl))
  | (with_reducible refine wp_callE ?_ ?hr; (case hr => with_unfolding_all rfl))
  | with_reducible refine wp_spl0 ?_
  | (with_reducible refine wp_spl ?_ ?he; (case he => with_unfolding_all rfl))
  | (with_reducible refine cw_ref (by assumption) ?hk ?_ ?he ?hp; (case hk => k_is); (case he => with_unfolding_all rfl); (case hp => with_unfolding_all rfl))
  | (with_reducible refine cw_ref0 (by assumption) ?hk ?_; (case hk => k_is))
  | (with_reducible refine cw_meth (by assumption) ?hk ?_ ?he ?hp; (case hk => k_is); (case he => with_unfolding_all rfl); (case hp => with_unfolding_all rfl))
  | (with_reducible refine cw_meth0 (by assumption) ?hk ?_; (case hk => k_is))
  | (with_reducible refine cw_blt ?_ ?he ?hp; (case he => with_unfolding_all rfl); (case hp => with_unfolding_all rfl))
  | (with_reducible refine cw_bltm ?_ ?he ?hp; (case he => with_unfolding_all rfl); (case hp => with_unfolding_all rfl))
  | (with_reducible refine cw_typ ?_ ?he ?hp; (case he => with_unfolding_all rfl); (case hp => with_unfolding_all rfl))
  | (with_reducible refine wt_chain ?_ ?hm; (case hm => with_unfolding_all rfl))
  | (with_reducible refine wt_compare ?_ ?hb; (case hb => with_unfolding_all rfl))
  | with_reducible refine wt_not ?_
  | with_reducible refine wt_and0 ?_
  | with_reducible refine wt_or0 ?_
  | with_reducible refine wt_and ?_
  | with_reducible refine wt_or ?_
  | (with_reducible refine wt_plain ?_ ?hr; (case hr => with_unfolding_all rfl))
  | with_reducible refine tr_bool ?_
  | with_reducible refine tr_int ?_
  | (with_reducible refine op_add ?_; intro t)
  | (with_reducible refine op_sub ?_; intro t)
  | (with_reducible refine op_and ?_; intro t)
  | ((with_reducible refine op_div ?b0 ?bp ?_); (case b0 => first | decide | omega | assumption); (case bp => exact PyProof.noPylong_small (by decide)); intro t)
  | ((with_reducible refine op_mod ?b0 ?_); (case b0 => first | decide | omega | assumption); intro t)
  | with_reducible refine cp_eq ?_
  | with_reducible refine cp_ne ?_
  | with_reducible refine cp_lt ?_
  | with_reducible refine cp_le ?_
  | with_reducible refine cp_gt ?_
  | with_reducible refine cp_ge ?_
  | with_reducible refine cp_eqs ?_
  | with_reducible refine un_not ?_
  | (with_reducible refine un_neg ?_; intro t)
  | (with_reducible refine new_dict (by assumption) ?_; intro dn hdn)
  | (with_reducible refine wp_dict (by assumption) ?_ ?q1 ?q2 ?q3 ?q4 ?q5; (case q1 => with_unfolding_all rfl); (case q2 => with_unfolding_all rfl); (case q3 => with_unfolding_all rfl); (case q4 => exact List.cons_ne_nil _ _); (case q5 => decide); intro dn hdn)
  | with_reducible refine ep_nil ?_
  | with_reducible refine ep_cons ?_
  | with_reducible refine cp_is_ref ?_
  | with_reducible refine cp_is_none ?_
  | with_reducible refine cp_isnot_ref ?_
  | with_reducible refine cp_isnot_none ?_
  | ((with_reducible show WP _ (getAttr (.ref _) _ _) _ _ _); refine' gaF (by with_reducible assumption) ?hx ?hcl ?hv ?hh ?_; (case hx => first | walk_at "inst" | with_reducible exact gs_new (by assumption) | fail); (case hcl => kernel_rfl); (case hv => with_unfolding_all rfl); (case hh => first | assumption | rfl))
  | ((with_reducible show WP _ (getMethod (.ref _) _ _) _ _ _); refine' gmF (by with_reducible assumption) ?hx ?hg ?hf ?ht ?hv ?_; (case hx => walk_at "inst"); (case hg => k_is); (case hf => k_is); (case ht => k_is); (case hv => with_unfolding_all rfl))
  | ((with_reducible show WP _ (subscriptTail _ _ (.ref _) _) _ _ _); walk_at "sub_")
  | ((with_reducible show WP _ (call (.builtin "len") [.ref _]) _ _ _); first
      | ((with_reducible refine' ln_tuple ?hl ?hs ?_); (case hl => walk_at "sig"); (case hs => first | decide | omega | (simp only [List.length_map, List.length_cons, List.length_nil]; omega)); intro t)
      | ((with_reducible refine' ln_list ?hl ?hs ?_); (case hl => walk_at "lst"); (case hs => first | decide | omega | (simp only [List.length_map, List.length_cons, List.length_nil]; omega)); intro t))
  | ((with_reducible show WP _ (call (.builtin "dict.get") [.ref _, .int _ _, _]) _ _ _); refine' get_dict ?hl ?_; (case hl => walk_at "sig"))
  | ((with_reducible show WP _ (getMethod (.ref _) _ _) _ _ _); refine' gm_get ?hl ?_; (case hl => walk_at "sig"))
  | ((with_reducible show WP _ (getMethod (.ref _) _ _) _ _ _); refine' gm_append ?hl ?_; (case hl => walk_at "sig")) | fail)
local macro_rules | `(tactic| walk_at "inst") => `(tactic| first | with_reducible assumption | (refine InstF.sub (by with_reducible assumption) ?_; walk_at "sub") | fail)
local macro_rules | `(tactic| walk_at "fresh") => `(tactic| (first | with_reducible assumption | exact (none_of_upd (by assumption)).2 | exact (none_of_upd (none_of_upd (by assumption)).2).2 | exact (none_of_upd (none_of_upd (none_of_upd (by assumption)).2).2).2 | exact (none_of_upd (none_of_upd (none_of_upd (none_of_upd (by assumption)).2).2).2).2))
local macro_rules | `(tactic| walk_at "sub") => `(tactic| first | with_reducible assumption | with_reducible exact Sub.refl _ | (refine Sub.new ?h1 (by with_reducible assumption); walk_at "sub") | (refine Sub.upd ?h1 ?h2; (case h1 => walk_at "sub"); (case h2 => walk_at "fresh")) | (refine Sub.drop ?h1 ?h2; (case h1 => walk_at "sub"); (case h2 => walk_at "fresh")) | fail)
local macro_rules | `(tactic| walk_at "lst") => `(tactic| first | with_reducible assumption | (refine Or.inr ?_; walk_at "sig") | (refine Or.inl ?_; walk_at "sig") | (refine LstAt.sub (by with_reducible assumption) ?_; walk_at "sub") | fail)
local macro_rules | `(tactic| walk_at "sub_") => `(tactic| first
  | ((with_reducible refine' sub_slice ?hl ?ha ?p1 ?p2 ?hz ?_ ?hs); (case hl => walk_at "lst"); (case ha => walk_at "sig"); (case p1 => first | exact .none | exact .int _ _); (case p2 => first | exact .none | exact .int _ _); (case hz => simp only [List.length_map, List.length_cons, List.length_nil, sizeLine_eq]; omega); (case hs => with_unfolding_all rfl); intro D hD)
  | ((with_reducible refine' sub_tuple ?hl ?h0 ?h1 ?hx ?_ ?hs); (case hl => walk_at "sig"); (case hx => first | with_reducible assumption | assumption | rfl); (case h0 => first | omega | decide); (case h1 => first | omega | decide); (case hs => with_unfolding_all rfl))
  | ((with_reducible refine' sub_dict ?hl ?hx ?_ ?hs); (case hl => walk_at "sig"); (case hx => first | with_reducible assumption | assumption | rfl); (case hs => with_unfolding_all rfl))
  | ((with_reducible refine' sub_list ?hl ?h0 ?h1 ?hx ?_ ?hs); (case hl => walk_at "lst"); (case hx => first | with_reducible assumption | assumption | rfl); (case h0 => first | omega | decide); (case h1 => first | omega | decide); (case hs => with_unfolding_all rfl)) | fail)
local macro_rules | `(tactic| walk_at "sp") => `(tactic| (refine And.intro (fun hb => ?_) (fun hb => ?_) <;>
  (try simp only [decide_eq_true_eq, decide_eq_false_iff_not, beq_iff_eq, bne_iff_ne, ne_eq, beq_eq_false_iff_ne, bne_eq_false_iff_eq, Bool.not_eq_true', Bool.not_eq_false', Bool.true_eq_false, Bool.false_eq_true, not_true_eq_false, not_false_eq_true, Bool.not_true, Bool.not_false, List.length_cons, List.length_nil, List.length_map] at hb) <;> (try (exfalso; first | exact hb | omega | exact absurd hb (by decide)))))
local macro_rules | `(tactic| walk_at "asg") => `(tactic| exact asg_name (by with_reducible assumption) (by with_unfolding_all rfl) (by with_unfolding_all rfl))
local macro_rules | `(tactic| walk_at "go") => `(tactic| repeat' (first | walk_at "w" | walk_at "sp" | fail))
local macro_rules | `(tactic| walk_at "go1") => `(tactic| repeat (walk_at "w"))
local macro_rules | `(tactic| walk_at "enter") => `(tactic| (
  (case ho => k_is); (case hcd => k_is); (case hloc => with_unfolding_all rfl); (case hco => with_unfolding_all rfl); (case hgen => with_unfolding_all rfl); (case hk => with_unfolding_all rfl); (case hcell => decide)))
section
section
variable {c : Cf} {k : Nat} {m : Fields} {σ : Gh} {Φ : Value → Fields → Gh → Prop}
theorem fdiv256 {n : Int} (h : 0 ≤ n ∧ n < 100) : (n.fdiv 256).fmod 256 = 0 := by
  rw [Int.fdiv_eq_ediv_of_nonneg _ (by omega), Int.fmod_eq_emod_of_nonneg _ (by omega)]
  omega
theorem sp_attach_wanted {n : Int} {t : Tok} (C : Cx c (k + 1)) (hn : 0 ≤ n ∧ n < 100) (h : ∀ t', Φ (.int 0 t') m σ) : WP c (call (.ref 76) [.int n t]) Φ m σ := by
  refine wp_call ?_
  refine' enter [(Str.ofString "flag", .int n t)] C ?ho ?hcd ?hb ?hloc ?_ ?hco ?hgen ?hk ?hcell
  walk_at "enter"
  case hb => exact fun s X => BindsTo.of_eq rfl
  intro A' h₀' L' C' E'
  walk_at "go"
  rw [fdiv256 hn]
  exact h _

/-- the classes' dict -/
def clsOf (g : Int) : Int := if g = 1 ∨ g = 2 then 1 else if g = 3 ∨ g = 4 then 3 else 0
def ClsDict (kvs : List (Int × Value)) : Prop := ∀ g : Int, (valueAt kvs g = none ∧ clsOf g = 0) ∨ ∃ t, valueAt kvs g = some (.int (clsOf g) t)
structure GdefOk (σ : Gh) (g : Addr) : Prop where
  ex : ∃ cd ad sl p q kd kvs, InstF σ g 793 [("classes", .ref cd), ("attach", .ref ad), ("sets", .ref sl), ("points", .ref p), ("carets", .ref q)] ∧ InstF σ cd 696 [("classes", .ref kd)] ∧ σ kd = some (.idict kvs) ∧ ClsDict kvs
theorem GdefOk.sub {σ' : Gh} {g : Addr} (h : GdefOk σ g) (hs : Sub σ σ') : GdefOk σ' g := by
  obtain ⟨cd, ad, sl, p, q, kd, kvs, h1, h2, h3, h4⟩ := h.ex
  exact ⟨cd, ad, sl, p, q, kd, kvs, h1.sub hs, h2.sub hs, hs _ _ h3, h4⟩

theorem sp_class_of {x kd : Addr} {kvs : List (Int × Value)} {g : Int} {t : Tok} (C : Cx c (k + 1)) (h1 : InstF σ x 696 [("classes", .ref kd)]) (h2 : σ kd = some (.idict kvs)) (h3 : ClsDict kvs) (h : ∀ t', Φ (.int (clsOf g) t') m σ) :
    WP c (call (.ref 674) [.ref x, .int g t]) Φ m σ := by
  refine wp_call ?_
  refine' enter [(Str.ofString "self", .ref x), (Str.ofString "glyph", .int g t)] C ?ho ?hcd ?hb ?hloc ?_ ?hco ?hgen ?hk ?hcell
  walk_at "enter"
  case hb => exact fun s X => BindsTo.of_eq rfl
  intro A' h₀' L' C' E'
  walk_at "go"
  rcases h3 g with ⟨h4, h5⟩ | ⟨t5, h4⟩
  · rw [h4]; show Φ (.int 0 _) m σ; rw [← h5]; exact h _
  · rw [h4]; exact h _

def bitOf (n : Int) : Int := if n = 1 then 2 else if n = 2 then 4 else if n = 3 then 8 else 0
theorem bit_get (n : Int) (a b d e : Tok) : ∃ t, (valueAt (merged [] [(1, Value.int 2 a), (2, Value.int 4 b), (3, Value.int 8 d)]) n).getD (Value.int 0 e) = .int (bitOf n) t := by
  by_cases h1 : n = 1
  · subst h1; exact ⟨a, rfl⟩
  by_cases h2 : n = 2
  · subst h2; exact ⟨b, rfl⟩
  by_cases h3 : n = 3
  · subst h3; exact ⟨d, rfl⟩
  refine ⟨e, ?_⟩
  have e1 : merged [] [((1 : Int), Value.int 2 a), (2, Value.int 4 b), (3, Value.int 8 d)] = [(1, Value.int 2 a), (2, Value.int 4 b), (3, Value.int 8 d)] := rfl
  rw [e1]
  simp [valueAt, bitOf, h1, h2, h3, Ne.symm h1, Ne.symm h2, Ne.symm h3]
theorem sp_class_bit {n : Int} {t : Tok} (C : Cx c (k + 1)) (h : ∀ t', Φ (.int (bitOf n) t') m σ) : WP c (call (.ref 83) [.int n t]) Φ m σ := by
  refine wp_call (WC.forget ?_)
  refine' enter [(Str.ofString "number", .int n t)] C ?ho ?hcd ?hb ?hloc ?_ ?hco ?hgen ?hk ?hcell
  walk_at "enter"
  case hb => exact fun s X => BindsTo.of_eq rfl
  intro A' h₀' L' C' E'
  walk_at "go"
  refine ⟨[(1, _), (2, _), (3, _)], ⟨rfl, rfl, rfl, rfl, rfl, rfl, trivial⟩, upd_same _ _ _, ?_⟩
  walk_at "go"
  refine ⟨σ, by walk_at "sub", ?_⟩
  obtain ⟨t', e⟩ := bit_get n 196 198 200 ‹Tok›
  rw [e]
  exact h t'
theorem clsOf_range (g : Int) : 0 ≤ clsOf g ∧ clsOf g ≤ 3 := by unfold clsOf; split; omega; split <;> omega
theorem sp_glyph_class {x : Addr} {g : Int} {t : Tok} (C : Cx c (k + 2)) (G : GdefOk σ x) (h : ∀ t', Φ (.int (clsOf g) t') m σ) : WP c (call (.ref 771) [.ref x, .int g t]) Φ m σ := by
  obtain ⟨cd, ad, sl, p, q, kd, kvs, h1, h2, h3, h4⟩ := G.ex
  refine wp_call ?_
  refine' enter [(Str.ofString "self", .ref x), (Str.ofString "glyph", .int g t)] C ?ho ?hcd ?hb ?hloc ?_ ?hco ?hgen ?hk ?hcell
  walk_at "enter"
  case hb => exact fun s X => BindsTo.of_eq rfl
  intro A' h₀' L' C' E'
  walk_at "go"
  refine sp_class_of C' h2 h3 h4 fun t1 => ?_
  have hr := clsOf_range g
  walk_at "go"
  · exact h _
  · have e : clsOf g = 0 := by omega
    rw [e] at h
    exact h _
theorem cls3 (g : Int) : clsOf g = 0 ∨ clsOf g = 1 ∨ clsOf g = 3 := by unfold clsOf; split; simp; split <;> simp
def ign (g fl : Int) : Bool := decide (clsOf g = 1 ∧ fl = 2 ∨ clsOf g = 3 ∧ fl = 8)
theorem and_bit {n fl : Int} (hf : fl = 0 ∨ fl = 2 ∨ fl = 8) (hn : n = 0 ∨ n = 1 ∨ n = 3) : (Builtin.bitAnd fl (bitOf n) ≠ 0) ↔ (n = 1 ∧ fl = 2 ∨ n = 3 ∧ fl = 8) := by
  rcases hf with rfl | rfl | rfl <;> rcases hn with rfl | rfl | rfl <;> decide +kernel
theorem and_16 {fl : Int} (hf : fl = 0 ∨ fl = 2 ∨ fl = 8) : Builtin.bitAnd fl 16 = 0 := by
  rcases hf with rfl | rfl | rfl <;> decide +kernel
theorem sp_is_ignored {ga la : Addr} {g fl : Int} {t tf : Tok} {kd msk tbs : Value} (C : Cx c (k + 3)) (G : GdefOk σ ga) (h1 : InstF σ la 43 [("kind", kd), ("flag", .int fl tf), ("mark_set", msk), ("tables", tbs)])
    (hf : fl = 0 ∨ fl = 2 ∨ fl = 8) (h : Φ (.bool (ign g fl)) m σ) : WP c (call (.ref 90) [.ref ga, .ref la, .int g t]) Φ m σ := by
  refine wp_call ?_
  refine' enter [(Str.ofString "gdef", .ref ga), (Str.ofString "lookup", .ref la), (Str.ofString "glyph", .int g t)] C ?ho ?hcd ?hb ?hloc ?_ ?hco ?hgen ?hk ?hcell
  walk_at "enter"
  case hb => exact fun s X => BindsTo.of_eq rfl
  intro A' h₀' L' C' E'
  obtain ⟨cd, ad, sl, p, q, kd, kvs, g1, g2, g3, g4⟩ := id G.ex
  walk_at "go"
  refine sp_glyph_class C' G fun t1 => ?_
  walk_at "go"
  refine sp_class_bit C' fun t2 => ?_
  walk_at "go"
  · have : ign g fl = true := by simpa [ign] using (and_bit hf (cls3 g)).mp ‹_›
    rw [this] at h
    exact h
  · have : ign g fl = false := by
      have := mt (and_bit hf (cls3 g)).mpr (not_not_intro ‹_›)
      simpa [ign] using this
    rw [this] at h
    exact h
  · exact absurd (and_16 hf) ‹_›
  · have : ign g fl = false := by
      have := mt (and_bit hf (cls3 g)).mpr (not_not_intro ‹_›)
      simpa [ign] using this
    rw [this] at h
    refine sp_attach_wanted C' (by omega) fun t3 => ?_
    walk_at "go"
    exact h

structure SW (ρ : Gh) (sc b ga la : Addr) (mk : Int) (kind : Str) (fl : Int) (tl : Addr) : Prop where
  sc : ScOk ρ sc b ga la mk
  gd : GdefOk ρ ga
  lk : ∃ tk tf tm, InstF ρ la 43 [("kind", .str kind tk), ("flag", .int fl tf), ("mark_set", .int 0 tm), ("tables", .ref tl)]
  hf : fl = 0 ∨ fl = 2 ∨ fl = 8
variable {sc b rl ga la tl : Addr} {mk fl : Int} {kind : Str} {cs : List Gy} {i : Nat} {q : Gy} {ρ : Gh}
theorem sp_passes {t : Tok} (C : Cx c (k + 4)) (W : SW ρ sc b ga la mk kind fl tl) (B : Wd ρ σ b rl cs) (hi : cs[i]? = some q) (h : Φ (.bool (ign q.v.g fl)) m σ) : WP c (call (.ref 97) [.ref sc, .int i t]) Φ m σ := by
  obtain ⟨hlt, hmem, hq⟩ := B.get hi
  have hlt' := hlt
  have hsz := B.size
  obtain ⟨tb, hbuf⟩ := B.buf.buf
  have hrow := B.buf.row
  have hqi := hq.inst
  have hx := gy_at hi
  obtain ⟨lks, tm, td, h0⟩ := W.sc
  have h0 := h0.sub B.sub
  obtain ⟨tk, tf, tm, h1⟩ := W.lk
  have h1 := h1.sub B.sub
  have G := W.gd.sub B.sub
  refine wp_call ?_
  refine' enter [(Str.ofString "scene", .ref sc), (Str.ofString "at", .int i t)] C ?ho ?hcd ?hb ?hloc ?_ ?hco ?hgen ?hk ?hcell
  walk_at "enter"
  case hb => exact fun s X => BindsTo.of_eq rfl
  intro A' h₀' L' C' E'
  walk_at "go"
  exact sp_is_ignored C' G h1 W.hf h
def tak (q : Gy) (mk fl : Int) : Bool := decide (Builtin.bitAnd q.v.ms mk ≠ 0) && !(ign q.v.g fl)
theorem sp_takes {t : Tok} (C : Cx c (k + 5)) (W : SW ρ sc b ga la mk kind fl tl) (B : Wd ρ σ b rl cs) (hi : cs[i]? = some q) (h : Φ (.bool (tak q mk fl)) m σ) : WP c (call (.ref 104) [.ref sc, .int i t]) Φ m σ := by
  obtain ⟨hlt, hmem, hq⟩ := B.get hi
  have hsz := B.size
  obtain ⟨tb, hbuf⟩ := B.buf.buf
  have hrow := B.buf.row
  have hqi := hq.inst
  have hx := gy_at hi
  obtain ⟨lks, tm, td, h0⟩ := W.sc
  have h0 := h0.sub B.sub
  refine wp_call ?_
  refine' enter [(Str.ofString "scene", .ref sc), (Str.ofString "at", .int i t)] C ?ho ?hcd ?hb ?hloc ?_ ?hco ?hgen ?hk ?hcell
  walk_at "enter"
  case hb => exact fun s X => BindsTo.of_eq rfl
  intro A' h₀' L' C' E'
  walk_at "go"
  · rename_i hb
    refine sp_passes C' W B hi ?_
    walk_at "go"
    have e : tak q mk fl = !(ign q.v.g fl) := by simp [tak, hb]
    rw [e] at h
    exact h
  · rename_i hb
    have e : tak q mk fl = (Builtin.bitAnd q.v.ms mk != 0) := by simp [tak, hb]
    rw [e] at h
    exact h
end
end
section
section
variable {c : Cf} {k : Nat} {m : Fields} {σ ρ : Gh} {Φ : Value → Fields → Gh → Prop}
theorem ScOk.sub {ρ σ : Gh} {sc b ga la : Addr} {mk : Int} (h : ScOk ρ sc b ga la mk) (hs : Sub ρ σ) : ScOk σ sc b ga la mk := let ⟨l, t, u, e⟩ := h; ⟨l, t, u, e.sub hs⟩
theorem sp_is_borne {sc b ga la : Addr} {mk : Int} {q : Gy} (C : Cx c (k + 1)) (h0 : ScOk σ sc b ga la mk) (hq : q.At σ) (h : Φ (.bool (Builtin.bitAnd q.v.ms mk != 0)) m σ) : WP c (call (.ref 252) [.ref sc, .ref q.x]) Φ m σ := by
  obtain ⟨lks, tm, td, h0⟩ := h0
  have hqi := hq.inst
  refine wp_call ?_
  refine' enter [(Str.ofString "scene", .ref sc), (Str.ofString "info", .ref q.x)] C ?ho ?hcd ?hb ?hloc ?_ ?hco ?hgen ?hk ?hcell
  walk_at "enter"
  case hb => exact fun s X => BindsTo.of_eq rfl
  intro A' h₀' L' C' E'
  walk_at "go"
  exact h
theorem sp_index {cv gt : Addr} {bh g : Int} {t tg : Tok} (C : Cx c (k + 1)) (h1 : InstF σ cv 738 [("glyphs", .ref gt)]) (h2 : σ gt = some (.tuple [.int bh t])) (h : ∀ t', Φ (.int (if bh = g then 0 else -1) t') m σ) : WP c (call (.ref 721) [.ref cv, .int g tg]) Φ m σ := by
  refine wp_call ?_
  refine' enter [(Str.ofString "self", .ref cv), (Str.ofString "glyph", .int g tg)] C ?ho ?hcd ?hb ?hloc ?_ ?hco ?hgen ?hk ?hcell
  walk_at "enter"
  case hb => exact fun s X => BindsTo.of_eq rfl
  intro A' h₀' L' C' E'
  walk_at "go"
  refine we_while (wwh_ind (fun n m' σ' => σ' = σ ∧ ((n = 1 ∧ ∃ t1 t2, m' = ([("glyph", .int g tg), ("self", .ref cv), ("low", .int 0 t1), ("high", .int 1 t2)] : Fields)) ∨
    (n = 0 ∧ ∃ lo t1 t2 t3, m' = ([("glyph", .int g tg), ("self", .ref cv), ("low", .int lo t1), ("high", .int lo t2), ("middle", .int 0 t3)] : Fields) ∧ lo = if bh < g then 1 else 0))) ?_ 1 ⟨rfl, .inl ⟨rfl, _, _, rfl⟩⟩)
  rintro n m' σ' ⟨rfl, ⟨rfl, t1, t2, rfl⟩ | ⟨rfl, lo, t1, t2, t3, rfl, hlo⟩⟩
  · walk_at "go"
    · exact ⟨0, by omega, rfl, .inr ⟨rfl, 1, _, _, _, rfl, by rw [if_pos ‹bh < g›]⟩⟩
    · exact ⟨0, by omega, rfl, .inr ⟨rfl, 0, _, _, _, rfl, by rw [if_neg ‹¬bh < g›]⟩⟩
  · by_cases hlt : bh < g
    · rw [if_pos hlt] at hlo
      subst hlo
      rw [if_neg (by omega)] at h
      walk_at "go"
      exact h _
    · rw [if_neg hlt] at hlo
      subst hlo
      walk_at "go"
      · rw [if_pos ‹bh = g›] at h
        exact h _
      · rw [if_neg ‹¬bh = g›] at h
        exact h _
theorem sp_has {cv gt : Addr} {bh g : Int} {t tg : Tok} (C : Cx c (k + 2)) (h1 : InstF σ cv 738 [("glyphs", .ref gt)]) (h2 : σ gt = some (.tuple [.int bh t])) (h : Φ (.bool (bh == g)) m σ) : WP c (call (.ref 728) [.ref cv, .int g tg]) Φ m σ := by
  refine wp_call ?_
  refine' enter [(Str.ofString "self", .ref cv), (Str.ofString "glyph", .int g tg)] C ?ho ?hcd ?hb ?hloc ?_ ?hco ?hgen ?hk ?hcell
  walk_at "enter"
  case hb => exact fun s X => BindsTo.of_eq rfl
  intro A' h₀' L' C' E'
  walk_at "go"
  refine sp_index C' h1 h2 fun t3 => ?_
  walk_at "go"
  by_cases e : bh = g
  · simpa [e] using h
  · have e' : (bh == g) = false := by simpa using e
    rw [e'] at h
    simpa [e] using h
/-- the test tuple ('cover', cov) at tt for the glyph bh -/
def CovOk (ρ : Gh) (cv : Addr) (bh : Int) : Prop := ∃ gt t, InstF ρ cv 738 [("glyphs", .ref gt)] ∧ ρ gt = some (.tuple [.int bh t])
def TestOk (ρ : Gh) (tt : Addr) (bh : Int) : Prop := ∃ cv t, ρ tt = some (.tuple [.str "cover" t, .ref cv]) ∧ CovOk ρ cv bh
theorem CovOk.sub {σ' : Gh} {cv : Addr} {bh : Int} (h : CovOk σ cv bh) (hs : Sub σ σ') : CovOk σ' cv bh := let ⟨gt, t, h1, h2⟩ := h; ⟨gt, t, h1.sub hs, hs _ _ h2⟩
theorem TestOk.sub {σ' : Gh} {tt : Addr} {bh : Int} (h : TestOk σ tt bh) (hs : Sub σ σ') : TestOk σ' tt bh := let ⟨cv, t, h1, h2⟩ := h; ⟨cv, t, hs _ _ h1, h2.sub hs⟩
theorem sp_fits {tt : Addr} {bh g : Int} {tg : Tok} (C : Cx c (k + 3)) (h1 : TestOk σ tt bh) (h : Φ (.bool (bh == g)) m σ) : WP c (call (.ref 245) [.ref tt, .int g tg]) Φ m σ := by
  obtain ⟨cv, t, h1, gt, t2, h2, h3⟩ := h1
  refine wp_call ?_
  refine' enter [(Str.ofString "test", .ref tt), (Str.ofString "glyph", .int g tg)] C ?ho ?hcd ?hb ?hloc ?_ ?hco ?hgen ?hk ?hcell
  walk_at "enter"
  case hb => exact fun s X => BindsTo.of_eq rfl
  intro A' h₀' L' C' E'
  walk_at "go"
  exact sp_has C' h2 h3 h
end
end
section
section
variable {c : Cf} {k : Nat} {m : Fields} {σ ρ : Gh} {Φ : Value → Fields → Gh → Prop}
theorem sp_cover_tests {a : Addr} {vs : List Value} {bh : Int} (C : Cx c (k + 1)) (h1 : σ a = some (.tuple vs)) (h2 : vs = [] ∨ ∃ cv, vs = [.ref cv] ∧ CovOk σ cv bh)
    (h : ∀ D ws τ, Sub σ τ → τ D = some (.tuple ws) → ws.length = vs.length → (∀ y ∈ ws, ∃ tt, y = .ref tt ∧ TestOk τ tt bh) → Φ (.ref D) m τ) : WP c (call (.ref 238) [.ref a]) Φ m σ := by
  refine wp_call (WC.forget ?_)
  refine' enter [(Str.ofString "coverages", .ref a)] C ?ho ?hcd ?hb ?hloc ?_ ?hco ?hgen ?hk ?hcell
  walk_at "enter"
  case hb => exact fun s X => BindsTo.of_eq rfl
  intro A' h₀' L' C' E'
  have hlen : vs.length ≤ 1 := by rcases h2 with rfl | ⟨cv, rfl, _⟩ <;> simp
  walk_at "go"
  refine ⟨_, _, _, fun i ys τ => Sub σ τ ∧ ys.length = i ∧ ∀ y ∈ ys, ∃ tt, y = .ref tt ∧ TestOk τ tt bh, fun _ v => [("coverage", v)], ?_, ⟨Sub.refl _, rfl, by simp⟩, fun i ys τ hK => Src.tuple (hK.1 _ _ h1), fun it D Cn f1 f2 f3 d1 d2 d3 => ⟨?_, ?_⟩, ?_⟩
  · rw [sizeLine_eq]; omega
  · walk_at "asg"
  · intro i v ys τ hi hv hK g1 g2 g3
    walk_at "go"
    intro tt htt
    obtain ⟨n1, n2, n3, n4, n5⟩ := Fr3.new htt
    obtain ⟨hs, hl, hy⟩ := hK
    refine ⟨rfl, _, ⟨hs.upd (Sub.none_of hs n2), by simp [hl], fun y hy' => ?_⟩, upd_none g1 n3.symm, upd_none g2 n4.symm, upd_none g3 n5.symm, n1⟩
    rcases List.mem_append.mp hy' with hy' | hy'
    · obtain ⟨tt', e, h5⟩ := hy y hy'
      exact ⟨tt', e, h5.sub (Sub.refl _ |>.upd n2)⟩
    · have e : y = .ref tt := by simpa using hy'
      subst e
      refine ⟨tt, rfl, ?_⟩
      rcases h2 with rfl | ⟨cv, rfl, hcv⟩
      · simp at hi
      · have hi0 : i = 0 := by simp at hi; omega
        subst hi0
        have : v = .ref cv := by simpa using hv.symm
        subst this
        exact ⟨cv, _, upd_same _ _ _, hcv.sub (hs.upd (Sub.none_of hs n2))⟩
  · intro ys τ hK hy D hD
    walk_at "go"
    refine tp_list (.inr (upd_same _ _ _)) (by omega) fun D2 hD2 => ?_
    obtain ⟨n1, n2⟩ := none_of_upd hD2
    refine ⟨_, Sub.refl _, h D2 ys _ ((hK.1.upd (Sub.none_of hK.1 hD)).upd (Sub.none_of hK.1 n2)) (upd_same _ _ _) hK.2.1 fun y hy' => ?_⟩
    obtain ⟨tt, e, h5⟩ := hK.2.2 y hy'
    exact ⟨tt, e, h5.sub (((Sub.refl _).upd hD).upd n2)⟩
end
end
section
section
variable {c : Cf} {k : Nat} {m : Fields} {σ ρ : Gh} {Φ : Value → Fields → Gh → Prop}
variable {sc b rl ga la tl : Addr} {mk fl : Int} {kind : Str} {cs : List Gy} {i : Nat} {q : Gy}
def fnd (fl bh : Int) : List Int → Nat → Int
  | [], _ => -1
  | g :: r, here => if ign g fl then fnd fl bh r (here + 1) else if bh = g then here else -1
def gys (cs : List Gy) : List Int := cs.map (·.v.g)
theorem fnd_step (fl bh : Int) {cs : List Gy} {here : Nat} {q : Gy} (hq : cs[here]? = some q) : fnd fl bh ((gys cs).drop here) here = if ign q.v.g fl then fnd fl bh ((gys cs).drop (here + 1)) (here + 1) else if bh = q.v.g then here else -1 := by
  have h1 : (gys cs)[here]? = some q.v.g := by simp [gys, hq]
  obtain ⟨hlt, e⟩ := List.getElem?_eq_some_iff.mp h1
  rw [List.drop_eq_getElem_cons hlt, e]
  rfl
theorem fnd_end (fl bh : Int) {cs : List Gy} {here : Nat} (h : cs.length ≤ here) : fnd fl bh ((gys cs).drop here) here = -1 := by
  rw [List.drop_of_length_le (by simp [gys]; exact h)]; rfl
theorem sp_found_at {tt kd : Addr} {bh : Int} {t t1 : Tok} {l : List Value} {dd : Option Addr} {sl : Array (Option Value)} {n : Nat} (C : Cx c (k + 5)) (W : SW ρ sc b ga la mk kind fl tl) (B : Wd ρ σ b rl cs) (hi : i < cs.length) (T : TestOk ρ tt bh)
    (hkd : (hd.heap_39 c.w.params).lookup kd = some ⟨.type "tuple", dd, .seq l.toArray n, sl⟩) (hl : StrsAre l ["zwj", "zwnj", "hidden"]) (h : ∀ t', Φ (.int (fnd fl bh ((gys cs).drop (i + 1)) (i + 1)) t') m σ) :
    WP c (call (.ref 259) [.ref sc, .int i t, .int 1 t1, .ref tt, .ref kd, .bool false]) Φ m σ := by
  have hsz := B.size
  obtain ⟨tb, hbuf⟩ := B.buf.buf
  have hrow := B.buf.row
  obtain ⟨lks, tm, td, h0⟩ := W.sc
  have h0 := h0.sub B.sub
  refine wp_call ?_
  refine' enter [(Str.ofString "scene", .ref sc), (Str.ofString "at", .int i t), (Str.ofString "step", .int 1 t1), (Str.ofString "test", .ref tt), (Str.ofString "kinds", .ref kd), (Str.ofString "is_input", .bool false)] C ?ho ?hcd ?hb ?hloc ?_ ?hco ?hgen ?hk ?hcell
  walk_at "enter"
  case hb => exact fun s X => BindsTo.of_eq rfl
  intro A' h₀' L' C' E'
  walk_at "go"
  refine we_while (wwh_ind (fun n m' σ' => σ' = σ ∧ ∃ (here : Nat) (t2 : Tok), n + here = cs.length ∧ m' = ([("is_input", .bool false), ("kinds", .ref kd), ("test", .ref tt), ("step", .int 1 t1), ("at", .int i t), ("scene", .ref sc), ("here", .int here t2)] : Fields) ∧
    fnd fl bh ((gys cs).drop (i + 1)) (i + 1) = fnd fl bh ((gys cs).drop here) here) ?_ (cs.length - (i + 1)) ⟨rfl, i + 1, _, by omega, rfl, rfl⟩)
  rintro n m' σ' ⟨rfl, here, t2, hn, rfl, hres⟩
  walk_at "go"
  · have hlt : here < cs.length := by omega
    obtain ⟨q, hq⟩ : ∃ q, cs[here]? = some q := ⟨_, List.getElem?_eq_getElem hlt⟩
    have hst := fnd_step fl bh hq
    have hx := gy_at hq
    have hqi := (B.get hq).2.2.inst
    refine sp_passes C' W B hq ?_
    walk_at "go"
    · refine sp_fits C' (T.sub B.sub) ?_
      walk_at "go"
      · refine sp_is_borne C' (W.sc.sub B.sub) (B.get hq).2.2 ?_
        walk_at "go"
        all_goals
          have e : fnd fl bh ((gys cs).drop (i + 1)) (i + 1) = here := by
            rw [hres, hst, ‹ign q.v.g fl = false›, if_neg (by decide), if_pos ‹bh = q.v.g›]
          rw [e] at h
          exact h _
      · refine cp_notin_strsK C' hkd hl ?_
        walk_at "go"
        · have e : fnd fl bh ((gys cs).drop (i + 1)) (i + 1) = -1 := by
            rw [hres, hst, ‹ign q.v.g fl = false›, if_neg (by decide), if_neg ‹¬ bh = q.v.g›]
          rw [e] at h
          exact h _
    · refine ⟨n - 1, by omega, rfl, here + 1, _, by omega, rfl, ?_⟩
      rw [hres, hst, ‹ign q.v.g fl = true›, if_pos rfl]
  · have e : fnd fl bh ((gys cs).drop (i + 1)) (i + 1) = -1 := by
      rw [hres, fnd_end fl bh (by omega)]
    rw [e] at h
    exact h _
theorem fnd_lt (fl bh : Int) : ∀ (gs : List Int) (here : Nat), fnd fl bh gs here < here + gs.length
  | [], here => by simp [fnd]; omega
  | g :: r, here => by
    have := fnd_lt fl bh r (here + 1)
    unfold fnd
    simp only [List.length_cons]
    split
    · omega
    · split <;> omega
/-- the tests -/
def tstRes (fl : Int) (cs : List Gy) (i : Nat) : List Int → Int
  | [] => i
  | bh :: _ => fnd fl bh ((gys cs).drop (i + 1)) (i + 1)
theorem sp_last_at {tv : Addr} {ws : List Value} {bhs : List Int} {t t1 : Tok} (C : Cx c (k + 6)) (W : SW ρ sc b ga la mk kind fl tl) (B : Wd ρ σ b rl cs) (hi : i < cs.length)
    (hv : ρ tv = some (.tuple ws)) (hw : ws.length = bhs.length) (hl1 : bhs.length ≤ 1) (T : ∀ (j : Nat) v, ws[j]? = some v → ∃ tt bh, v = .ref tt ∧ bhs[j]? = some bh ∧ TestOk ρ tt bh) (h : ∀ t', Φ (.int (tstRes fl cs i bhs) t') m σ) :
    WP c (call (.ref 273) [.ref sc, .int i t, .int 1 t1, .ref tv]) Φ m σ := by
  refine wp_call (WC.forget ?_)
  refine' enter [(Str.ofString "scene", .ref sc), (Str.ofString "at", .int i t), (Str.ofString "step", .int 1 t1), (Str.ofString "tests", .ref tv)] C ?ho ?hcd ?hb ?hloc ?_ ?hco ?hgen ?hk ?hcell
  walk_at "enter"
  case hb => exact fun s X => BindsTo.of_eq rfl
  intro A' h₀' L' C' E'
  walk_at "go"
  refine ⟨_, _, _, fun j m' τ => τ = σ ∧ ((j = 0 ∧ m' = ([("tests", .ref tv), ("step", .int 1 t1), ("at", .int i t), ("scene", .ref sc), ("here", .int i t)] : Fields)) ∨
     (j = 1 ∧ 0 ≤ tstRes fl cs i bhs ∧ ∃ tv2 t2, m' = ([("tests", .ref tv), ("step", .int 1 t1), ("at", .int i t), ("scene", .ref sc), ("here", .int (tstRes fl cs i bhs) t2), ("test", .ref tv2)] : Fields))), ⟨rfl, .inl ⟨rfl, rfl⟩⟩, fun j m' τ hK => hK.1 ▸ Src.tuple (B.sub _ _ hv), fun it hit j v m' τ hj hjv hK hτ => ?_, fun m' τ hK => ?_⟩
  · obtain ⟨rfl, ⟨rfl, rfl⟩ | ⟨rfl, _, _⟩⟩ := hK
    · obtain ⟨tt, bh, rfl, hbh, hT⟩ := T 0 v hjv
      walk_at "go"
      refine sp_found_at C' W (B.more ((Sub.refl _).upd hτ)) hi hT (by k_is) (.cons _ _ (.cons _ _ (.cons _ _ .nil))) fun t2 => ?_
      have e : tstRes fl cs i bhs = fnd fl bh ((gys cs).drop (i + 1)) (i + 1) := by
        cases bhs with
        | nil => cases hbh
        | cons b0 r => cases hbh; rfl
      rw [← e]
      walk_at "go"
      · have e2 : tstRes fl cs i bhs = -1 := by
          have h0 : ∀ (gs : List Int) (j : Nat), -1 ≤ fnd fl bh gs j := by
            intro gs
            induction gs with
            | nil => intro j; exact Int.le_refl _
            | cons g r ih => intro j; unfold fnd; split; exact ih _; split <;> omega
          have := h0 ((gys cs).drop (i + 1)) (i + 1)
          omega
        rw [e2] at h
        exact ⟨_, (Sub.refl _).upd hτ, h _⟩
      · exact ⟨_, ⟨rfl, .inr ⟨rfl, by omega, _, _, rfl⟩⟩, hτ, Sub.refl _⟩
    · omega
  · obtain ⟨rfl, ⟨h0, rfl⟩ | ⟨h1, h0, tv2, t2, rfl⟩⟩ := hK
    · walk_at "go"
      have e : bhs = [] := List.eq_nil_of_length_eq_zero (by omega)
      subst e
      exact ⟨_, Sub.refl _, h _⟩
    · walk_at "go"
      exact ⟨_, Sub.refl _, h _⟩
theorem sp_ahead_at {tv : Addr} {ws : List Value} {bhs : List Int} {t : Tok} (C : Cx c (k + 7)) (W : SW ρ sc b ga la mk kind fl tl) (B : Wd ρ σ b rl cs) (hi : i < cs.length)
    (hv : ρ tv = some (.tuple ws)) (hw : ws.length = bhs.length) (hl1 : bhs.length ≤ 1) (T : ∀ (j : Nat) v, ws[j]? = some v → ∃ tt bh, v = .ref tt ∧ bhs[j]? = some bh ∧ TestOk ρ tt bh) (h : ∀ t', Φ (.int (tstRes fl cs i bhs) t') m σ) :
    WP c (call (.ref 280) [.ref sc, .int i t, .ref tv]) Φ m σ := by
  refine wp_call ?_
  refine' enter [(Str.ofString "scene", .ref sc), (Str.ofString "at", .int i t), (Str.ofString "tests", .ref tv)] C ?ho ?hcd ?hb ?hloc ?_ ?hco ?hgen ?hk ?hcell
  walk_at "enter"
  case hb => exact fun s X => BindsTo.of_eq rfl
  intro A' h₀' L' C' E'
  walk_at "go"
  exact sp_last_at C' W B hi hv hw hl1 T h
theorem sp_last0 {tv : Addr} {st : Int} {t t1 : Tok} (C : Cx c (k + 1)) (hv : σ tv = some (.tuple [])) (h : ∀ t', Φ (.int i t') m σ) :
    WP c (call (.ref 273) [.ref sc, .int i t, .int st t1, .ref tv]) Φ m σ := by
  refine wp_call (WC.forget ?_)
  refine' enter [(Str.ofString "scene", .ref sc), (Str.ofString "at", .int i t), (Str.ofString "step", .int st t1), (Str.ofString "tests", .ref tv)] C ?ho ?hcd ?hb ?hloc ?_ ?hco ?hgen ?hk ?hcell
  walk_at "enter"
  case hb => exact fun s X => BindsTo.of_eq rfl
  intro A' h₀' L' C' E'
  walk_at "go"
  refine ⟨_, _, _, fun j m' τ => j = 0 ∧ τ = σ ∧ m' = ([("tests", .ref tv), ("step", .int st t1), ("at", .int i t), ("scene", .ref sc), ("here", .int i t)] : Fields), ⟨rfl, rfl, rfl⟩, fun j m' τ hK => hK.2.1 ▸ Src.tuple hv, fun it hit j v m' τ hj hjv hK hτ => ?_, fun m' τ hK => ?_⟩
  · simp at hj
  · obtain ⟨_, rfl, rfl⟩ := hK
    walk_at "go"
    exact ⟨_, Sub.refl _, h _⟩
theorem sp_back_at {tv : Addr} {t : Tok} (C : Cx c (k + 2)) (hv : σ tv = some (.tuple [])) (h : ∀ t', Φ (.int i t') m σ) :
    WP c (call (.ref 287) [.ref sc, .int i t, .ref tv]) Φ m σ := by
  refine wp_call ?_
  refine' enter [(Str.ofString "scene", .ref sc), (Str.ofString "at", .int i t), (Str.ofString "tests", .ref tv)] C ?ho ?hcd ?hb ?hloc ?_ ?hco ?hgen ?hk ?hcell
  walk_at "enter"
  case hb => exact fun s X => BindsTo.of_eq rfl
  intro A' h₀' L' C' E'
  walk_at "go"
  exact sp_last0 C' hv h
end
end
section
section
variable {c : Cf} {k : Nat} {m : Fields} {σ ρ : Gh} {Φ : Value → Fields → Gh → Prop}
variable {sc b rl ga la tl : Addr} {mk fl : Int} {kind : Str} {cs : List Gy} {i : Nat} {q : Gy}
theorem sp_info_init {x d : Addr} {g cl : Int} {t0 tg tc : Tok} (C : Cx c (k + 1)) (hxd : x ≠ d) (h : ∀ v : IV, v.g = g ∧ v.tg = tg ∧ v.cl = cl ∧ v.tc = tc ∧ v.t0 = t0 ∧ v.ms = 0 → Φ .none m (upd (upd σ d (.attrs v.fs)) x (.inst 142 d))) :
    WC c (.ref 125) [.ref x, .int 0 t0, .int g tg, .int cl tc] Φ m (upd (upd σ d (.attrs [])) x (.inst 142 d)) := by
  refine' enter [(Str.ofString "self", .ref x), (Str.ofString "code", .int 0 t0), (Str.ofString "glyph", .int g tg), (Str.ofString "cluster", .int cl tc)] C ?ho ?hcd ?hb ?hloc ?_ ?hco ?hgen ?hk ?hcell
  walk_at "enter"
  case hb => exact fun s X => BindsTo.of_eq rfl
  intro A' h₀' L' C' E'
  walk_at "go"
  exact h ⟨g, tg, cl, tc, 0, _, false, 0, _, t0, _, _, _, _, _, _, _, _, _⟩ ⟨rfl, rfl, rfl, rfl, rfl, rfl⟩
theorem sp_info_new {g cl : Int} {t0 tg tc : Tok} (C : Cx c (k + 2)) (h : ∀ x d (v : IV), σ x = none → σ d = none → x ≠ d → v.g = g ∧ v.tg = tg ∧ v.cl = cl ∧ v.tc = tc ∧ v.t0 = t0 ∧ v.ms = 0 → Φ (.ref x) m (upd (upd σ d (.attrs v.fs)) x (.inst 142 d))) :
    WC c (.ref 142) [.int 0 t0, .int g tg, .int cl tc] Φ m σ := by
  refine' wp_new C ?q1 ?q2 ?q3 ?_
  case q1 => k_is
  case q2 => k_is
  case q3 => k_is
  intro x d A' C' hx hd hxd
  exact sp_info_init C' hxd fun v h1 => ⟨rfl, h x d v hx hd hxd h1⟩
theorem sp_copied (C : Cx c (k + 3)) (hq : q.At σ) (h : ∀ x d, σ x = none → σ d = none → x ≠ d → Φ (.ref x) m (upd (upd σ d (.attrs q.v.fs)) x (.inst 142 d))) : WP c (call (.ref 132) [.ref q.x]) Φ m σ := by
  have hqi := hq.inst
  refine wp_call ?_
  refine' enter [(Str.ofString "self", .ref q.x)] C ?ho ?hcd ?hb ?hloc ?_ ?hco ?hgen ?hk ?hcell
  walk_at "enter"
  case hb => exact fun s X => BindsTo.of_eq rfl
  intro A' h₀' L' C' E'
  walk_at "go"
  refine wp_call (sp_info_new C' fun x d v hx hd hxd hv => ?_)
  walk_at "go"
  obtain ⟨g, tg, cl, tc, ms, tm, un, lp, tlp, t0, t1, t2, t3, t4, t5, t6, t7, t8, t9⟩ := v
  obtain ⟨rfl, rfl, rfl, rfl, rfl, rfl⟩ := hv
  exact h x d hx hd hxd
theorem snoc_ints {vs : List Value} {ns : List Int} {a : Int} {t : Tok} (h : IntsAre vs ns) : IntsAre (vs ++ [.int a t]) (ns ++ [a]) := by
  induction h with
  | nil => exact .cons _ _ .nil
  | cons n u _ ih => exact .cons _ _ ih
theorem comp_clusters {env : Env} {scope : Scope} {cl : List (Str × Addr)} {p1 p2 p3 : Pos} {D : Addr} {vs : List Value} (C : Cx c k) (E : Ev c env) (hk : scope.kind = .function) (hl : ∀ Cn, (compEnvC scope cl Cn env).kindOf "info" = some .local) (B : Wd ρ σ b rl cs) (hD : LstAt σ D vs)
    (hvs : ∀ (j : Nat) v, vs[j]? = some v → ∃ (i : Nat) (q : Gy), cs[i]? = some q ∧ v = .ref q.x) (hsz : vs.length ≤ 1000) (h : ∀ ys ns D2, IntsAre ys ns → ns.length = vs.length → σ D2 = none → Φ (.ref D2) m (upd σ D2 (.xlist ys))) :
    CompAll c env scope cl (.Name (Str.ofString "info") p1) (.Attribute (.Name (Str.ofString "info") p2) (Str.ofString "cluster") p3) [] Φ (.ref D) m σ := by
  refine ⟨_, _, _, fun i ys τ => τ = σ ∧ ∃ ns, IntsAre ys ns ∧ ns.length = i, fun _ v => [("info", v)], by rw [sizeLine_eq]; omega, ⟨rfl, [], .nil, rfl⟩, fun i ys τ hK => hK.1 ▸ Src.list hD, fun it D Cn f1 f2 f3 d1 d2 d3 => ⟨?_, ?_⟩, ?_⟩
  · exact asg_name E hk (hl Cn)
  · intro i v ys τ hi hv hK g1 g2 g3
    obtain ⟨rfl, ns, hI, hn⟩ := hK
    obtain ⟨i', q, hq, rfl⟩ := hvs _ _ hv
    have hqi := (B.get hq).2.2.inst
    refine wt_nil (And.intro (fun _ => ?_) (fun hb => by cases hb))
    refine wp_attrN ?_
    refine nc_local E hk (hl Cn) (upd_same _ _ _) (by with_unfolding_all rfl) ?_
    walk_at "go"
    exact ⟨rfl, _, ⟨rfl, ns ++ [q.v.cl], snoc_ints hI, by simp [hn]⟩, g1, g2, g3, Sub.refl _⟩
  · rintro ys τ ⟨rfl, ns, hI, hn⟩ hy D2 hD2
    exact h ys ns D2 hI hn hD2
def HangRes (ρ : Gh) (b rl : Addr) (cs : List Gy) (Φ : Gh → Prop) : Prop := ∀ σ' cs', Wd ρ σ' b rl cs' → cs'.map kk = cs.map kk → Φ σ'
theorem set_it {τ : Gh} {it a : Addr} {J A B : AO} (hτ : τ it = none) (ha : τ a = some B) : upd τ a A it = none ∧ Sub (upd (upd τ a A) it J) (upd (upd τ it J) a A) := by
  have hne := ne_of_none hτ ha
  exact ⟨upd_none hτ hne.symm, by rw [upd_comm hne]; exact Sub.refl _⟩
theorem sp_hang {bg en : Int} {t1 t2 : Tok} (C : Cx c (k + 1)) (B : Wd ρ σ b rl cs) (hb : 0 ≤ bg) (he : 0 ≤ en) (h : HangRes ρ b rl cs (fun σ' => Φ .none m σ')) : WP c (call (.ref 214) [.ref b, .int bg t1, .int en t2]) Φ m σ := by
  have hsz := B.size
  obtain ⟨tb, hbuf⟩ := B.buf.buf
  have hrow := B.buf.row
  refine wp_call (WC.forget ?_)
  refine' enter [(Str.ofString "buffer", .ref b), (Str.ofString "begin", .int bg t1), (Str.ofString "end", .int en t2)] C ?ho ?hcd ?hb ?hloc ?_ ?hco ?hgen ?hk ?hcell
  walk_at "enter"
  case hb => exact fun s X => BindsTo.of_eq rfl
  intro A' h₀' L' C' E'
  have hpl := pick_len (cs.map fun q => Value.ref q.x) (some bg) (some en)
  rw [List.length_map] at hpl
  walk_at "go"
  · exact ⟨σ, by walk_at "sub", h _ _ B rfl⟩
  · rename_i sa hsa D hD tl _ hb
    have B1 : Wd (upd ρ D (.xlist (kms_pick (cs.map fun q => Value.ref q.x) (some bg) (some en)))) (upd (upd σ sa (.raw (sliceO (.int bg t1) (.int en t2)))) D (.xlist (kms_pick (cs.map fun q => Value.ref q.x) (some bg) (some en)))) b rl cs := (B.more ((Sub.refl _).upd hsa)).new hD
    refine comp_clusters C' E' rfl (fun Cn => rfl) B1 (.inr (upd_same _ _ _)) (fun j v hv => pick_gy hv) (by omega) fun ys ns D2 hI hn hD2 => ?_
    walk_at "go"
    refine min_ints C' (.inr (upd_same _ _ _)) hI (by omega) fun M tM _ => ?_
    walk_at "go"
    refine ⟨_, _, _, fun j m' τ => (∀ v, setF m' (Str.ofString "info") v = ([("end", .int en t2), ("begin", .int bg t1), ("buffer", .ref b), ("stretch", .ref D), ("least_cluster", .int M tM), ("info", v)] : Fields)) ∧
      ∃ cs', Wd (upd ρ D (.xlist (kms_pick (cs.map fun q => Value.ref q.x) (some bg) (some en)))) τ b rl cs' ∧ cs'.map kk = cs.map kk, ⟨fun v => rfl, cs, B1.more ((Sub.refl _).upd hD2), rfl⟩,
      fun j m' τ hK => (Src.list (.inr (upd_same _ _ _))).sub hK.2.choose_spec.1.sub, fun it hit j v m' τ hj hjv hK hτ => ?_, fun m' τ hK => ?_⟩
    · obtain ⟨hm, cs', B', hkk⟩ := hK
      obtain ⟨i', q, hq, rfl⟩ := pick_gy hjv
      obtain ⟨q', hq', e1, e2, e3, e4⟩ := kk_get hkk hq
      rw [← e1]
      have hqa := (B'.get hq').2.2
      have hqi := hqa.inst
      refine as_store (wp_store E' rfl ?_)
      rw [hm]
      have hset := fun v' => B'.setv hq' v'
      walk_at "go"
      · have hqd : upd τ it (AO.listIter D (j + 1)) q'.d = some (.attrs q'.v.fs) := upd_ne (ne_of_none hτ hqa.2) hqa.2
        refine sa_gy C' ⟨upd_ne (ne_of_none hτ hqa.1) hqa.1, hqd⟩ { q'.v with un := true } rfl (by kernel_rfl) ?_
        walk_at "go"
        obtain ⟨n1, n2⟩ := set_it (J := AO.listIter D (j + 1)) (A := .attrs ({ q'.v with un := true } : IV).fs) hτ hqa.2
        exact ⟨_, ⟨fun v => rfl, _, hset { q'.v with un := true }, (kk_set (v' := { q'.v with un := true }) hq' rfl rfl).trans hkk⟩, n1, n2⟩
      · exact ⟨τ, ⟨fun v => rfl, cs', B', hkk⟩, hτ, Sub.refl _⟩
    · obtain ⟨hm, cs', B', hkk⟩ := hK
      walk_at "go"
      exact ⟨_, Sub.refl _, h _ cs' (B'.less ((Sub.refl _).upd (B.sub.none_of (none_of_upd hD).2))) hkk⟩
end
end
section
section
variable {c : Cf} {k : Nat} {m : Fields} {σ ρ : Gh} {Φ : Value → Fields → Gh → Prop}
variable {sc b rl ga la tl : Addr} {mk fl : Int} {kind : Str} {cs : List Gy} {i : Nat} {q : Gy}
theorem sp_set_cluster {n : Int} {t : Tok} (C : Cx c (k + 1)) (hq : q.At σ) (h : ∀ v' : IV, v'.g = q.v.g → v'.ms = q.v.ms → Φ .none m (upd σ q.d (.attrs v'.fs))) : WP c (call (.ref 197) [.ref q.x, .int n t]) Φ m σ := by
  have hqi := hq.inst
  refine wp_call ?_
  refine' enter [(Str.ofString "info", .ref q.x), (Str.ofString "cluster", .int n t)] C ?ho ?hcd ?hb ?hloc ?_ ?hco ?hgen ?hk ?hcell
  walk_at "enter"
  case hb => exact fun s X => BindsTo.of_eq rfl
  intro A' h₀' L' C' E'
  walk_at "go"
  · refine sa_gy C' hq { q.v with cl := n, tc := t } rfl (by kernel_rfl) ?_
    walk_at "go"
    have hne := attrs_ne hq.1 hq.2 (by simp)
    have hq2 : Gy.At (upd σ q.d (.attrs ({ q.v with cl := n, tc := t } : IV).fs)) ⟨q.x, q.d, { q.v with cl := n, tc := t }⟩ := ⟨upd_ne hne hq.1, upd_same _ _ _⟩
    refine sa_gy (q := ⟨q.x, q.d, { q.v with cl := n, tc := t }⟩) C' hq2 { q.v with cl := n, tc := t, un := false } rfl (by kernel_rfl) ?_
    walk_at "go"
    rw [upd_upd]
    exact h _ rfl rfl
  · have := h q.v rfl rfl
    rw [upd_eq_self hq.2] at this
    exact this
theorem sp_widened {t1 t2 : Tok} (C : Cx c (k + 1)) (B : Wd ρ σ b rl cs) (hlen : 2 ≤ cs.length) (h : ∀ T (e : Int) u1 u2, σ T = none → 0 ≤ e → Φ (.ref T) m (upd σ T (.tuple [.int 0 u1, .int e u2]))) : WP c (call (.ref 204) [.ref rl, .int 0 t1, .int 2 t2]) Φ m σ := by
  have hsz := B.size
  have hrow := B.buf.row
  refine wp_call ?_
  refine' enter [(Str.ofString "row", .ref rl), (Str.ofString "begin", .int 0 t1), (Str.ofString "end", .int 2 t2)] C ?ho ?hcd ?hb ?hloc ?_ ?hco ?hgen ?hk ?hcell
  walk_at "enter"
  case hb => exact fun s X => BindsTo.of_eq rfl
  intro A' h₀' L' C' E'
  walk_at "go"
  refine we_while (wwh_ind (fun n m' σ' => σ' = σ ∧ ∃ (e : Nat) (t3 : Tok), n + e = cs.length ∧ 2 ≤ e ∧ m' = ([("end", .int 2 t2), ("begin", .int 0 t1), ("row", .ref rl), ("first", .int 0 t1), ("behind", .int e t3)] : Fields)) ?_ (cs.length - 2) ⟨rfl, 2, _, by omega, by omega, rfl⟩)
  rintro n m' σ' ⟨rfl, e, t3, hn, he, rfl⟩
  walk_at "go"
  · obtain ⟨q1, hq1⟩ := gy_ex (cs := cs) (e := e) (by omega)
    obtain ⟨q2, hq2⟩ := gy_ex (cs := cs) (e := e - 1) (by omega)
    have hx1 := gy_at hq1
    have hx2 := gy_pred (by omega) hq2
    have hi1 := (B.get hq1).2.2.inst
    have hi2 := (B.get hq2).2.2.inst
    walk_at "go"
    · exact ⟨n - 1, by omega, rfl, e + 1, _, by omega, by omega, rfl⟩
    · refine we_while (wwh_ind (fun n m' τ => τ = σ' ∧ m' = ([("end", .int 2 t2), ("begin", .int 0 t1), ("row", .ref rl), ("first", .int 0 t1), ("behind", .int e t3)] : Fields)) ?_ 0 ⟨rfl, rfl⟩)
      rintro n m' τ ⟨rfl, rfl⟩
      walk_at "go"
      intro T hT
      exact h T e _ _ hT (by omega)
  · refine we_while (wwh_ind (fun n m' τ => τ = σ' ∧ m' = ([("end", .int 2 t2), ("begin", .int 0 t1), ("row", .ref rl), ("first", .int 0 t1), ("behind", .int e t3)] : Fields)) ?_ 0 ⟨rfl, rfl⟩)
    rintro n m' τ ⟨rfl, rfl⟩
    walk_at "go"
    intro T hT
    exact h T e _ _ hT (by omega)
theorem sp_merge1 {a : Int} {t1 t2 : Tok} (C : Cx c (k + 1)) (h : Φ .none m σ) : WP c (call (.ref 209) [.ref b, .int a t1, .int (a + 1) t2]) Φ m σ := by
  refine wp_call ?_
  refine' enter [(Str.ofString "buffer", .ref b), (Str.ofString "begin", .int a t1), (Str.ofString "end", .int (a + 1) t2)] C ?ho ?hcd ?hb ?hloc ?_ ?hco ?hgen ?hk ?hcell
  walk_at "enter"
  case hb => exact fun s X => BindsTo.of_eq rfl
  intro A' h₀' L' C' E'
  walk_at "go"
  · exact h
theorem sp_merge2 {t1 t2 : Tok} (C : Cx c (k + 2)) (B : Wd ρ σ b rl cs) (hlen : 2 ≤ cs.length) (h : HangRes ρ b rl cs (fun σ' => Φ .none m σ')) : WP c (call (.ref 209) [.ref b, .int 0 t1, .int 2 t2]) Φ m σ := by
  have hsz := B.size
  obtain ⟨tb, hbuf⟩ := B.buf.buf
  have hrow := B.buf.row
  refine wp_call (WC.forget ?_)
  refine' enter [(Str.ofString "buffer", .ref b), (Str.ofString "begin", .int 0 t1), (Str.ofString "end", .int 2 t2)] C ?ho ?hcd ?hb ?hloc ?_ ?hco ?hgen ?hk ?hcell
  walk_at "enter"
  case hb => exact fun s X => BindsTo.of_eq rfl
  intro A' h₀' L' C' E'
  have hpl := pick_len (cs.map fun q => Value.ref q.x) (some 0) (some 2)
  rw [List.length_map] at hpl
  walk_at "go"
  rename_i sa hsa D hD
  have B0 : Wd ρ (upd (upd σ sa (.raw (sliceO (.int 0 t1) (.int 2 t2)))) D (.xlist (kms_pick (cs.map fun q => Value.ref q.x) (some 0) (some 2)))) b rl cs := B.more (by walk_at "sub")
  have hlp : (kms_pick (cs.map fun q => Value.ref q.x) (some 0) (some 2)).length = 2 := by
    unfold kms_pick
    rw [List.length_take, List.length_drop, List.length_map]
    simp only [kms_lo, kms_hi]
    simp
    omega
  refine comp_clusters C' E' rfl (fun Cn => rfl) B0 (.inr (upd_same _ _ _)) (fun j v hv => pick_gy hv) (by omega) fun ys ns D2 hI hn hD2 => ?_
  walk_at "go"
  refine min_ints C' (.inr (upd_same _ _ _)) hI (by omega) fun M tM _ => ?_
  walk_at "go"
  have B1 := B0.more (σ' := upd (upd (upd σ sa (.raw (sliceO (.int 0 t1) (.int 2 t2)))) D (.xlist (kms_pick (cs.map fun q => Value.ref q.x) (some 0) (some 2)))) D2 (.xlist ys)) ((Sub.refl _).upd hD2)
  obtain ⟨tb1, hbuf1⟩ := B1.buf.buf
  refine sp_widened C' B1 hlen fun T e u1 u2 hT he => ?_
  have hpl2 := pick_len (cs.map fun q => Value.ref q.x) (some 0) (some e)
  rw [List.length_map] at hpl2
  walk_at "go"
  rename_i sb hsb D3 hD3
  have B2 := (B1.more (((Sub.refl _).new hT).new hsb)).new (A := .xlist (kms_pick (cs.map fun q => Value.ref q.x) (some 0) (some e))) hD3
  refine ⟨_, _, _, fun j m' τ => (∀ v, setF m' (Str.ofString "info") v = ([("end", .int 2 t2), ("begin", .int 0 t1), ("buffer", .ref b), ("least_cluster", .int M tM), ("first", .int 0 u1), ("behind", .int e u2), ("info", v)] : Fields)) ∧
    ∃ cs', Wd (upd ρ D3 (.xlist (kms_pick (cs.map fun q => Value.ref q.x) (some 0) (some e)))) τ b rl cs' ∧ cs'.map kk = cs.map kk, ⟨fun v => rfl, cs, B2, rfl⟩,
    fun j m' τ hK => (Src.list (.inr (upd_same _ _ _))).sub hK.2.choose_spec.1.sub, fun it hit j v m' τ hj hjv hK hτ => ?_, fun m' τ hK => ?_⟩
  · obtain ⟨hm, cs', B', hkk⟩ := hK
    obtain ⟨i', q, hq, rfl⟩ := pick_gy hjv
    obtain ⟨q', hq', e1, e2, e3, e4⟩ := kk_get hkk hq
    rw [← e1]
    have hqa := (B'.get hq').2.2
    refine as_store (wp_store E' rfl ?_)
    rw [hm]
    walk_at "go"
    refine sp_set_cluster C' ⟨upd_ne (ne_of_none hτ hqa.1) hqa.1, upd_ne (ne_of_none hτ hqa.2) hqa.2⟩ fun v' g1 g2 => ?_
    walk_at "go"
    obtain ⟨n1, n2⟩ := set_it (J := AO.listIter D3 (j + 1)) (A := .attrs v'.fs) hτ hqa.2
    exact ⟨_, ⟨fun v => rfl, _, B'.setv hq' v', (kk_set hq' g1 g2).trans hkk⟩, n1, n2⟩
  · obtain ⟨hm, cs', B', hkk⟩ := hK
    walk_at "go"
    exact ⟨_, Sub.refl _, h _ cs' (B'.less ((Sub.refl _).upd (Sub.none_of (B1.sub.trans (((Sub.refl _).new hT).new hsb)) hD3))) hkk⟩
theorem sp_drop_cluster {t : Tok} (C : Cx c (k + 4)) (B : Wd ρ σ b rl cs) (hi : i < cs.length) (h : HangRes ρ b rl cs (fun σ' => Φ .none m σ')) : WP c (call (.ref 219) [.ref b, .int i t]) Φ m σ := by
  have hsz := B.size
  obtain ⟨tb, hbuf⟩ := B.buf.buf
  have hrow := B.buf.row
  refine wp_call (WC.forget ?_)
  refine' enterC [(Str.ofString "buffer", .ref b), (Str.ofString "at", .int i t)] [(Str.ofString "at", .int i t), (Str.ofString "buffer", .ref b)] C ?ho ?hcd ?hb ?hloc ?hnd ?hm ?_ ?hco ?hgen ?hk
  case ho => k_is
  case hcd => k_is
  case hb => exact fun s X => BindsTo.of_eq rfl
  case hloc => with_unfolding_all rfl
  case hnd => decide +kernel
  case hm => intro L'; funext y; with_unfolding_all rfl
  case hco => with_unfolding_all rfl
  case hgen => with_unfolding_all rfl
  case hk => with_unfolding_all rfl
  intro A' h₀' L' C' E' hfree
  have hLf : σ (L' + 1) = none := hfree _ (Nat.le_succ _)
  have B0 := B.new (A := .cell (some (.ref rl))) hLf
  obtain ⟨q, hq⟩ := gy_ex hi
  have hx := gy_at hq
  have hqi := (B.get hq).2.2.inst
  change WS _ _ _ _ _ _ (upd σ (L' + 1) (.cell none))
  walk_at "go"
  rw [upd_upd]
  refine we_compS C' E' [(Str.ofString "row", L' + 1)] ?_ ?hl ?hsw ?hcl ?hce ?hki ?hna ?hfo
  case hl => with_unfolding_all rfl
  case hsw => with_unfolding_all rfl
  case hcl => with_unfolding_all rfl
  case hce => decide
  case hki => with_unfolding_all rfl
  case hna => decide
  case hfo => intro x; with_unfolding_all rfl
  walk_at "go"
  intro T hT
  rename_i t3 t4 t5 t6
  generalize hσ1 : upd (upd σ (L' + 1) (.cell (some (.ref rl)))) T (.tuple [.int (i - 1) t4, .int (i + 1) t6]) = σ1
  have B1 : Wd (upd ρ (L' + 1) (.cell (some (.ref rl)))) σ1 b rl cs := hσ1 ▸ B0.more ((Sub.refl _).new hT)
  have hc1 : σ1 (L' + 1) = some (.cell (some (.ref rl))) := B1.sub _ _ (upd_same _ _ _)
  have hT1 : σ1 T = some (.tuple [.int (i - 1) t4, .int (i + 1) t6]) := hσ1 ▸ upd_same _ _ _
  have hrow1 := B1.buf.row
  obtain ⟨tb1, hbuf1⟩ := B1.buf.buf
  refine ⟨_, _, _, fun j ys τ => τ = σ1 ∧ ∃ ns, IntsAre ys ns ∧ (ns ≠ [] → 2 ≤ cs.length), fun _ v => [("spot", v)], by rw [sizeLine_eq]; show 2 ≤ _; decide, ⟨rfl, [], .nil, fun h => absurd rfl h⟩, fun j ys τ hK => hK.1 ▸ Src.tuple hT1, fun it D Cn f1 f2 f3 d1 d2 d3 => ⟨?_, ?_⟩, ?_⟩
  · walk_at "asg"
  · intro j v ys τ hj hv hK g1 g2 g3
    obtain ⟨rfl, ns, hI, hn⟩ := hK
    have hz : ∃ (z : Int) (tz : Tok), v = .int z tz ∧ (z = i - 1 ∨ z = i + 1) := by
      match j, hj, hv with
      | 0, _, hv => exact ⟨_, _, (Option.some.inj hv).symm, .inl rfl⟩
      | 1, _, hv => exact ⟨_, _, (Option.some.inj hv).symm, .inr rfl⟩
    obtain ⟨z, tz, rfl, hz⟩ := hz
    walk_at "go"
    · have hz2 : z.toNat < cs.length := by omega
      obtain ⟨qz, hqz⟩ := gy_ex hz2
      have hxz : (cs.map fun q => Value.ref q.x)[z.toNat]? = some (.ref qz.x) := by rw [List.getElem?_map, hqz]; rfl
      have hqzi := (B1.get hqz).2.2.inst
      walk_at "go"
      exact ⟨rfl, τ, ⟨rfl, ns ++ [qz.v.cl], snoc_ints hI, fun _ => by omega⟩, g1, g2, g3, Sub.refl _⟩
    · exact ⟨rfl, τ, ⟨rfl, ns, hI, hn⟩, g1, g2, g3, Sub.refl _⟩
    · exact ⟨rfl, τ, ⟨rfl, ns, hI, hn⟩, g1, g2, g3, Sub.refl _⟩
  · rintro ys τ ⟨rfl, ns, hI, hn⟩ hy D2 hD2
    have B2 := B1.more (σ' := upd τ D2 (.xlist ys)) ((Sub.refl _).new hD2)
    generalize hσ2 : upd τ D2 (.xlist ys) = σ2 at B2 ⊢
    have hD2' : LstAt σ2 D2 ys := .inr (hσ2 ▸ upd_same _ _ _)
    have hc2 := B2.sub _ _ (upd_same _ _ _)
    have hrow2 := B2.buf.row
    have B2' := B2.less (ρ' := ρ) ((Sub.refl _).upd (B.sub.none_of hLf))
    walk_at "go"
    · rename_i nlD hnlD
      refine cp_eq_ints C' (hD2'.sub ((Sub.refl _).new hnlD)) hI (.inr (upd_same _ _ _)) .nil ?_
      have B3 := B2.more (σ' := upd σ2 nlD (.xlist [])) ((Sub.refl _).new hnlD)
      generalize hσ3 : upd σ2 nlD (.xlist []) = σ3 at B3 ⊢
      have hc3 : σ3 (L' + 1) = some (.cell (some (.ref rl))) := hσ3 ▸ upd_ne (ne_of_none hnlD hc2) hc2
      have hrow3 := B3.buf.row
      by_cases hi0 : 0 < i
      · obtain ⟨q0, hq0⟩ := gy_ex (cs := cs) (e := i - 1) (by omega)
        have hx0 := gy_pred hi0 hq0
        have hqi0 := (B3.get hq0).2.2.inst
        walk_at "go"
        · refine we_while (wwh_ind (fun n m' τ => ∃ (s : Int) (ts : Tok) (cs' : List Gy), n = (s + 1).toNat ∧ -1 ≤ s ∧ s < cs.length ∧
            m' = ([("at", .int i t), ("buffer", .ref b), ("cluster", .int q.v.cl q.v.tc), ("beside", .ref D2), ("before", .int q0.v.cl q0.v.tc), ("spot", .int s ts)] : Fields) ∧
            Wd (upd ρ (L' + 1) (.cell (some (.ref rl)))) τ b rl cs' ∧ cs'.map kk = cs.map kk) ?_ _ ⟨(i : Int) - 1, _, cs, rfl, by omega, by omega, rfl, B3, rfl⟩)
          rintro n m' τ ⟨s, ts, cs', rfl, hs1, hs2, rfl, B4, hkk⟩
          have hc4 := B4.sub _ _ (upd_same _ _ _)
          have hrow4 := B4.buf.row
          have hl4 := kk_len hkk
          have B4' := B4.less (ρ' := ρ) ((Sub.refl _).upd (B.sub.none_of hLf))
          have hsz4 := B4.size
          by_cases hs0 : 0 ≤ s
          · obtain ⟨q4, hq4⟩ := gy_ex (cs := cs') (e := s.toNat) (by omega)
            have hx4 : (cs'.map fun q => Value.ref q.x)[s.toNat]? = some (.ref q4.x) := by rw [List.getElem?_map, hq4]; rfl
            have hqa4 := (B4.get hq4).2.2
            have hqi4 := hqa4.inst
            walk_at "go"
            · refine sp_set_cluster C' hqa4 fun v' e1 e2 => ?_
              walk_at "go"
              exact ⟨(s - 1 + 1).toNat, by omega, s - 1, _, _, rfl, by omega, by omega, rfl, B4.setv hq4 v', (kk_set hq4 e1 e2).trans hkk⟩
            all_goals exact ⟨_, Sub.refl _, h _ _ B4' hkk⟩
          · walk_at "go"
            all_goals exact ⟨_, Sub.refl _, h _ _ B4' hkk⟩
        · exact ⟨_, Sub.refl _, h _ _ (B3.less ((Sub.refl _).upd (B.sub.none_of hLf))) rfl⟩
      · have : i = 0 := by omega
        subst this
        walk_at "go"
        · refine sp_merge2 C' (B3.less (ρ' := ρ) ((Sub.refl _).upd (B.sub.none_of hLf))) (hn ‹_›) fun σ' cs' B' hkk => ?_
          walk_at "go"
          exact ⟨_, Sub.refl _, h _ _ B' hkk⟩
        · exact ⟨_, Sub.refl _, h _ _ (B3.less ((Sub.refl _).upd (B.sub.none_of hLf))) rfl⟩
    · exact ⟨_, Sub.refl _, h _ _ B2' rfl⟩
end
end
section
section
variable {c : Cf} {k : Nat} {m : Fields} {σ ρ : Gh} {Φ : Value → Fields → Gh → Prop}
variable {sc b rl ga la tl ta : Addr} {mk fl : Int} {kind : Str} {cs : List Gy} {i : Nat} {q : Gy} {mp : Int → Option (List Int)} {bh : Int}
def MapInt (kvs : List (Int × Value)) (mp : Int → Option (List Int)) : Prop := ∀ g, (mp g = none ∧ valueAt kvs g = none) ∨ ∃ z t, mp g = some [z] ∧ valueAt kvs g = some (.int z t)
def MapTup (ρ : Gh) (kvs : List (Int × Value)) (mp : Int → Option (List Int)) : Prop := ∀ g, (mp g = none ∧ valueAt kvs g = none) ∨ ∃ a vs ps, mp g = some ps ∧ valueAt kvs g = some (.ref a) ∧ ρ a = some (.tuple vs) ∧ IntsAre vs ps ∧ ps.length ≤ 3
def SingleOk (ρ : Gh) (ta : Addr) (mp : Int → Option (List Int)) : Prop := ∃ da kvs, InstF ρ ta 529 [("mapping", .ref da)] ∧ ρ da = some (.idict kvs) ∧ MapInt kvs mp
def MultOk (ρ : Gh) (ta : Addr) (mp : Int → Option (List Int)) : Prop := ∃ da kvs, InstF ρ ta 555 [("mapping", .ref da)] ∧ ρ da = some (.idict kvs) ∧ MapTup ρ kvs mp
def AltOk (ρ : Gh) (ta : Addr) (mp : Int → Option (List Int)) : Prop := ∃ da kvs, InstF ρ ta 581 [("mapping", .ref da)] ∧ ρ da = some (.idict kvs) ∧ MapTup ρ kvs mp
def LigOk (ρ : Gh) (ta : Addr) (mp : Int → Option (List Int)) : Prop := ∃ da kvs, InstF ρ ta 335 [("sets", .ref da)] ∧ ρ da = some (.idict kvs) ∧
  ∀ g, (mp g = none ∧ valueAt kvs g = none) ∨ ∃ l tp e z t, mp g = some [z] ∧ valueAt kvs g = some (.ref l) ∧ LstAt ρ l [.ref tp] ∧ ρ tp = some (.tuple [.ref e, .int z t]) ∧ ρ e = some (.tuple [])
def RevOk (ρ : Gh) (ta : Addr) (mp : Int → Option (List Int)) (bh : Int) : Prop := ∃ da kvs ba aa ws, InstF ρ ta 496 [("mapping", .ref da), ("back", .ref ba), ("ahead", .ref aa)] ∧ ρ da = some (.idict kvs) ∧ MapInt kvs mp ∧ ρ ba = some (.tuple []) ∧ ρ aa = some (.tuple ws) ∧
  ((bh = 0 ∧ ws = []) ∨ (bh ≠ 0 ∧ ∃ cv, ws = [.ref cv] ∧ CovOk ρ cv bh))
/-- what an applier gives: the row as told, or -1 -/
def AppRes (ρ : Gh) (b rl : Addr) (cs : List Gy) (i : Nat) (ms : Int) (res : Option (List Int)) (stay : Bool) (Φ : Value → Gh → Prop) : Prop :=
  (res = none → ∀ σ' cs' t, Wd ρ σ' b rl cs' → cs'.map gm = cs.map gm → Φ (.int (-1) t) σ') ∧
  ∀ ps, res = some ps → ∀ σ' cs' t, Wd ρ σ' b rl cs' → cs'.map gm = splice (cs.map gm) i ps ms → Φ (.int (if stay then i else i + ps.length) t) σ'
theorem sp_apply_single {t : Tok} (C : Cx c (k + 1)) (W : SW ρ sc b ga la mk kind fl tl) (B : Wd ρ σ b rl cs) (hi : cs[i]? = some q) (T : SingleOk ρ ta mp) (h : AppRes ρ b rl cs i q.v.ms (mp q.v.g) false (fun v σ' => Φ v m σ')) :
    WP c (call (.ref 592) [.ref sc, .ref ta, .int i t]) Φ m σ := by
  obtain ⟨hlt, hmem, hqa⟩ := B.get hi
  have hsz := B.size
  have hqi := hqa.inst
  have hx := gy_at hi
  obtain ⟨tb, hbuf⟩ := B.buf.buf
  have hrow := B.buf.row
  obtain ⟨lks, tm, td, h0⟩ := W.sc
  have h0 := h0.sub B.sub
  obtain ⟨da, kvs, h1, h2, hM⟩ := T
  have h1 := h1.sub B.sub
  have h2 := B.sub _ _ h2
  refine wp_call ?_
  refine' enter [(Str.ofString "scene", .ref sc), (Str.ofString "table", .ref ta), (Str.ofString "at", .int i t)] C ?ho ?hcd ?hb ?hloc ?_ ?hco ?hgen ?hk ?hcell
  walk_at "enter"
  case hb => exact fun s X => BindsTo.of_eq rfl
  intro A' h₀' L' C' E'
  rcases hM q.v.g with ⟨e1, e2⟩ | ⟨z, tz, e1, e2⟩
  · walk_at "go"
    exact h.1 e1 _ _ _ B rfl
  · walk_at "go"
    refine sa_gy C' hqa { q.v with g := z, tg := tz } rfl (by kernel_rfl) ?_
    walk_at "go"
    exact h.2 _ e1 _ _ _ (B.setv hi { q.v with g := z, tg := tz }) (gm_set hi { q.v with g := z, tg := tz } rfl)
def chz (bits ch : Int) : Int := if bits = 2 ∨ bits = 6 then ch.fdiv 2 else if bits = 4 then (ch.fdiv 2).fdiv 2 else ch
def MkOk (mk : Int) : Prop := mk = 1 ∨ mk = 2 ∨ mk = 3 ∨ mk = 6 ∨ mk = 4
theorem sp_choice_of {ms : Int} {t1 t2 : Tok} (C : Cx c (k + 1)) (hm : MkOk mk) (h : ∀ t, Φ (.int (chz mk (Builtin.bitAnd ms mk)) t) m σ) (hms : 0 ≤ Builtin.bitAnd ms mk ∧ Builtin.bitAnd ms mk < 100) : WP c (call (.ref 606) [.int ms t1, .int mk t2]) Φ m σ := by
  refine wp_call ?_
  refine' enter [(Str.ofString "mask", .int ms t1), (Str.ofString "bits", .int mk t2)] C ?ho ?hcd ?hb ?hloc ?_ ?hco ?hgen ?hk ?hcell
  walk_at "enter"
  case hb => exact fun s X => BindsTo.of_eq rfl
  intro A' h₀' L' C' E'
  walk_at "go"
  · exfalso; rcases hm with rfl | rfl | rfl | rfl | rfl <;> omega
  refine we_while (wwh_ind (fun n m' τ => τ = σ ∧ ∃ (bits ch : Int) (t3 t4 : Tok), n = bits.toNat ∧ MkOk bits ∧ m' = ([("bits", .int bits t3), ("mask", .int ms t1), ("choice", .int ch t4)] : Fields) ∧ chz bits ch = chz mk (Builtin.bitAnd ms mk)) ?_ _ ⟨rfl, mk, _, _, _, rfl, hm, rfl, rfl⟩)
  rintro n m' τ ⟨rfl, bits, ch, t3, t4, rfl, hb, rfl, hc⟩
  walk_at "go"
  · have hf : bits.fmod 2 = 0 := ‹_›
    have h2 : bits = 2 ∨ bits = 6 ∨ bits = 4 := by
      rcases hb with rfl | rfl | rfl | rfl | rfl
      · exact absurd hf (by decide)
      · exact .inl rfl
      · exact absurd hf (by decide)
      · exact .inr (.inl rfl)
      · exact .inr (.inr rfl)
    rcases h2 with rfl | rfl | rfl
    · exact ⟨1, by decide, rfl, 1, ch.fdiv 2, _, _, rfl, .inl rfl, rfl, by rw [← hc]; rfl⟩
    · exact ⟨3, by decide, rfl, 3, ch.fdiv 2, _, _, rfl, .inr (.inr (.inl rfl)), rfl, by rw [← hc]; rfl⟩
    · exact ⟨2, by decide, rfl, 2, ch.fdiv 2, _, _, rfl, .inr (.inl rfl), rfl, by rw [← hc]; rfl⟩
  · have hf : ¬ bits.fmod 2 = 0 := ‹_›
    have e : chz bits ch = ch := by
      rcases hb with rfl | rfl | rfl | rfl | rfl
      · rfl
      · exact absurd (by decide) hf
      · rfl
      · exact absurd (by decide) hf
      · exact absurd (by decide) hf
    rw [← hc, e] at h
    exact h _
def altRes (mp : Int → Option (List Int)) (g ch : Int) : Option (List Int) := match mp g with
  | none => none
  | some ps => if 1 ≤ ch ∧ ch ≤ ps.length then some [ps.getD (ch - 1).toNat 0] else none
theorem ints_getD {vs : List Value} {ns : List Int} (h : IntsAre vs ns) {j : Nat} (hj : j < ns.length) : ∃ t, vs[j]? = some (.int (ns.getD j 0) t) := by
  induction h generalizing j with
  | nil => simp at hj
  | cons n t _ ih =>
    cases j with
    | zero => exact ⟨t, rfl⟩
    | succ j => simpa using ih (by simpa using hj)
theorem sp_apply_alternate {t : Tok} (C : Cx c (k + 2)) (W : SW ρ sc b ga la mk kind fl tl) (B : Wd ρ σ b rl cs) (hi : cs[i]? = some q) (hm : MkOk mk) (hms : 0 ≤ Builtin.bitAnd q.v.ms mk ∧ Builtin.bitAnd q.v.ms mk < 100) (T : AltOk ρ ta mp)
    (h : AppRes ρ b rl cs i q.v.ms (altRes mp q.v.g (chz mk (Builtin.bitAnd q.v.ms mk))) false (fun v σ' => Φ v m σ')) :
    WP c (call (.ref 613) [.ref sc, .ref ta, .int i t]) Φ m σ := by
  obtain ⟨hlt, hmem, hqa⟩ := B.get hi
  have hsz := B.size
  have hqi := hqa.inst
  have hx := gy_at hi
  obtain ⟨tb, hbuf⟩ := B.buf.buf
  have hrow := B.buf.row
  obtain ⟨lks, tm, td, h0⟩ := W.sc
  have h0 := h0.sub B.sub
  obtain ⟨da, kvs, h1, h2, hM⟩ := T
  have h1 := h1.sub B.sub
  have h2 := B.sub _ _ h2
  refine wp_call ?_
  refine' enter [(Str.ofString "scene", .ref sc), (Str.ofString "table", .ref ta), (Str.ofString "at", .int i t)] C ?ho ?hcd ?hb ?hloc ?_ ?hco ?hgen ?hk ?hcell
  walk_at "enter"
  case hb => exact fun s X => BindsTo.of_eq rfl
  intro A' h₀' L' C' E'
  generalize hch : chz mk (Builtin.bitAnd q.v.ms mk) = ch at h
  rcases hM q.v.g with ⟨e1, e2⟩ | ⟨a, vs, ps, e1, e2, e3, e4, e5⟩
  · have er : altRes mp q.v.g ch = none := by unfold altRes; rw [e1]
    walk_at "go"
    refine sp_choice_of C' hm (fun t3 => ?_) hms
    rw [hch]
    walk_at "go"
    all_goals exact h.1 er _ _ _ (B.more (by walk_at "sub")) rfl
  · have e3 := B.sub _ _ e3
    have el := e4.length
    by_cases hc1 : 1 ≤ ch ∧ ch ≤ ps.length
    · obtain ⟨tz, hxz⟩ := ints_getD e4 (j := (ch - 1).toNat) (by omega)
      have er : altRes mp q.v.g ch = some [ps.getD (ch - 1).toNat 0] := by unfold altRes; rw [e1]; exact if_pos hc1
      walk_at "go"
      refine sp_choice_of C' hm (fun t3 => ?_) hms
      rw [hch]
      rename_i u hu
      have B1 : Wd ρ (upd σ u (.tuple [])) b rl cs := B.more (by walk_at "sub")
      have hqa1 := (B1.get hi).2.2
      walk_at "go"
      refine sa_gy C' hqa1 { q.v with g := ps.getD (ch - 1).toNat 0, tg := tz } rfl (by kernel_rfl) ?_
      walk_at "go"
      exact h.2 _ er _ _ _ (B1.setv hi { q.v with g := ps.getD (ch - 1).toNat 0, tg := tz }) (gm_set hi { q.v with g := ps.getD (ch - 1).toNat 0, tg := tz } rfl)
    · have er : altRes mp q.v.g ch = none := by unfold altRes; rw [e1]; exact if_neg hc1
      walk_at "go"
      refine sp_choice_of C' hm (fun t3 => ?_) hms
      rw [hch]
      walk_at "go"
      all_goals exact h.1 er _ _ _ (B.more (by walk_at "sub")) rfl
end
end
section
section
variable {c : Cf} {k : Nat} {m : Fields} {σ ρ : Gh} {Φ : Value → Fields → Gh → Prop}
variable {sc b rl ga la tl ta : Addr} {mk fl : Int} {kind : Str} {cs : List Gy} {i : Nat} {q : Gy} {mp : Int → Option (List Int)} {bh : Int}
theorem sp_apply_ligature {t : Tok} (C : Cx c (k + 1)) (W : SW ρ sc b ga la mk kind fl tl) (B : Wd ρ σ b rl cs) (hi : cs[i]? = some q) (T : LigOk ρ ta mp) (h : AppRes ρ b rl cs i q.v.ms (mp q.v.g) false (fun v σ' => Φ v m σ')) :
    WP c (call (.ref 384) [.ref sc, .ref ta, .int i t]) Φ m σ := by
  obtain ⟨hlt, hmem, hqa⟩ := B.get hi
  have hsz := B.size
  have hqi := hqa.inst
  have hx := gy_at hi
  obtain ⟨tb, hbuf⟩ := B.buf.buf
  have hrow := B.buf.row
  obtain ⟨lks, tm, td, h0⟩ := W.sc
  have h0 := h0.sub B.sub
  obtain ⟨da, kvs, h1, h2, hM⟩ := T
  have h1 := h1.sub B.sub
  have h2 := B.sub _ _ h2
  refine wp_call (WC.forget ?_)
  refine' enter [(Str.ofString "scene", .ref sc), (Str.ofString "table", .ref ta), (Str.ofString "at", .int i t)] C ?ho ?hcd ?hb ?hloc ?_ ?hco ?hgen ?hk ?hcell
  walk_at "enter"
  case hb => exact fun s X => BindsTo.of_eq rfl
  intro A' h₀' L' C' E'
  rcases hM q.v.g with ⟨e1, e2⟩ | ⟨l, tp, e, z, tz, e1, e2, e3, e4, e5⟩
  · walk_at "go"
    rename_i u hu
    refine ⟨_, _, _, fun j m' τ => j = 0 ∧ τ = upd σ u (.xlist []) ∧ m' = ([("at", .int i t), ("table", .ref ta), ("scene", .ref sc), ("row", .ref rl), ("first", .int q.v.g q.v.tg)] : Fields), ⟨rfl, rfl, rfl⟩, fun j m' τ hK => hK.2.1 ▸ Src.list (.inr (upd_same _ _ _)), fun it hit j v m' τ hj hjv hK hτ => ?_, fun m' τ hK => ?_⟩
    · simp at hj
    · obtain ⟨_, rfl, rfl⟩ := hK
      walk_at "go"
      exact ⟨_, Sub.refl _, h.1 e1 _ _ _ (B.more (by walk_at "sub")) rfl⟩
  · have e3 := e3.sub B.sub
    walk_at "go"
    rename_i u hu
    refine ⟨_, _, _, fun j m' τ => j = 0 ∧ τ = upd σ u (.xlist []) ∧ m' = ([("at", .int i t), ("table", .ref ta), ("scene", .ref sc), ("row", .ref rl), ("first", .int q.v.g q.v.tg)] : Fields), ⟨rfl, rfl, rfl⟩, fun j m' τ hK => hK.2.1 ▸ Src.list (e3.sub ((Sub.refl _).new hu)), fun it hit j v m' τ hj hjv hK hτ => ?_, fun m' τ hK => ?_⟩
    · obtain ⟨rfl, rfl, rfl⟩ := hK
      have hv : v = .ref tp := by simpa using hjv.symm
      subst hv
      have B1 : Wd ρ (upd (upd σ u (.xlist [])) it (.listIter l (0 + 1))) b rl cs := B.more (by walk_at "sub")
      generalize upd (upd σ u (.xlist [])) it (.listIter l (0 + 1)) = σ1 at B1 ⊢
      have e4 := B1.sub _ _ e4
      have e5 := B1.sub _ _ e5
      have hrow1 := B1.buf.row
      have hqa1 := (B1.get hi).2.2
      walk_at "go"
      intro u2 hu2
      have B2 : Wd ρ (upd σ1 u2 (.tuple [])) b rl cs := B1.more (by walk_at "sub")
      refine cp_eq_unit C' (upd_ne (ne_of_none hu2 e5) e5) (upd_same _ _ _) ?_
      have hqa2 := (B2.get hi).2.2
      walk_at "go"
      refine sa_gy C' hqa2 { q.v with g := z, tg := tz } rfl (by kernel_rfl) ?_
      walk_at "go"
      exact ⟨_, Sub.refl _, h.2 _ e1 _ _ _ (B2.setv hi { q.v with g := z, tg := tz }) (gm_set hi { q.v with g := z, tg := tz } rfl)⟩
    · simp at hK
def revRes (mp : Int → Option (List Int)) (fl bh : Int) (gs : List Int) (i : Nat) (g : Int) : Option (List Int) := match mp g with
  | none => none
  | some ps => if bh = 0 ∨ 0 ≤ fnd fl bh (gs.drop (i + 1)) (i + 1) then some ps else none
theorem SW.sub {ρ' : Gh} (h : SW ρ sc b ga la mk kind fl tl) (hs : Sub ρ ρ') : SW ρ' sc b ga la mk kind fl tl := ⟨h.sc.sub hs, h.gd.sub hs, let ⟨a, b, d, e⟩ := h.lk; ⟨a, b, d, e.sub hs⟩, h.hf⟩
theorem sp_apply_reverse {t : Tok} (C : Cx c (k + 8)) (W : SW ρ sc b ga la mk kind fl tl) (B : Wd ρ σ b rl cs) (hi : cs[i]? = some q) (T : RevOk ρ ta mp bh) (h : AppRes ρ b rl cs i q.v.ms (revRes mp fl bh (gys cs) i q.v.g) true (fun v σ' => Φ v m σ')) :
    WP c (call (.ref 507) [.ref sc, .ref ta, .int i t]) Φ m σ := by
  obtain ⟨hlt, hmem, hqa⟩ := B.get hi
  have hsz := B.size
  have hqi := hqa.inst
  have hx := gy_at hi
  obtain ⟨tb, hbuf⟩ := B.buf.buf
  have hrow := B.buf.row
  obtain ⟨lks, tm, td, h0⟩ := W.sc
  have h0 := h0.sub B.sub
  obtain ⟨da, kvs, ba, aa, ws, h1, h2, hM, h3, h4, h5⟩ := T
  have h1' := h1.sub B.sub
  have h2' := B.sub _ _ h2
  have h3' := B.sub _ _ h3
  have h4' := B.sub _ _ h4
  refine wp_call (WC.forget ?_)
  refine' enter [(Str.ofString "scene", .ref sc), (Str.ofString "table", .ref ta), (Str.ofString "at", .int i t)] C ?ho ?hcd ?hb ?hloc ?_ ?hco ?hgen ?hk ?hcell
  walk_at "enter"
  case hb => exact fun s X => BindsTo.of_eq rfl
  intro A' h₀' L' C' E'
  rcases hM q.v.g with ⟨e1, e2⟩ | ⟨z, tz, e1, e2⟩
  · have er : revRes mp fl bh (gys cs) i q.v.g = none := by unfold revRes; rw [e1]
    walk_at "go"
    exact ⟨_, Sub.refl _, h.1 er _ _ _ B rfl⟩
  · walk_at "go"
    refine sp_cover_tests C' h3' (.inl rfl) (bh := 0) fun D1 ws1 τ1 hs1 hD1 hl1 hT1 => ?_
    have : ws1 = [] := List.eq_nil_of_length_eq_zero hl1
    subst this
    walk_at "go"
    refine sp_back_at C' hD1 fun t4 => ?_
    have B1 : Wd ρ τ1 b rl cs := B.more hs1
    have h1' := h1.sub B1.sub
    have h4' := B1.sub _ _ h4
    walk_at "go"
    generalize hbhs : (if bh = 0 then ([] : List Int) else [bh]) = bhs
    have hv5 : ws = [] ∨ ∃ cv, ws = [.ref cv] ∧ CovOk τ1 cv bh := by
      rcases h5 with ⟨_, h⟩ | ⟨_, cv, h, h'⟩
      · exact .inl h
      · exact .inr ⟨cv, h, h'.sub B1.sub⟩
    have hwl : ws.length = bhs.length := by
      rcases h5 with ⟨h, h'⟩ | ⟨h, cv, h', _⟩
      · rw [← hbhs, if_pos h, h']; rfl
      · rw [← hbhs, if_neg h, h']; rfl
    have hb1 : bhs.length ≤ 1 := by rw [← hbhs]; split <;> simp
    refine sp_cover_tests C' h4' hv5 fun D2 ws2 τ2 hs2 hD2 hl2 hT2 => ?_
    have B2 : Wd ρ τ2 b rl cs := B1.more hs2
    obtain ⟨B2m, hρm⟩ := B2.max
    walk_at "go"
    refine sp_ahead_at C' (W.sub hρm) B2m hlt (B2.rest_get hD2 (by simp) (by simp)) (hl2.trans hwl) hb1 (fun j v hv => ?_) fun t5 => ?_
    · have hj : j < ws2.length := (List.getElem?_eq_some_iff.mp hv).1
      obtain ⟨tt, rfl, cv, tc, g1, gt, g2, g3, g4⟩ := hT2 v (List.mem_of_getElem? hv)
      refine ⟨tt, bh, rfl, ?_, cv, tc, B2.rest_get g1 (by simp) (by simp), gt, g2, B2.rest_inst g3 (by intro v; simp [IV.fs]), B2.rest_get g4 (by simp) (by simp)⟩
      have : j = 0 := by omega
      subst this
      rw [← hbhs]
      split
      · rename_i h0
        rw [← hbhs, if_pos h0] at hwl
        simp at hwl
        subst hwl
        simp at hl2
        subst hl2
        simp at hj
      · rfl
    have htr : (bh = 0 ∨ 0 ≤ fnd fl bh ((gys cs).drop (i + 1)) (i + 1)) ↔ 0 ≤ tstRes fl cs i bhs := by
      rw [← hbhs]
      by_cases h0 : bh = 0
      · simp [h0, tstRes]
      · simp [h0, tstRes]
    obtain ⟨tb2, hbuf2⟩ := B2.buf.buf
    have h02 := h0.sub (hs1.trans hs2)
    by_cases hge : 0 ≤ tstRes fl cs i bhs
    · have er : revRes mp fl bh (gys cs) i q.v.g = some [z] := by unfold revRes; rw [e1]; exact if_pos (htr.mpr hge)
      walk_at "go"
      refine sp_hang C' B2 (by omega) (by omega) fun σ' cs' B' hkk => ?_
      obtain ⟨q', hq', ex, ed, eg, em⟩ := kk_get hkk hi
      have hqa' := (B'.get hq').2.2
      have hqi' : InstF σ' q.x 142 q'.v.fs := ex ▸ hqa'.inst
      have e2' : valueAt kvs q'.v.g = some (.int z tz) := by rw [eg]; exact e2
      have h1' := h1.sub B'.sub
      have h2' := B'.sub _ _ h2
      walk_at "go"
      rw [← ex]
      refine sa_gy C' hqa' { q'.v with g := z, tg := tz } rfl (by kernel_rfl) ?_
      walk_at "go"
      refine ⟨_, Sub.refl _, h.2 _ er _ _ _ (B'.setv hq' { q'.v with g := z, tg := tz }) ?_⟩
      have := gm_set hq' { q'.v with g := z, tg := tz } rfl
      rw [gm_of_kk hkk, em] at this
      exact this
    · have er : revRes mp fl bh (gys cs) i q.v.g = none := by unfold revRes; rw [e1]; exact if_neg (mt htr.mp hge)
      walk_at "go"
      exact ⟨_, Sub.refl _, h.1 er _ _ _ B2 rfl⟩
end
end
section
section
variable {c : Cf} {k : Nat} {m : Fields} {σ ρ : Gh} {Φ : Value → Fields → Gh → Prop}
variable {sc b rl ga la tl ta : Addr} {mk fl : Int} {kind : Str} {cs : List Gy} {i : Nat} {q : Gy} {mp : Int → Option (List Int)} {bh : Int}
theorem ints_get {vs : List Value} {ns : List Int} (h : IntsAre vs ns) {j : Nat} {v : Value} (hv : vs[j]? = some v) : ∃ n t, v = .int n t ∧ ns[j]? = some n := by
  induction h generalizing j with
  | nil => simp at hv
  | cons n t _ ih =>
    cases j with
    | zero => exact ⟨n, t, (Option.some.inj hv).symm, rfl⟩
    | succ j => exact ih hv
theorem nodup_cut {l : List Addr} (h : l.Nodup) (i : Nat) : (l.take i ++ l.drop (i + 1)).Nodup := by
  have hs : (l.take i ++ l.drop (i + 1)).Sublist l := by
    have : l.take i ++ l.drop i = l := List.take_append_drop i l
    conv => rhs; rw [← this]
    refine List.Sublist.append (List.Sublist.refl _) ?_
    rw [← List.drop_drop]
    exact List.drop_sublist _ _
  exact h.sublist hs
theorem nodup_swap {l r : List Addr} (h : (l ++ r).Nodup) (i : Nat) : (l.take i ++ r ++ l.drop (i + 1)).Nodup := by
  obtain ⟨h1, h2, h3⟩ := List.nodup_append.mp h
  have hc := List.nodup_append.mp (nodup_cut h1 i)
  refine List.nodup_append.mpr ⟨List.nodup_append.mpr ⟨hc.1, h2, fun a ha b hb => h3 a (List.mem_of_mem_take ha) b hb⟩, hc.2.1, fun a ha b hb e => ?_⟩
  rcases List.mem_append.mp ha with ha | ha
  · exact hc.2.2 a ha b hb e
  · exact h3 b (List.mem_of_mem_drop hb) a ha e.symm
theorem sp_put {t t1 : Tok} {ga : Addr} {vs : List Value} {ps : List Int} (C : Cx c (k + 5)) (B : Wd ρ σ b rl cs) (hi : cs[i]? = some q) (hg : ρ ga = some (.tuple vs)) (hp : IntsAre vs ps) (hps : ps.length ≤ 3) (hroom : cs.length < 990)
    (h : ∀ σ' cs', Wd ρ σ' b rl cs' → cs'.map gm = splice (cs.map gm) i ps q.v.ms → Φ .none m σ') :
    WP c (call (.ref 226) [.ref b, .int i t, .int 1 t1, .ref ga]) Φ m σ := by
  obtain ⟨hlt, hmem, hqa⟩ := B.get hi
  have hsz := B.size
  have hqi := hqa.inst
  have hx := gy_at hi
  obtain ⟨tb, hbuf⟩ := B.buf.buf
  have hrow := B.buf.row
  have hgσ := B.sub _ _ hg
  have hpl := hp.length
  refine wp_call (WC.forget ?_)
  refine' enter [(Str.ofString "buffer", .ref b), (Str.ofString "at", .int i t), (Str.ofString "count", .int 1 t1), (Str.ofString "glyphs", .ref ga)] C ?ho ?hcd ?hb ?hloc ?_ ?hco ?hgen ?hk ?hcell
  walk_at "enter"
  case hb => exact fun s X => BindsTo.of_eq rfl
  intro A' h₀' L' C' E'
  walk_at "go"
  refine sp_merge1 C' ?_
  walk_at "go"
  rename_i F hF
  refine ⟨_, _, _, fun j m' τ => (m' = ([("glyphs", .ref ga), ("count", .int 1 t1), ("at", .int i t), ("buffer", .ref b), ("first", .ref q.x), ("found", .ref F)] : Fields) ∨ ∃ v w, m' = ([("glyphs", .ref ga), ("count", .int 1 t1), ("at", .int i t), ("buffer", .ref b), ("first", .ref q.x), ("found", .ref F), ("glyph", v), ("info", w)] : Fields)) ∧
    ∃ ns : List Gy, Wd ρ τ b rl cs ∧ τ F = some (.xlist (ns.map fun q => .ref q.x)) ∧ (∀ q' ∈ ns, q'.At τ ∧ ρ q'.d = none ∧ q'.v.ms = q.v.ms) ∧ ((cs ++ ns).map (·.d)).Nodup ∧ ns.map (·.v.g) = ps.take j ∧ ns.length = j,
    ⟨.inl rfl, [], B.more ((Sub.refl _).new hF), upd_same _ _ _, by simp, by simpa using B.buf.nodup, by simp, rfl⟩, fun j m' τ hK => Src.tuple (hK.2.choose_spec.1.sub _ _ hg), fun it hit j v m' τ hj hjv hK hτ => ?_, fun m' τ hK => ?_⟩
  · obtain ⟨hm, ns, B1, hF1, hns, hnd, hgs, hnl⟩ := hK
    obtain ⟨n, tn, rfl, hn⟩ := ints_get hp hjv
    have hqa1 := (B1.get hi).2.2
    have hqi1 := hqa1.inst
    have hfin : ∀ x d, (upd τ it (AO.tupIter ga (j + 1))) x = none → (upd τ it (AO.tupIter ga (j + 1))) d = none → x ≠ d → ∀ m2, (m2 = ([("glyphs", .ref ga), ("count", .int 1 t1), ("at", .int i t), ("buffer", .ref b), ("first", .ref q.x), ("found", .ref F), ("glyph", .int n tn), ("info", .ref x)] : Fields)) →
       ∃ τ', ((m2 = ([("glyphs", .ref ga), ("count", .int 1 t1), ("at", .int i t), ("buffer", .ref b), ("first", .ref q.x), ("found", .ref F)] : Fields) ∨ ∃ v w, m2 = ([("glyphs", .ref ga), ("count", .int 1 t1), ("at", .int i t), ("buffer", .ref b), ("first", .ref q.x), ("found", .ref F), ("glyph", v), ("info", w)] : Fields)) ∧
         ∃ ns : List Gy, Wd ρ τ' b rl cs ∧ τ' F = some (.xlist (ns.map fun q => .ref q.x)) ∧ (∀ q' ∈ ns, q'.At τ' ∧ ρ q'.d = none ∧ q'.v.ms = q.v.ms) ∧ ((cs ++ ns).map (·.d)).Nodup ∧ ns.map (·.v.g) = ps.take (j + 1) ∧ ns.length = j + 1) ∧ τ' it = none ∧
         Sub (upd τ' it (AO.tupIter ga (j + 1))) (upd (upd (upd (upd τ it (AO.tupIter ga (j + 1))) d (.attrs ({ q.v with g := n, tg := tn } : IV).fs)) x (.inst 142 d)) F (.xlist ((ns.map fun q => Value.ref q.x) ++ [.ref x]))) := by
      intro x d hx' hd' hxd m2 hm2
      obtain ⟨x1, x2⟩ := none_of_upd hx'
      obtain ⟨d1, d2⟩ := none_of_upd hd'
      have hrlF : rl ≠ F := by
        obtain ⟨A, hA⟩ := hrow.some
        exact ne_of_none hF hA
      have hFx := ne_of_none x2 hF1
      have hFd := ne_of_none d2 hF1
      have hFit := ne_of_none hτ hF1
      have Bd : Wd ρ (upd τ d (.attrs ({ q.v with g := n, tg := tn } : IV).fs)) b rl cs := B1.more ((Sub.refl _).new d2)
      have hx3 : (upd τ d (.attrs ({ q.v with g := n, tg := tn } : IV).fs)) x = none := upd_none x2 hxd
      have Bx : Wd ρ (upd (upd τ d (.attrs ({ q.v with g := n, tg := tn } : IV).fs)) x (.inst 142 d)) b rl cs := Bd.more ((Sub.refl _).new hx3)
      have hFx2 : (upd (upd τ d (.attrs ({ q.v with g := n, tg := tn } : IV).fs)) x (.inst 142 d)) F = some (.xlist (ns.map fun q => .ref q.x)) := upd_ne hFx (upd_ne hFd hF1)
      refine ⟨upd (upd (upd τ d (.attrs ({ q.v with g := n, tg := tn } : IV).fs)) x (.inst 142 d)) F (.xlist ((ns.map fun q => Value.ref q.x) ++ [.ref x])), ⟨.inr ⟨_, _, hm2⟩, ns ++ [⟨x, d, { q.v with g := n, tg := tn }⟩], Bx.updx hFx2 hrlF.symm (B.sub.none_of hF), ?_, ?_, ?_, ?_, ?_⟩, ?_, ?_⟩
      · rw [upd_same]; simp
      · intro q' hq'
        rcases List.mem_append.mp hq' with hq' | hq'
        · obtain ⟨⟨a1, a2⟩, a3, a4⟩ := hns q' hq'
          refine ⟨⟨?_, ?_⟩, a3, a4⟩
          · exact upd_ne (fun e => by rw [e, hF1] at a1; cases a1) (upd_ne (ne_of_none x2 a1) (upd_ne (ne_of_none d2 a1) a1))
          · exact upd_ne (fun e => by rw [e, hF1] at a2; cases a2) (upd_ne (ne_of_none x2 a2) (upd_ne (ne_of_none d2 a2) a2))
        · have e : q' = ⟨x, d, { q.v with g := n, tg := tn }⟩ := by simpa using hq'
          subst e
          exact ⟨⟨upd_ne hFx.symm (upd_same _ _ _), upd_ne hFd.symm (upd_ne hxd.symm (upd_same _ _ _))⟩, B1.sub.none_of d2, rfl⟩
      · rw [← List.append_assoc, List.map_append]
        refine List.nodup_append.mpr ⟨hnd, by simp, fun a ha b' hb' e => ?_⟩
        have : b' = d := by simpa using hb'
        subst this
        subst e
        obtain ⟨q', hq', e⟩ := List.mem_map.mp ha
        rcases List.mem_append.mp hq' with hq' | hq'
        · have := (B1.buf.cells q' hq').2; rw [e, d2] at this; cases this
        · have := (hns q' hq').1.2; rw [e, d2] at this; cases this
      · rw [List.map_append, hgs, List.take_succ, hn]; rfl
      · simp [hnl]
      · exact upd_none (upd_none (upd_none hτ d1.symm) x1.symm) hFit.symm
      · rw [upd_comm (Ne.symm hFit).symm, upd_comm x1, upd_comm d1]
        exact Sub.refl _
    rcases hm with rfl | ⟨v0, w0, rfl⟩
    · walk_at "go"
      refine sp_copied C' ⟨upd_ne (ne_of_none hτ hqa1.1) hqa1.1, upd_ne (ne_of_none hτ hqa1.2) hqa1.2⟩ fun x d hx' hd' hxd => ?_
      walk_at "go"
      exact hfin x d hx' hd' hxd _ rfl
    · walk_at "go"
      refine sp_copied C' ⟨upd_ne (ne_of_none hτ hqa1.1) hqa1.1, upd_ne (ne_of_none hτ hqa1.2) hqa1.2⟩ fun x d hx' hd' hxd => ?_
      walk_at "go"
      exact hfin x d hx' hd' hxd _ rfl
  · obtain ⟨hm, ns, B1, hF1, hns, hnd, hgs, hnl⟩ := hK
    rw [hpl] at hnl
    rw [hpl, List.take_length] at hgs
    have hrow1 := B1.buf.row
    obtain ⟨tb1, hbuf1⟩ := B1.buf.buf
    have ecs : cs.take i ++ [q] ++ cs.drop (i + 1) = cs := by
      obtain ⟨h1, h2⟩ := List.getElem?_eq_some_iff.mp hi
      rw [List.append_assoc, ← h2, List.singleton_append, ← List.drop_eq_getElem_cons h1, List.take_append_drop]
    cases ns with
    | nil =>
      have hps0 : ps = [] := by simpa using hgs.symm
      subst hps0
      rcases hm with rfl | ⟨v0, w0, rfl⟩
      all_goals
        walk_at "go"
        rename_i n1 hn1
        refine cp_eq_nil C' (.inr (upd_ne (ne_of_none hn1 hF1) hF1)) (.inr (upd_same _ _ _)) ?_
        have B2 := B1.more (σ' := upd τ n1 (.xlist [])) ((Sub.refl _).new hn1)
        generalize upd τ n1 (.xlist []) = σ2 at B2 ⊢
        obtain ⟨tb2, hbuf2⟩ := B2.buf.buf
        walk_at "go"
        intro a ha
        rename_i n2 hn2 tt2
        have B3 := B2.more (σ' := upd σ2 n2 (.xlist [.ref q.x])) ((Sub.refl _).new hn2)
        have B4 := B3.more (σ' := upd (upd σ2 n2 (.xlist [.ref q.x])) a (.raw (sliceO (.int i t) (.int ((i : Int) + 1) tt2)))) ((Sub.refl _).new ha)
        refine set_row1 (new := [q]) B4 hlt (.inr (upd_ne (ne_of_none ha (upd_same _ _ _)) (upd_same _ _ _))) (by obtain ⟨A, hA⟩ := B2.buf.row.some; exact ne_of_none hn2 hA) (upd_same _ _ _) (fun q' hq' => ?_) ?_ ?_ (by simp) fun B5 => ?_
        · have e : q' = q := by simpa using hq'
          subst e
          exact ⟨(B4.get hi).2.2, B4.dis _ hmem⟩
        · rw [ecs]; exact B4.buf.nodup
        · rw [ecs]; exact hsz
        rw [ecs] at B5
        simp only [ecs]
        walk_at "go"
        refine sp_drop_cluster C' B5 hlt fun σ6 cs6 B6 hkk => ?_
        obtain ⟨tb6, hbuf6⟩ := B6.buf.buf
        have hl6 := kk_len hkk
        have hsz6 := B6.size
        walk_at "go"
        intro a2 ha2
        rename_i n7 hn7 tt7 tt8
        have B7 := B6.more (σ' := upd σ6 n7 (.xlist [])) ((Sub.refl _).new hn7)
        have B8 := B7.more (σ' := upd (upd σ6 n7 (.xlist [])) a2 (.raw (sliceO (.int i t) (.int ((i : Int) + 1) tt8)))) ((Sub.refl _).new ha2)
        refine set_row1 (new := []) B8 (by omega) (.inr (upd_ne (ne_of_none ha2 (upd_same _ _ _)) (upd_same _ _ _))) (by obtain ⟨A, hA⟩ := B6.buf.row.some; exact ne_of_none hn7 hA) (upd_same _ _ _) (fun q' hq' => by cases hq') ?_ ?_ (by decide) fun B9 => ?_
        · have := B8.buf.nodup
          rw [List.append_nil, List.map_append, List.map_take, List.map_drop]
          exact nodup_cut this i
        · simp only [List.append_nil, List.length_append, List.length_take, List.length_drop]; omega
        walk_at "go"
        refine ⟨_, Sub.refl _, h _ _ B9 ?_⟩
        rw [← gm_of_kk hkk]
        simp [splice, List.map_take, List.map_drop]
    | cons q0 ns =>
      rcases hm with rfl | ⟨v0, w0, rfl⟩
      all_goals
        walk_at "go"
        rename_i n1 hn1
        refine cp_eq_nil C' (.inr (upd_ne (ne_of_none hn1 hF1) hF1)) (.inr (upd_same _ _ _)) ?_
        have B2 := B1.more (σ' := upd τ n1 (.xlist [])) ((Sub.refl _).new hn1)
        have hF2 : (upd τ n1 (.xlist [])) F = _ := upd_ne (ne_of_none hn1 hF1) hF1
        have hns2 : ∀ q' ∈ q0 :: ns, q'.At (upd τ n1 (.xlist [])) ∧ ρ q'.d = none ∧ q'.v.ms = q.v.ms := fun q' hq' =>
          ⟨⟨upd_ne (ne_of_none hn1 (hns q' hq').1.1) (hns q' hq').1.1, upd_ne (ne_of_none hn1 (hns q' hq').1.2) (hns q' hq').1.2⟩, (hns q' hq').2⟩
        generalize upd τ n1 (.xlist []) = σ2 at B2 hF2 hns2 ⊢
        obtain ⟨tb2, hbuf2⟩ := B2.buf.buf
        rw [show ((q0 :: ns).map fun q => Value.ref q.x).isEmpty = false from rfl]
        walk_at "go"
        intro a ha
        rename_i tt9
        have B4 := B2.more (σ' := upd σ2 a (.raw (sliceO (.int i t) (.int ((i : Int) + 1) tt9)))) ((Sub.refl _).new ha)
        have hnl3 : (q0 :: ns).length ≤ 3 := by omega
        refine set_row1 (new := q0 :: ns) B4 hlt (.inr (upd_ne (ne_of_none ha hF2) hF2)) (by obtain ⟨A, hA⟩ := hrow.some; exact ne_of_none hF hA) (upd_same _ _ _) (fun q' hq' => ⟨⟨upd_ne (ne_of_none ha (hns2 q' hq').1.1) (hns2 q' hq').1.1, upd_ne (ne_of_none ha (hns2 q' hq').1.2) (hns2 q' hq').1.2⟩, (hns2 q' hq').2.1⟩) ?_ ?_ (by omega) fun B5 => ?_
        · have e := hnd
          rw [List.map_append] at e
          rw [List.map_append, List.map_append, List.map_take, List.map_drop]
          exact nodup_swap e i
        · simp only [List.length_append, List.length_take, List.length_drop]; omega
        walk_at "go"
        refine ⟨_, Sub.refl _, h _ _ B5 ?_⟩
        have e2 : (q0 :: ns).map gm = ps.map fun g => (g, q.v.ms) := by
          rw [← hgs, List.map_map]
          exact List.map_congr_left fun q' hq' => by simp [gm, (hns q' hq').2.2]
        unfold splice
        rw [List.map_append, List.map_append, e2, List.map_take, List.map_drop]
theorem sp_apply_multiple {t : Tok} (C : Cx c (k + 6)) (W : SW ρ sc b ga la mk kind fl tl) (B : Wd ρ σ b rl cs) (hi : cs[i]? = some q) (hroom : cs.length < 990) (T : MultOk ρ ta mp) (h : AppRes ρ b rl cs i q.v.ms (mp q.v.g) false (fun v σ' => Φ v m σ')) :
    WP c (call (.ref 599) [.ref sc, .ref ta, .int i t]) Φ m σ := by
  obtain ⟨hlt, hmem, hqa⟩ := B.get hi
  have hsz := B.size
  have hqi := hqa.inst
  have hx := gy_at hi
  obtain ⟨tb, hbuf⟩ := B.buf.buf
  have hrow := B.buf.row
  obtain ⟨lks, tm, td, h0ρ⟩ := W.sc
  have h0 := h0ρ.sub B.sub
  obtain ⟨da, kvs, h1ρ, h2, hM⟩ := T
  have h1 := h1ρ.sub B.sub
  have h2 := B.sub _ _ h2
  refine wp_call (WC.forget ?_)
  refine' enter [(Str.ofString "scene", .ref sc), (Str.ofString "table", .ref ta), (Str.ofString "at", .int i t)] C ?ho ?hcd ?hb ?hloc ?_ ?hco ?hgen ?hk ?hcell
  walk_at "enter"
  case hb => exact fun s X => BindsTo.of_eq rfl
  intro A' h₀' L' C' E'
  rcases hM q.v.g with ⟨e1, e2⟩ | ⟨a, vs, ps, e1, e2, e3, e4, e5⟩
  · walk_at "go"
    exact ⟨_, Sub.refl _, h.1 e1 _ _ _ B rfl⟩
  · have e3σ := B.sub _ _ e3
    have el := e4.length
    by_cases hone : ps.length = 1
    · obtain ⟨z, rfl⟩ : ∃ z, ps = [z] := by
        match ps, hone with
        | [z], _ => exact ⟨z, rfl⟩
      obtain ⟨tz, hxz⟩ := ints_getD e4 (j := 0) (by simp)
      have hxz : vs[(0 : Int).toNat]? = some (.int z tz) := hxz
      walk_at "go"
      · refine sa_gy C' hqa { q.v with g := z, tg := tz } rfl (by kernel_rfl) ?_
        walk_at "go"
        exact ⟨_, Sub.refl _, h.2 _ e1 _ _ _ (B.setv hi { q.v with g := z, tg := tz }) (gm_set hi { q.v with g := z, tg := tz } rfl)⟩
    · walk_at "go"
      refine sp_put C' B hi e3 e4 e5 hroom fun σ' cs' B' hgm => ?_
      have e3' := B'.sub _ _ e3
      have h0' := h0ρ.sub B'.sub
      have hl' : cs'.length = i + ps.length + (cs.length - (i + 1)) := by
        have := congrArg List.length hgm
        simp [splice] at this
        omega
      walk_at "go"
      rename_i r u1 u2 u3 hr
      obtain ⟨s1, s2⟩ := rs_up vs.length (by omega)
      have B1 := B'.new (A := .raw (rangeO 0 vs.length 1 u1 u2 u3)) hr
      refine ⟨_, _, _, fun j m' τ => (m' = ([("at", .int i t), ("table", .ref ta), ("scene", .ref sc), ("info", .ref q.x), ("pieces", .ref a), ("is_bound", .bool false)] : Fields) ∨ ∃ v, m' = ([("at", .int i t), ("table", .ref ta), ("scene", .ref sc), ("info", .ref q.x), ("pieces", .ref a), ("is_bound", .bool false), ("part", v)] : Fields)) ∧
         ∃ cs2, Wd (upd ρ r (.raw (rangeO 0 vs.length 1 u1 u2 u3))) τ b rl cs2 ∧ cs2.map kk = cs'.map kk, ⟨.inl rfl, cs', B1, rfl⟩, fun j m' τ hK => Src.range (hK.2.choose_spec.1.sub _ _ (upd_same _ _ _)) s1 s2, fun it hit j v m' τ hj hjv hK hτ => ?_, fun m' τ hK => ?_⟩
      · obtain ⟨hm, cs2, B2, hkk⟩ := hK
        have hm : ∀ v, setF m' (Str.ofString "part") v = ([("at", .int i t), ("table", .ref ta), ("scene", .ref sc), ("info", .ref q.x), ("pieces", .ref a), ("is_bound", .bool false), ("part", v)] : Fields) := by rcases hm with rfl | ⟨v, rfl⟩ <;> exact fun v => rfl
        obtain ⟨tv, rfl⟩ := hjv
        have hl2 := kk_len hkk
        have hsz2 := B2.size
        obtain ⟨q2, hq2⟩ := gy_ex (cs := cs2) (e := i + j) (by omega)
        have hqa2 := (B2.get hq2).2.2
        have hx2 : (cs2.map fun q => Value.ref q.x)[((i : Int) + (0 + (j : Int) * 1)).toNat]? = some (.ref q2.x) := by
          have : ((i : Int) + (0 + (j : Int) * 1)).toNat = i + j := by omega
          rw [this, List.getElem?_map, hq2]; rfl
        have hs2 : Sub (upd ρ r (.raw (rangeO 0 vs.length 1 u1 u2 u3))) τ := B2.sub
        have h02 := h0ρ.sub (((Sub.refl ρ).upd (B'.sub.none_of hr)).trans hs2)
        obtain ⟨tb2, hbuf2⟩ := B2.buf.buf
        have hrow2 := B2.buf.row
        refine as_store (wp_store E' rfl ?_)
        rw [hm]
        walk_at "w"
        walk_at "w"
        walk_at "w"
        walk_at "w"
        walk_at "w"
        walk_at "w"
        walk_at "w"
        refine' gaF (by with_reducible assumption) ?hx ?hcl ?hv ?hh ?_
        case hx => exact h02.sub ((Sub.refl _).new hτ)
        case hcl => kernel_rfl
        case hv => with_unfolding_all rfl
        case hh => rfl
        refine' gaF (by with_reducible assumption) ?hx ?hcl ?hv ?hh ?_
        case hx =>
          refine InstF.sub (by with_reducible assumption) ?_
          first | with_reducible assumption | skip
          first | with_reducible exact Sub.refl _ | skip
          walk_at "sub"
        case hcl => kernel_rfl
        case hv => with_unfolding_all rfl
        case hh => rfl
        walk_at "w"
        walk_at "w"
        walk_at "w"
        walk_at "w"
        walk_at "w"
        refine sa_gy C' ⟨upd_ne (ne_of_none hτ hqa2.1) hqa2.1, upd_ne (ne_of_none hτ hqa2.2) hqa2.2⟩ { q2.v with lp := 0 + (j : Int) * 1, tlp := tv } rfl (by kernel_rfl) ?_
        walk_at "go"
        obtain ⟨n1, n2⟩ := set_it (J := AO.rangeIter (0 + ((j + 1 : Nat) : Int) * 1) ((vs.length : Int) - ((j + 1 : Nat) : Int)) 1) (A := .attrs ({ q2.v with lp := 0 + (j : Int) * 1, tlp := tv } : IV).fs) hτ hqa2.2
        exact ⟨_, ⟨.inr ⟨_, rfl⟩, _, B2.setv hq2 { q2.v with lp := 0 + (j : Int) * 1, tlp := tv }, (kk_set (v' := { q2.v with lp := 0 + (j : Int) * 1, tlp := tv }) hq2 rfl rfl).trans hkk⟩, n1, n2⟩
      · obtain ⟨hm, cs2, B2, hkk⟩ := hK
        have B2' := B2.less ((Sub.refl ρ).upd (B'.sub.none_of hr))
        have e3'' := B2'.sub _ _ e3
        have hfin : ∀ t', Φ (.int ((i : Int) + vs.length) t') m τ := fun t' => by
          rw [el]
          exact h.2 _ e1 _ _ t' B2' ((gm_of_kk hkk).trans hgm)
        rcases hm with rfl | ⟨v, rfl⟩
        all_goals
          walk_at "go"
          exact ⟨_, Sub.refl _, hfin _⟩
end
end
section
section
variable {c : Cf} {k : Nat} {m : Fields} {σ ρ : Gh} {Φ : Value → Fields → Gh → Prop}
variable {sc b rl ga la tl ta : Addr} {mk fl : Int} {kind : Str} {cs : List Gy} {i : Nat} {q : Gy} {mp : Int → Option (List Int)} {bh : Int}
def TabOk (ρ : Gh) (kind : Str) (ta : Addr) (mp : Int → Option (List Int)) (bh : Int) : Prop :=
  (kind = "single" ∧ SingleOk ρ ta mp) ∨ (kind = "multiple" ∧ MultOk ρ ta mp) ∨ (kind = "alternate" ∧ AltOk ρ ta mp) ∨ (kind = "ligature" ∧ LigOk ρ ta mp) ∨ (kind = "reverse" ∧ RevOk ρ ta mp bh)
theorem TabOk.sub {ρ' : Gh} (h : TabOk ρ kind ta mp bh) (hs : Sub ρ ρ') : TabOk ρ' kind ta mp bh := by
  rcases h with ⟨e, da, kvs, h1, h2, h3⟩ | ⟨e, da, kvs, h1, h2, h3⟩ | ⟨e, da, kvs, h1, h2, h3⟩ | ⟨e, da, kvs, h1, h2, h3⟩ | ⟨e, da, kvs, ba, aa, ws, h1, h2, h3, h4, h5, h6⟩
  · exact .inl ⟨e, da, kvs, h1.sub hs, hs _ _ h2, h3⟩
  · refine .inr (.inl ⟨e, da, kvs, h1.sub hs, hs _ _ h2, fun g => ?_⟩)
    rcases h3 g with h | ⟨a, vs, ps, g1, g2, g3, g4⟩
    · exact .inl h
    · exact .inr ⟨a, vs, ps, g1, g2, hs _ _ g3, g4⟩
  · refine .inr (.inr (.inl ⟨e, da, kvs, h1.sub hs, hs _ _ h2, fun g => ?_⟩))
    rcases h3 g with h | ⟨a, vs, ps, g1, g2, g3, g4⟩
    · exact .inl h
    · exact .inr ⟨a, vs, ps, g1, g2, hs _ _ g3, g4⟩
  · refine .inr (.inr (.inr (.inl ⟨e, da, kvs, h1.sub hs, hs _ _ h2, fun g => ?_⟩)))
    rcases h3 g with h | ⟨l, tp, e, z, t, g1, g2, g3, g4, g5⟩
    · exact .inl h
    · exact .inr ⟨l, tp, e, z, t, g1, g2, g3.sub hs, hs _ _ g4, hs _ _ g5⟩
  · refine .inr (.inr (.inr (.inr ⟨e, da, kvs, ba, aa, ws, h1.sub hs, hs _ _ h2, h3, hs _ _ h4, hs _ _ h5, ?_⟩)))
    rcases h6 with h | ⟨h, cv, h', h''⟩
    · exact .inl h
    · exact .inr ⟨h, cv, h', h''.sub hs⟩
def tabRes (kind : Str) (fl mk : Int) (mp : Int → Option (List Int)) (bh : Int) (gs : List Int) (i : Nat) (g ms : Int) : Option (List Int) :=
  if kind = "reverse" then revRes mp fl bh gs i g else if kind = "alternate" then altRes mp g (chz mk (Builtin.bitAnd ms mk)) else mp g
theorem sp_apply_table {t tk : Tok} (C : Cx c (k + 9)) (W : SW ρ sc b ga la mk kind fl tl) (B : Wd ρ σ b rl cs) (hi : cs[i]? = some q) (hm : MkOk mk) (hms : 0 ≤ Builtin.bitAnd q.v.ms mk ∧ Builtin.bitAnd q.v.ms mk < 100) (hroom : cs.length < 990) (T : TabOk ρ kind ta mp bh)
    (h : AppRes ρ b rl cs i q.v.ms (tabRes kind fl mk mp bh (gys cs) i q.v.g q.v.ms) (kind == "reverse") (fun v σ' => Φ v m σ')) :
    WP c (call (.ref 620) [.ref sc, .str kind tk, .ref ta, .int i t]) Φ m σ := by
  refine wp_call ?_
  refine' enter [(Str.ofString "scene", .ref sc), (Str.ofString "kind", .str kind tk), (Str.ofString "table", .ref ta), (Str.ofString "at", .int i t)] C ?ho ?hcd ?hb ?hloc ?_ ?hco ?hgen ?hk ?hcell
  walk_at "enter"
  case hb => exact fun s X => BindsTo.of_eq rfl
  intro A' h₀' L' C' E'
  rcases T with ⟨rfl, T⟩ | ⟨rfl, T⟩ | ⟨rfl, T⟩ | ⟨rfl, T⟩ | ⟨rfl, T⟩
  · walk_at "go"
    exact sp_apply_single C' W B hi T h
  · walk_at "go"
    exact sp_apply_multiple C' W B hi hroom T h
  · walk_at "go"
    exact sp_apply_alternate C' W B hi hm hms T h
  · walk_at "go"
    exact sp_apply_ligature C' W B hi T h
  · walk_at "go"
    exact sp_apply_reverse C' W B hi T h
end
end
section
section
variable {c : Cf} {k : Nat} {m : Fields} {σ ρ : Gh} {Φ : Value → Fields → Gh → Prop}
variable {sc b rl ga la tl ta : Addr} {mk fl : Int} {kind : Str} {cs : List Gy} {i : Nat} {q : Gy}
abbrev Tab := (Int → Option (List Int)) × Int
def subRes (kind : Str) (fl mk : Int) (gs : List Int) (i : Nat) (g ms : Int) : List Tab → Option (List Int)
  | [] => none
  | t :: r => match tabRes kind fl mk t.1 t.2 gs i g ms with
    | some ps => some ps
    | none => subRes kind fl mk gs i g ms r
/-- the lookup's tables -/
def TabsOk (ρ : Gh) (kind : Str) (tl : Addr) (tabs : List Tab) : Prop := ∃ tvs, LstAt ρ tl tvs ∧ tvs.length = tabs.length ∧ ∀ (j : Nat) v, tvs[j]? = some v → ∃ ta t, v = .ref ta ∧ tabs[j]? = some t ∧ TabOk ρ kind ta t.1 t.2
theorem TabsOk.sub {ρ' : Gh} {tabs : List Tab} (h : TabsOk ρ kind tl tabs) (hs : Sub ρ ρ') : TabsOk ρ' kind tl tabs := by
  obtain ⟨tvs, h1, h2, h3⟩ := h
  refine ⟨tvs, h1.sub hs, h2, fun j v hv => ?_⟩
  obtain ⟨ta, t, e1, e2, e3⟩ := h3 j v hv
  exact ⟨ta, t, e1, e2, e3.sub hs⟩
theorem gys_of_gm {cs' : List Gy} (h : cs'.map gm = cs.map gm) : gys cs' = gys cs := by
  have := congrArg (List.map Prod.fst) h
  rw [List.map_map, List.map_map] at this
  exact this
theorem sp_substitute_at {t : Tok} {tabs : List Tab} (C : Cx c (k + 10)) (W : SW ρ sc b ga la mk kind fl tl) (B : Wd ρ σ b rl cs) (hi : cs[i]? = some q) (hm : MkOk mk) (hms : 0 ≤ Builtin.bitAnd q.v.ms mk ∧ Builtin.bitAnd q.v.ms mk < 100) (hroom : cs.length < 990) (T : TabsOk ρ kind tl tabs)
    (h : AppRes ρ b rl cs i q.v.ms (subRes kind fl mk (gys cs) i q.v.g q.v.ms tabs) (kind == "reverse") (fun v σ' => Φ v m σ')) :
    WP c (call (.ref 627) [.ref sc, .int i t]) Φ m σ := by
  obtain ⟨tvs, ht1, ht2, ht3⟩ := T
  obtain ⟨lks, tm, td, h0ρ⟩ := W.sc
  have h0 := h0ρ.sub B.sub
  obtain ⟨tk, tf, ts, h1ρ⟩ := W.lk
  have h1 := h1ρ.sub B.sub
  refine wp_call (WC.forget ?_)
  refine' enter [(Str.ofString "scene", .ref sc), (Str.ofString "at", .int i t)] C ?ho ?hcd ?hb ?hloc ?_ ?hco ?hgen ?hk ?hcell
  walk_at "enter"
  case hb => exact fun s X => BindsTo.of_eq rfl
  intro A' h₀' L' C' E'
  walk_at "go"
  refine ⟨_, _, _, fun j m' τ => (m' = ([("at", .int i t), ("scene", .ref sc)] : Fields) ∨ ∃ v w, m' = ([("at", .int i t), ("scene", .ref sc), ("table", v), ("found", w)] : Fields)) ∧
    ∃ cs', Wd ρ τ b rl cs' ∧ cs'.map gm = cs.map gm ∧ subRes kind fl mk (gys cs) i q.v.g q.v.ms tabs = subRes kind fl mk (gys cs) i q.v.g q.v.ms (tabs.drop j), ⟨.inl rfl, cs, B, rfl, rfl⟩, fun j m' τ hK => (Src.list ht1).sub hK.2.choose_spec.1.sub, fun it hit j v m' τ hj hjv hK hτ => ?_, fun m' τ hK => ?_⟩
  · obtain ⟨hm', cs', B', hgm, hres⟩ := hK
    obtain ⟨ta, tb, rfl, htb, hT⟩ := ht3 j v hjv
    obtain ⟨q', hq', eg, em⟩ := gms_get hgm hi
    have hl' := gms_len hgm
    have hρ := B'.sub.none_of hτ
    have hsr : Sub ρ (upd ρ it (AO.listIter tl (j + 1))) := (Sub.refl ρ).upd hρ
    have B2 := B'.new (A := AO.listIter tl (j + 1)) hτ
    have h02 := h0ρ.sub (hsr.trans B2.sub)
    have h12 := h1ρ.sub (hsr.trans B2.sub)
    have hstep : subRes kind fl mk (gys cs) i q.v.g q.v.ms (tabs.drop j) = match tabRes kind fl mk tb.1 tb.2 (gys cs) i q.v.g q.v.ms with
        | some ps => some ps
        | none => subRes kind fl mk (gys cs) i q.v.g q.v.ms (tabs.drop (j + 1)) := by
      obtain ⟨hlt, e⟩ := List.getElem?_eq_some_iff.mp htb
      rw [List.drop_eq_getElem_cons hlt, e]; rfl
    have hcall : ∀ {m2 : Fields} {tkk : Tok} {Ψ : Value → Fields → Gh → Prop},
       (tabRes kind fl mk tb.1 tb.2 (gys cs) i q.v.g q.v.ms = none → ∀ (σ' : Gh) cs2 t2, Wd (upd ρ it (AO.listIter tl (j + 1))) σ' b rl cs2 → cs2.map gm = cs.map gm → Ψ (.int (-1) t2) m2 σ') →
       (∀ ps, tabRes kind fl mk tb.1 tb.2 (gys cs) i q.v.g q.v.ms = some ps → ∀ (σ' : Gh) cs2 t2, Wd (upd ρ it (AO.listIter tl (j + 1))) σ' b rl cs2 → cs2.map gm = splice (cs.map gm) i ps q.v.ms → Ψ (.int (if kind == "reverse" then i else i + ps.length) t2) m2 σ') →
       WP ⟨c.w, A', h₀', L'⟩ (call (.ref 620) [.ref sc, .str kind tkk, .ref ta, .int i t]) Ψ m2 (upd τ it (AO.listIter tl (j + 1))) := by
      intro m2 tkk Ψ k1 k2
      refine sp_apply_table C' (W.sub hsr) B2 hq' hm (by rw [em]; exact hms) (by omega) (hT.sub hsr) ⟨fun e => ?_, fun ps e => ?_⟩
      · rw [gys_of_gm hgm, eg, em] at e
        exact fun σ' cs2 t2 W2 g2 => k1 e σ' cs2 t2 W2 (g2.trans hgm)
      · rw [gys_of_gm hgm, eg, em] at e
        exact fun σ' cs2 t2 W2 g2 => k2 ps e σ' cs2 t2 W2 (by rw [g2, hgm, em])
    cases hres2 : tabRes kind fl mk tb.1 tb.2 (gys cs) i q.v.g q.v.ms with
    | none =>
      rw [hres2] at hstep
      rcases hm' with rfl | ⟨v0, w0, rfl⟩
      all_goals
        walk_at "go"
        refine hcall (fun e σ' cs2 t2 W2 g2 => ?_) (fun ps e => by rw [hres2] at e; cases e)
        walk_at "go"
        exact ⟨without σ' it, ⟨.inr ⟨_, _, rfl⟩, cs2, W2.without (.inl ⟨_, _, rfl⟩) hρ, g2, hres.trans hstep⟩, without_self, without_sub (W2.sub _ _ (upd_same _ _ _))⟩
    | some ps =>
      rw [hres2] at hstep
      rcases hm' with rfl | ⟨v0, w0, rfl⟩
      all_goals
        walk_at "go"
        refine hcall (fun e => by rw [hres2] at e; cases e) (fun ps2 e σ' cs2 t2 W2 g2 => ?_)
        have e2 : ps = ps2 := by rw [hres2] at e; exact Option.some.inj e
        subst e2
        have hge : (0 : Int) ≤ (if kind == "reverse" then (i : Int) else i + ps.length) := by split <;> omega
        walk_at "go"
        exact ⟨_, Sub.refl _, h.2 _ (hres.trans hstep) _ _ _ (W2.less hsr) g2⟩
  · obtain ⟨hm', cs', B', hgm, hres⟩ := hK
    rw [ht2, List.drop_length] at hres
    rcases hm' with rfl | ⟨v0, w0, rfl⟩
    all_goals
      walk_at "go"
      exact ⟨_, Sub.refl _, h.1 hres _ _ _ B' hgm⟩
end
end
section
section
variable {c : Cf} {k : Nat} {m : Fields} {σ ρ : Gh} {Φ : Value → Fields → Gh → Prop}
variable {sc b rl ga la tl ta : Addr} {mk fl : Int} {kind : Str} {cs : List Gy} {i : Nat} {q : Gy}
def tk1 (mk fl : Int) (p : Int × Int) : Bool := decide (Builtin.bitAnd p.2 mk ≠ 0) && !(ign p.1 fl)
/-- what stands for one glyph in the forward run -/
def one (kind : Str) (fl mk : Int) (tabs : List Tab) (p : Int × Int) : Option (List Int) := if tk1 mk fl p then subRes kind fl mk [] 0 p.1 p.2 tabs else none
def outF (kind : Str) (fl mk : Int) (tabs : List Tab) : List (Int × Int) → List (Int × Int)
  | [] => []
  | p :: r => (match one kind fl mk tabs p with
    | none => [p]
    | some ps => ps.map fun g => (g, p.2)) ++ outF kind fl mk tabs r
def cntF (kind : Str) (fl mk : Int) (tabs : List Tab) : List (Int × Int) → Int
  | [] => 0
  | p :: r => (match one kind fl mk tabs p with
    | none => 0
    | some _ => 1) + cntF kind fl mk tabs r
theorem outF_append (l r : List (Int × Int)) (tabs : List Tab) : outF kind fl mk tabs (l ++ r) = outF kind fl mk tabs l ++ outF kind fl mk tabs r := by
  induction l with
  | nil => rfl
  | cons p l ih => simp [outF, ih]
theorem cntF_append (l r : List (Int × Int)) (tabs : List Tab) : cntF kind fl mk tabs (l ++ r) = cntF kind fl mk tabs l + cntF kind fl mk tabs r := by
  induction l with
  | nil => simp [cntF]
  | cons p l ih => simp [cntF, ih]; omega
theorem tabRes_fwd (hk : kind ≠ "reverse") (mp : Int → Option (List Int)) (bh : Int) (gs : List Int) (i : Nat) (g ms : Int) : tabRes kind fl mk mp bh gs i g ms = tabRes kind fl mk mp bh [] 0 g ms := by
  unfold tabRes; rw [if_neg hk, if_neg hk]
theorem subRes_fwd (hk : kind ≠ "reverse") (gs : List Int) (i : Nat) (g ms : Int) (tabs : List Tab) : subRes kind fl mk gs i g ms tabs = subRes kind fl mk [] 0 g ms tabs := by
  induction tabs with
  | nil => rfl
  | cons t r ih => unfold subRes; rw [tabRes_fwd hk, ih]
def TabsLe (tabs : List Tab) : Prop := ∀ t ∈ tabs, ∀ g ps, t.1 g = some ps → ps.length ≤ 3
theorem subRes_le {tabs : List Tab} (h : TabsLe tabs) {gs : List Int} {i : Nat} {g ms : Int} {ps : List Int} (e : subRes kind fl mk gs i g ms tabs = some ps) : ps.length ≤ 3 := by
  induction tabs with
  | nil => cases e
  | cons t r ih =>
    unfold subRes at e
    split at e
    · rename_i ps' e'
      cases e
      unfold tabRes at e'
      split at e'
      · unfold revRes at e'
        split at e'
        · cases e'
        · rename_i ps2 e2
          split at e'
          · cases e'; exact h t (.head _) _ _ e2
          · cases e'
      · split at e'
        · unfold altRes at e'
          split at e'
          · cases e'
          · split at e'
            · cases e'; simp
            · cases e'
        · exact h t (.head _) _ _ e'
    · exact ih (fun t' ht => h t' (.tail _ ht)) e
theorem outF_len {tabs : List Tab} (h : TabsLe tabs) : ∀ l : List (Int × Int), (outF kind fl mk tabs l).length ≤ 3 * l.length
  | [] => by simp [outF]
  | p :: r => by
    have ih := outF_len h r
    have h1 : (match one kind fl mk tabs p with
      | none => [p]
      | some ps => ps.map fun g => (g, p.2)).length ≤ 3 := by
      split
      · simp
      · rename_i ps e
        rw [List.length_map]
        unfold one at e
        split at e
        · exact subRes_le h e
        · cases e
    unfold outF
    rw [List.length_append, List.length_cons]
    omega
theorem sp_run_forward {tabs : List Tab} (C : Cx c (k + 11)) (W : SW ρ sc b ga la mk kind fl tl) (B : Wd ρ σ b rl cs) (hk : kind ≠ "reverse") (hm : MkOk mk) (hms : ∀ p ∈ cs.map gm, 0 ≤ Builtin.bitAnd p.2 mk ∧ Builtin.bitAnd p.2 mk < 100) (hroom : cs.length * 3 < 980) (T : TabsOk ρ kind tl tabs) (hle : TabsLe tabs)
    (h : ∀ σ' cs' t, Wd ρ σ' b rl cs' → cs'.map gm = outF kind fl mk tabs (cs.map gm) → Φ (.int (cntF kind fl mk tabs (cs.map gm)) t) m σ') :
    WP c (call (.ref 634) [.ref sc]) Φ m σ := by
  obtain ⟨lks, tm, td, h0ρ⟩ := W.sc
  have hkb : (kind == "reverse") = false := by simpa using hk
  refine wp_call ?_
  refine' enter [(Str.ofString "scene", .ref sc)] C ?ho ?hcd ?hb ?hloc ?_ ?hco ?hgen ?hk ?hcell
  walk_at "enter"
  case hb => exact fun s X => BindsTo.of_eq rfl
  intro A' h₀' L' C' E'
  walk_at "go"
  rename_i tc0 ta0
  refine we_while (wwh_ind (fun n m' τ => ∃ (j : Nat) (tc ta : Tok) (cs' : List Gy), n + j = cs.length ∧
    (m' = ([("scene", .ref sc), ("count", .int (cntF kind fl mk tabs ((cs.map gm).take j)) tc), ("at", .int ((outF kind fl mk tabs ((cs.map gm).take j)).length : Nat) ta)] : Fields) ∨ ∃ v, m' = ([("scene", .ref sc), ("count", .int (cntF kind fl mk tabs ((cs.map gm).take j)) tc), ("at", .int ((outF kind fl mk tabs ((cs.map gm).take j)).length : Nat) ta), ("found", v)] : Fields)) ∧
    Wd ρ τ b rl cs' ∧ cs'.map gm = outF kind fl mk tabs ((cs.map gm).take j) ++ (cs.map gm).drop j) ?_ cs.length ⟨0, tc0, ta0, cs, by omega, .inl rfl, B, by simp [outF]⟩)
  rintro n m' τ ⟨j, tc, ta, cs', hn, hm', B', hgm⟩
  generalize hi' : (outF kind fl mk tabs ((cs.map gm).take j)).length = i' at hm'
  have hbound : i' ≤ 3 * j := by
    rw [← hi']
    refine Nat.le_trans (outF_len hle _) ?_
    rw [List.length_take]; omega
  have hl' : cs'.length = i' + (cs.length - j) := by
    have := congrArg List.length hgm
    simp [hi'] at this
    omega
  have h0 := h0ρ.sub B'.sub
  obtain ⟨tb, hbuf⟩ := B'.buf.buf
  have hrow := B'.buf.row
  have hsz := B'.size
  by_cases hj : j < cs.length
  · obtain ⟨q, hq⟩ := gy_ex (cs := cs) hj
    have hp : (cs.map gm)[j]? = some (gm q) := by rw [List.getElem?_map, hq]; rfl
    obtain ⟨hjl, hjp⟩ := List.getElem?_eq_some_iff.mp hp
    have htake : (cs.map gm).take (j + 1) = (cs.map gm).take j ++ [gm q] := by rw [List.take_succ, hp]; rfl
    have hdrop : (cs.map gm).drop j = gm q :: (cs.map gm).drop (j + 1) := by rw [List.drop_eq_getElem_cons hjl, hjp]
    have hq2 : (cs'.map gm)[i']? = some (gm q) := by
      rw [hgm, List.getElem?_append_right (by omega), hi', Nat.sub_self, hdrop]; rfl
    obtain ⟨q', hq', e⟩ : ∃ q', cs'[i']? = some q' ∧ gm q' = gm q := by
      rw [List.getElem?_map] at hq2
      cases e : cs'[i']? with
      | none => rw [e] at hq2; cases hq2
      | some q' => rw [e] at hq2; exact ⟨q', rfl, Option.some.inj hq2⟩
    have eg : q'.v.g = q.v.g := congrArg Prod.fst e
    have em : q'.v.ms = q.v.ms := congrArg Prod.snd e
    have htk : tak q' mk fl = tk1 mk fl (gm q) := by unfold tak tk1; rw [eg, em]; rfl
    have hout : outF kind fl mk tabs ((cs.map gm).take (j + 1)) = outF kind fl mk tabs ((cs.map gm).take j) ++ (match one kind fl mk tabs (gm q) with
        | none => [gm q]
        | some ps => ps.map fun g => (g, (gm q).2)) := by rw [htake, outF_append]; simp [outF]
    have hcnt : cntF kind fl mk tabs ((cs.map gm).take (j + 1)) = cntF kind fl mk tabs ((cs.map gm).take j) + (match one kind fl mk tabs (gm q) with
        | none => 0
        | some _ => 1) := by rw [htake, cntF_append]; simp [cntF]
    have hskip : one kind fl mk tabs (gm q) = none → ∀ (cs2 : List Gy) (τ2 : Gh) (t2 : Tok) m2, Wd ρ τ2 b rl cs2 → cs2.map gm = cs'.map gm → (∃ v, m2 = ([("scene", .ref sc), ("count", .int (cntF kind fl mk tabs ((cs.map gm).take j)) tc), ("at", .int ((i' : Int) + 1) t2), ("found", v)] : Fields)) →
        ∃ n', n' < n ∧ ∃ (j : Nat) (tc ta : Tok) (cs' : List Gy), n' + j = cs.length ∧
    (m2 = ([("scene", .ref sc), ("count", .int (cntF kind fl mk tabs ((cs.map gm).take j)) tc), ("at", .int ((outF kind fl mk tabs ((cs.map gm).take j)).length : Nat) ta)] : Fields) ∨ ∃ v, m2 = ([("scene", .ref sc), ("count", .int (cntF kind fl mk tabs ((cs.map gm).take j)) tc), ("at", .int ((outF kind fl mk tabs ((cs.map gm).take j)).length : Nat) ta), ("found", v)] : Fields)) ∧
    Wd ρ τ2 b rl cs' ∧ cs'.map gm = outF kind fl mk tabs ((cs.map gm).take j) ++ (cs.map gm).drop j := by
      rintro e1 cs2 τ2 t2 m2 W2 g2 ⟨v, rfl⟩
      rw [e1] at hout hcnt
      refine ⟨n - 1, by omega, j + 1, tc, t2, cs2, by omega, .inr ⟨v, ?_⟩, W2, ?_⟩
      · rw [hout, hcnt]
        simp [hi']
      · rw [g2, hgm, hout, hdrop]; simp
    have hgo : ∀ ps, one kind fl mk tabs (gm q) = some ps → ∀ (cs2 : List Gy) (τ2 : Gh) (t2 tc2 : Tok) m2, Wd ρ τ2 b rl cs2 → cs2.map gm = splice (cs'.map gm) i' ps q'.v.ms →
        (∃ v, m2 = ([("scene", .ref sc), ("count", .int (cntF kind fl mk tabs ((cs.map gm).take j) + 1) tc2), ("at", .int ((i' : Int) + ps.length) t2), ("found", v)] : Fields)) →
        ∃ n', n' < n ∧ ∃ (j : Nat) (tc ta : Tok) (cs' : List Gy), n' + j = cs.length ∧
    (m2 = ([("scene", .ref sc), ("count", .int (cntF kind fl mk tabs ((cs.map gm).take j)) tc), ("at", .int ((outF kind fl mk tabs ((cs.map gm).take j)).length : Nat) ta)] : Fields) ∨ ∃ v, m2 = ([("scene", .ref sc), ("count", .int (cntF kind fl mk tabs ((cs.map gm).take j)) tc), ("at", .int ((outF kind fl mk tabs ((cs.map gm).take j)).length : Nat) ta), ("found", v)] : Fields)) ∧
    Wd ρ τ2 b rl cs' ∧ cs'.map gm = outF kind fl mk tabs ((cs.map gm).take j) ++ (cs.map gm).drop j := by
      rintro ps e1 cs2 τ2 t2 tc2 m2 W2 g2 ⟨v, rfl⟩
      rw [e1] at hout hcnt
      refine ⟨n - 1, by omega, j + 1, tc2, t2, cs2, by omega, .inr ⟨v, ?_⟩, W2, ?_⟩
      · rw [hout, hcnt]
        simp [hi']
      · rw [g2, hgm, hout, hdrop, em]
        unfold splice
        rw [← hi', List.take_left, ← List.singleton_append, ← List.append_assoc, List.drop_append_of_le_length (by simp), List.drop_of_length_le (by simp)]
        simp [gm]
    have htest : (i' : Int) < cs'.length := by omega
    have hsub := fun (hx : tk1 mk fl (gm q) = true) => (show one kind fl mk tabs (gm q) = subRes kind fl mk [] 0 q.v.g q.v.ms tabs by unfold one; rw [if_pos hx]; rfl)
    rcases hm' with rfl | ⟨v0, rfl⟩
    all_goals
      walk_at "go"
      refine sp_takes C' W B' hq' ?_
      rw [htk]
      cases hx : tk1 mk fl (gm q) with
      | false =>
        have e1 : one kind fl mk tabs (gm q) = none := by unfold one; rw [hx]; rfl
        walk_at "go"
        exact hskip e1 cs' _ _ _ B' rfl ⟨_, rfl⟩
      | true =>
        walk_at "go"
        refine sp_substitute_at C' W B' hq' hm (by rw [em]; exact hms _ (List.mem_of_getElem? hp)) (by omega) T ⟨fun e1 σ' cs2 t2 W2 g2 => ?_, fun ps e1 σ' cs2 t2 W2 g2 => ?_⟩
        · rw [subRes_fwd hk, eg, em, ← hsub hx] at e1
          walk_at "go"
          exact hskip e1 cs2 _ _ _ W2 g2 ⟨_, rfl⟩
        · rw [subRes_fwd hk, eg, em, ← hsub hx] at e1
          rw [hkb]
          simp only [Bool.false_eq_true, if_false]
          walk_at "go"
          exact hgo ps e1 cs2 _ _ _ _ W2 g2 ⟨_, rfl⟩
  · have hjn : j = cs.length := by omega
    have e1 : (cs.map gm).take j = cs.map gm := List.take_of_length_le (by simp; omega)
    have e2 : (cs.map gm).drop j = [] := List.drop_of_length_le (by simp; omega)
    rw [e1, e2, List.append_nil] at hgm
    rw [e1] at hm'
    have htest : ¬ ((i' : Int) < cs'.length) := by omega
    rcases hm' with rfl | ⟨v0, rfl⟩
    all_goals
      walk_at "go"
      exact h _ _ _ B' hgm
end
end
section
section
variable {c : Cf} {k : Nat} {m : Fields} {σ ρ : Gh} {Φ : Value → Fields → Gh → Prop}
variable {sc b rl ga la tl ta : Addr} {mk fl : Int} {kind : Str} {cs : List Gy} {i : Nat} {q : Gy}
def stepB (kind : Str) (fl mk : Int) (tabs : List Tab) (l : List (Int × Int)) (i : Nat) : List (Int × Int) × Int := match l[i]? with
  | none => (l, 0)
  | some p => match (if tk1 mk fl p then subRes kind fl mk (l.map Prod.fst) i p.1 p.2 tabs else none) with
    | none => (l, 0)
    | some ps => (splice l i ps p.2, 1)
def runB (kind : Str) (fl mk : Int) (tabs : List Tab) : Nat → List (Int × Int) → List (Int × Int) × Int
  | 0, l => (l, 0)
  | i + 1, l => ((runB kind fl mk tabs i (stepB kind fl mk tabs l i).1).1, (stepB kind fl mk tabs l i).2 + (runB kind fl mk tabs i (stepB kind fl mk tabs l i).1).2)
def TabsOne (tabs : List Tab) : Prop := ∀ t ∈ tabs, ∀ g ps, t.1 g = some ps → ps.length = 1
theorem subRes_one {tabs : List Tab} (h : TabsOne tabs) {gs : List Int} {i : Nat} {g ms : Int} {ps : List Int} (e : subRes kind fl mk gs i g ms tabs = some ps) : ps.length = 1 := by
  induction tabs with
  | nil => cases e
  | cons t r ih =>
    unfold subRes at e
    split at e
    · rename_i ps' e'
      cases e
      unfold tabRes at e'
      split at e'
      · unfold revRes at e'
        split at e'
        · cases e'
        · rename_i ps2 e2
          split at e'
          · cases e'; exact h t (.head _) _ _ e2
          · cases e'
      · split at e'
        · unfold altRes at e'
          split at e'
          · cases e'
          · split at e'
            · cases e'; simp
            · cases e'
        · exact h t (.head _) _ _ e'
    · exact ih (fun t' ht => h t' (.tail _ ht)) e
theorem sp_run_backward {tabs : List Tab} (C : Cx c (k + 11)) (W : SW ρ sc b ga la mk kind fl tl) (B : Wd ρ σ b rl cs) (hm : MkOk mk) (hms : ∀ p ∈ cs.map gm, 0 ≤ Builtin.bitAnd p.2 mk ∧ Builtin.bitAnd p.2 mk < 100) (hroom : cs.length < 980) (T : TabsOk ρ kind tl tabs) (hone : TabsOne tabs)
    (h : ∀ σ' cs' t, Wd ρ σ' b rl cs' → cs'.map gm = (runB kind fl mk tabs cs.length (cs.map gm)).1 → Φ (.int (runB kind fl mk tabs cs.length (cs.map gm)).2 t) m σ') :
    WP c (call (.ref 641) [.ref sc]) Φ m σ := by
  obtain ⟨lks, tm, td, h0ρ⟩ := W.sc
  have h0 := h0ρ.sub B.sub
  obtain ⟨tb, hbuf⟩ := B.buf.buf
  have hrow := B.buf.row
  refine wp_call (WC.forget ?_)
  refine' enter [(Str.ofString "scene", .ref sc)] C ?ho ?hcd ?hb ?hloc ?_ ?hco ?hgen ?hk ?hcell
  walk_at "enter"
  case hb => exact fun s X => BindsTo.of_eq rfl
  intro A' h₀' L' C' E'
  walk_at "go"
  rename_i r u1 u2 u3 hr
  rw [List.length_map] at *
  obtain ⟨s1, s2⟩ := rs_dn cs.length (by omega)
  have B0 := B.new (A := .raw (rangeO ((cs.length : Int) - 1) (-1) (-1) u1 u2 u3)) hr
  have hρr := B.sub.none_of hr
  have hs0 : Sub ρ (upd ρ r (.raw (rangeO ((cs.length : Int) - 1) (-1) (-1) u1 u2 u3))) := (Sub.refl ρ).upd hρr
  generalize hρ1 : upd ρ r (.raw (rangeO ((cs.length : Int) - 1) (-1) (-1) u1 u2 u3)) = ρ1 at B0 hs0
  have hrr : ρ1 r = some (.raw (rangeO ((cs.length : Int) - 1) (-1) (-1) u1 u2 u3)) := hρ1 ▸ upd_same _ _ _
  refine ⟨_, _, _, fun j m' τ => ∃ (cnt : Int) (tc : Tok) (cs' : List Gy), (m' = ([("scene", .ref sc), ("count", .int cnt tc)] : Fields) ∨ ∃ v, m' = ([("scene", .ref sc), ("count", .int cnt tc), ("at", v)] : Fields)) ∧
    Wd ρ1 τ b rl cs' ∧ cs'.length = cs.length ∧ (runB kind fl mk tabs (cs.length - j) (cs'.map gm)).1 = (runB kind fl mk tabs cs.length (cs.map gm)).1 ∧ cnt + (runB kind fl mk tabs (cs.length - j) (cs'.map gm)).2 = (runB kind fl mk tabs cs.length (cs.map gm)).2 ∧
    (∀ p ∈ cs'.map gm, 0 ≤ Builtin.bitAnd p.2 mk ∧ Builtin.bitAnd p.2 mk < 100),
    ⟨0, _, cs, .inl rfl, B0, rfl, by simp, by simp, hms⟩, fun j m' τ hK => Src.range (by obtain ⟨_, _, _, _, B', _⟩ := hK; exact B'.sub _ _ hrr) s1 s2, fun it hit j v m' τ hj hjv hK hτ => ?_, fun m' τ hK => ?_⟩
  · obtain ⟨cnt, tc, cs', hm', B', hl', hr1, hr2, hms'⟩ := hK
    obtain ⟨tv, rfl⟩ := hjv
    have ei : (cs.length : Int) - 1 + (j : Nat) * (-1) = ((cs.length - 1 - j : Nat) : Int) := by omega
    rw [ei]
    generalize hi' : cs.length - 1 - j = i' at *
    have hnj : cs.length - j = i' + 1 := by omega
    have hnj2 : cs.length - (j + 1) = i' := by omega
    rw [hnj] at hr1 hr2
    obtain ⟨q', hq'⟩ := gy_ex (cs := cs') (e := i') (by omega)
    have hp : (cs'.map gm)[i']? = some (gm q') := by rw [List.getElem?_map, hq']; rfl
    have hρ := B'.sub.none_of hτ
    generalize hJ : AO.rangeIter ((cs.length : Int) - 1 + ((j + 1 : Nat) : Int) * (-1)) ((cs.length : Int) - ((j + 1 : Nat) : Int)) (-1) = J at *
    have hJk : ItKind J := hJ ▸ .inr (.inr ⟨_, _, _, rfl⟩)
    have hsr : Sub ρ1 (upd ρ1 it J) := (Sub.refl ρ1).upd hρ
    have B2 := B'.new (A := J) hτ
    have hfst : (cs'.map gm).map Prod.fst = gys cs' := by rw [List.map_map]; rfl
    have hstep : stepB kind fl mk tabs (cs'.map gm) i' = match (if tk1 mk fl (gm q') then subRes kind fl mk (gys cs') i' q'.v.g q'.v.ms tabs else none) with
        | none => (cs'.map gm, 0)
        | some ps => (splice (cs'.map gm) i' ps q'.v.ms, 1) := by
      unfold stepB
      rw [hp, hfst]
      rfl
    have htk : tak q' mk fl = tk1 mk fl (gm q') := rfl
    have hend : ∀ cs2 (τ2 : Gh) cnt2 tc2 m2, Wd (upd ρ1 it J) τ2 b rl cs2 → stepB kind fl mk tabs (cs'.map gm) i' = (cs2.map gm, cnt2) → (m2 = ([("scene", .ref sc), ("count", .int (cnt + cnt2) tc2), ("at", .int i' tv)] : Fields)) → cs2.length = cs'.length → (∀ p ∈ cs2.map gm, 0 ≤ Builtin.bitAnd p.2 mk ∧ Builtin.bitAnd p.2 mk < 100) →
        ∃ τ', (∃ (cnt : Int) (tc : Tok) (cs' : List Gy), (m2 = ([("scene", .ref sc), ("count", .int cnt tc)] : Fields) ∨ ∃ v, m2 = ([("scene", .ref sc), ("count", .int cnt tc), ("at", v)] : Fields)) ∧
    Wd ρ1 τ' b rl cs' ∧ cs'.length = cs.length ∧ (runB kind fl mk tabs (cs.length - (j + 1)) (cs'.map gm)).1 = (runB kind fl mk tabs cs.length (cs.map gm)).1 ∧ cnt + (runB kind fl mk tabs (cs.length - (j + 1)) (cs'.map gm)).2 = (runB kind fl mk tabs cs.length (cs.map gm)).2 ∧
    (∀ p ∈ cs'.map gm, 0 ≤ Builtin.bitAnd p.2 mk ∧ Builtin.bitAnd p.2 mk < 100)) ∧ τ' it = none ∧ Sub (upd τ' it J) τ2 := by
      intro cs2 τ2 cnt2 tc2 m2 W2 e1 hm2 hl2 hms2
      refine ⟨without τ2 it, ⟨cnt + cnt2, tc2, cs2, .inr ⟨_, hm2⟩, W2.without hJk hρ, hl2.trans hl', ?_, ?_, hms2⟩, without_self, without_sub (W2.sub _ _ (upd_same _ _ _))⟩
      · rw [hnj2, ← hr1]; show _ = (runB kind fl mk tabs i' (stepB kind fl mk tabs (cs'.map gm) i').1).1; rw [e1]
      · rw [hnj2, ← hr2]; show _ = cnt + ((stepB kind fl mk tabs (cs'.map gm) i').2 + (runB kind fl mk tabs i' (stepB kind fl mk tabs (cs'.map gm) i').1).2); rw [e1]; dsimp only; omega
    rcases hm' with rfl | ⟨v0, rfl⟩
    all_goals
      walk_at "go"
      refine sp_takes C' (W.sub (hs0.trans hsr)) B2 hq' ?_
      rw [htk]
      cases hx : tk1 mk fl (gm q') with
      | false =>
        rw [hx] at hstep
        walk_at "go"
        exact hend cs' _ 0 tc _ B2 hstep (by rw [Int.add_zero]; rfl) rfl hms'
      | true =>
        rw [hx] at hstep
        walk_at "go"
        refine sp_substitute_at C' (W.sub (hs0.trans hsr)) B2 hq' hm (hms' _ (List.mem_of_getElem? hp)) (by omega) (T.sub (hs0.trans hsr)) ⟨fun e1 σ' cs2 t2 W2 g2 => ?_, fun ps e1 σ' cs2 t2 W2 g2 => ?_⟩
        · rw [e1] at hstep
          walk_at "go"
          exact hend cs2 _ 0 tc _ W2 (by rw [g2]; exact hstep) (by rw [Int.add_zero]; rfl) (gms_len g2) (by rw [g2]; exact hms')
        · rw [e1] at hstep
          have hge : (0 : Int) ≤ (if kind == "reverse" then (i' : Int) else i' + ps.length) := by split <;> omega
          have hlen1 := subRes_one hone e1
          have hi2 : i' < cs'.length := by omega
          walk_at "go"
          refine hend cs2 _ 1 _ _ W2 (by rw [g2]; exact hstep) rfl ?_ ?_
          · have := congrArg List.length g2
            simp [splice, hlen1] at this
            omega
          · rw [g2]
            intro p hp'
            unfold splice at hp'
            rcases List.mem_append.mp hp' with hp' | hp'
            · rcases List.mem_append.mp hp' with hp' | hp'
              · exact hms' p (List.mem_of_mem_take hp')
              · obtain ⟨g, _, rfl⟩ := List.mem_map.mp hp'
                exact hms' (gm q') (List.mem_of_getElem? hp)
            · exact hms' p (List.mem_of_mem_drop hp')
  · obtain ⟨cnt, tc, cs', hm', B', hl', hr1, hr2, hms'⟩ := hK
    rw [Nat.sub_self] at hr1 hr2
    have hr2' : cnt = (runB kind fl mk tabs cs.length (cs.map gm)).2 := by simpa [runB] using hr2
    rcases hm' with rfl | ⟨v0, rfl⟩
    all_goals
      walk_at "go"
      rw [hr2']
      exact ⟨_, Sub.refl _, h _ _ _ (B'.less hs0) hr1⟩
end
end
section
section
variable {c : Cf} {k : Nat} {m : Fields} {σ ρ : Gh} {Φ : Value → Fields → Gh → Prop}
variable {sc b rl ga la tl ta ll : Addr} {mk fl : Int} {kind : Str} {cs : List Gy} {i : Nat} {q : Gy}
theorem sp_scene_init {x d : Addr} {lks : Value} {t : Tok} (C : Cx c (k + 1)) (hxd : x ≠ d) (h : ∀ td, Φ .none m (upd (upd σ d (.attrs [("buffer", .ref b), ("gdef", .ref ga), ("lookups", lks), ("lookup", .ref la), ("mask", .int mk t), ("depth", .int 0 td)])) x (.inst 65 d))) :
    WC c (.ref 62) [.ref x, .ref b, .ref ga, lks, .ref la, .int mk t] Φ m (upd (upd σ d (.attrs [])) x (.inst 65 d)) := by
  refine' enter [(Str.ofString "self", .ref x), (Str.ofString "buffer", .ref b), (Str.ofString "gdef", .ref ga), (Str.ofString "lookups", lks), (Str.ofString "lookup", .ref la), (Str.ofString "mask", .int mk t), (Str.ofString "depth", .int 0 257)] C ?ho ?hcd ?hb ?hloc ?_ ?hco ?hgen ?hk ?hcell
  walk_at "enter"
  case hb => exact fun s X => binds_K X rfl (by k_is) rfl rfl rfl
  intro A' h₀' L' C' E'
  walk_at "go"
  exact h _
theorem sp_scene_new {lks : Value} {t : Tok} (C : Cx c (k + 2)) (h : ∀ x d td, σ x = none → σ d = none → x ≠ d → Φ (.ref x) m (upd (upd σ d (.attrs [("buffer", .ref b), ("gdef", .ref ga), ("lookups", lks), ("lookup", .ref la), ("mask", .int mk t), ("depth", .int 0 td)])) x (.inst 65 d))) :
    WC c (.ref 65) [.ref b, .ref ga, lks, .ref la, .int mk t] Φ m σ := by
  refine' wp_new C ?q1 ?q2 ?q3 ?_
  case q1 => k_is
  case q2 => k_is
  case q3 => k_is
  intro x d A' C' hx hd hxd
  exact sp_scene_init C' hxd fun td => ⟨rfl, h x d td hx hd hxd⟩
structure LW (ρ : Gh) (ga la : Addr) (kind : Str) (fl : Int) (tl : Addr) : Prop where
  gd : GdefOk ρ ga
  lk : ∃ tk tf tm, InstF ρ la 43 [("kind", .str kind tk), ("flag", .int fl tf), ("mark_set", .int 0 tm), ("tables", .ref tl)]
  hf : fl = 0 ∨ fl = 2 ∨ fl = 8
theorem LW.sub {ρ' : Gh} (h : LW ρ ga la kind fl tl) (hs : Sub ρ ρ') : LW ρ' ga la kind fl tl := ⟨h.gd.sub hs, let ⟨a, b, d, e⟩ := h.lk; ⟨a, b, d, e.sub hs⟩, h.hf⟩
def resRun (kind : Str) (fl mk : Int) (tabs : List Tab) (l : List (Int × Int)) : List (Int × Int) × Int := if kind = "reverse" then runB kind fl mk tabs l.length l else (outF kind fl mk tabs l, cntF kind fl mk tabs l)
theorem sp_run_substitution {lvs : List Value} {n : Nat} {t1 t2 : Tok} {tabs : List Tab} (C : Cx c (k + 12)) (W : LW ρ ga la kind fl tl) (B : Wd ρ σ b rl cs) (hll : LstAt ρ ll lvs) (hn : lvs[n]? = some (.ref la)) (hl64 : lvs.length < 100) (hm : MkOk mk) (hms : ∀ p ∈ cs.map gm, 0 ≤ Builtin.bitAnd p.2 mk ∧ Builtin.bitAnd p.2 mk < 100) (hroom : cs.length * 3 < 980)
    (T : TabsOk ρ kind tl tabs) (hle : TabsLe tabs) (hone : kind = "reverse" → TabsOne tabs)
    (h : ∀ σ' cs' t, Wd ρ σ' b rl cs' → cs'.map gm = (resRun kind fl mk tabs (cs.map gm)).1 → Φ (.int (resRun kind fl mk tabs (cs.map gm)).2 t) m σ') :
    WP c (call (.ref 648) [.ref b, .ref ga, .ref ll, .int n t1, .int mk t2]) Φ m σ := by
  have hnl : n < lvs.length := (List.getElem?_eq_some_iff.mp hn).1
  have hll' := hll.sub B.sub
  have hx : lvs[((n : Nat) : Int).toNat]? = some (.ref la) := by rw [Int.toNat_natCast]; exact hn
  refine wp_call ?_
  refine' enter [(Str.ofString "buffer", .ref b), (Str.ofString "gdef", .ref ga), (Str.ofString "lookups", .ref ll), (Str.ofString "number", .int n t1), (Str.ofString "mask", .int mk t2)] C ?ho ?hcd ?hb ?hloc ?_ ?hco ?hgen ?hk ?hcell
  walk_at "enter"
  case hb => exact fun s X => BindsTo.of_eq rfl
  intro A' h₀' L' C' E'
  walk_at "go"
  refine wp_call (sp_scene_new C' fun x d td hx hd hxd => ?_)
  generalize hA : AO.attrs [("buffer", .ref b), ("gdef", .ref ga), ("lookups", .ref ll), ("lookup", .ref la), ("mask", .int mk t2), ("depth", .int 0 td)] = A
  have B1 := B.new (A := A) hd
  have hx1 : (upd σ d A) x = none := upd_none hx hxd
  have B2 := B1.new (A := .inst 65 d) hx1
  have hs1 : Sub ρ (upd (upd ρ d A) x (.inst 65 d)) := ((Sub.refl ρ).upd (B.sub.none_of hd)).trans ((Sub.refl _).upd (B1.sub.none_of hx1))
  have hS : ScOk (upd (upd ρ d A) x (.inst 65 d)) x b ga la mk := ⟨_, _, _, d, upd_same _ _ _, by rw [hA]; exact upd_ne hxd.symm (upd_same _ _ _)⟩
  have W2 : SW (upd (upd ρ d A) x (.inst 65 d)) x b ga la mk kind fl tl := ⟨hS, W.gd.sub hs1, (W.sub hs1).lk, W.hf⟩
  obtain ⟨tk, tf, tm, hlk⟩ := (W.sub hs1).lk
  obtain ⟨lks, tm0, td0, hS'⟩ := hS
  have hS' := hS'.sub B2.sub
  have hlk := hlk.sub B2.sub
  generalize upd (upd σ d A) x (.inst 65 d) = σ2 at B2 hS' hlk ⊢
  by_cases hk : kind = "reverse"
  · subst hk
    walk_at "go"
    refine sp_run_backward C' W2 B2 hm hms (by omega) (T.sub hs1) (hone rfl) fun σ' cs' t B' hg => ?_
    have := h σ' cs' t (B'.less hs1)
    unfold resRun at this
    rw [if_pos rfl, List.length_map] at this
    exact this hg
  · have hkb : (kind == ("reverse" : Str)) = false := by simpa using hk
    walk_at "go"
    · exact absurd ‹kind = "reverse"› hk
    refine sp_run_forward C' W2 B2 hk hm hms hroom (T.sub hs1) hle fun σ' cs' t B' hg => ?_
    have := h σ' cs' t (B'.less hs1)
    unfold resRun at this
    rw [if_neg hk] at this
    exact this hg
end
end
section
section
variable {c : Cf} {k : Nat} {m : Fields} {σ ρ : Gh} {Φ : Value → Fields → Gh → Prop}
variable {sc b rl ga la tl ta ll : Addr} {mk fl : Int} {kind : Str} {cs : List Gy} {i : Nat} {q : Gy}
/-- a lookup, as the law sees it -/
structure Lk where
  kind : Str
  fl : Int
  tabs : List Tab
structure Lk.Fine (d : Lk) : Prop where
  le : TabsLe d.tabs
  one : d.kind = "reverse" → TabsOne d.tabs
def LksOk (ρ : Gh) (ga ll : Addr) (lds : List Lk) : Prop := ∃ lvs, LstAt ρ ll lvs ∧ lvs.length = lds.length ∧ lds.length < 100 ∧ ∀ (j : Nat) (d : Lk), lds[j]? = some d → d.Fine ∧ ∃ la tl, lvs[j]? = some (.ref la) ∧ LW ρ ga la d.kind d.fl tl ∧ TabsOk ρ d.kind tl d.tabs
theorem LksOk.sub {ρ' : Gh} {lds : List Lk} (h : LksOk ρ ga ll lds) (hs : Sub ρ ρ') : LksOk ρ' ga ll lds := by
  obtain ⟨lvs, h1, h2, h3, h4⟩ := h
  refine ⟨lvs, h1.sub hs, h2, h3, fun j d e => ?_⟩
  obtain ⟨f, la, tl, e1, e2, e3⟩ := h4 j d e
  exact ⟨f, la, tl, e1, e2.sub hs, e3.sub hs⟩
def runK (lds : List Lk) (n : Nat) (mk : Int) (l : List (Int × Int)) : List (Int × Int) × Int := match lds[n]? with
  | none => (l, 0)
  | some d => resRun d.kind d.fl mk d.tabs l
def runS (lds : List Lk) : List (Nat × Int) → List (Int × Int) → List (Int × Int) × Int
  | [], l => (l, 0)
  | s :: r, l => ((runS lds r (runK lds s.1 s.2 l).1).1, (runK lds s.1 s.2 l).2 + (runS lds r (runK lds s.1 s.2 l).1).2)
theorem splice_ms {l : List (Int × Int)} {i : Nat} {ps : List Int} {p0 p : Int × Int} (h0 : p0 ∈ l) (h : p ∈ splice l i ps p0.2) : ∃ p1 ∈ l, p.2 = p1.2 := by
  unfold splice at h
  rcases List.mem_append.mp h with h | h
  · rcases List.mem_append.mp h with h | h
    · exact ⟨p, List.mem_of_mem_take h, rfl⟩
    · obtain ⟨g, _, rfl⟩ := List.mem_map.mp h
      exact ⟨p0, h0, rfl⟩
  · exact ⟨p, List.mem_of_mem_drop h, rfl⟩
theorem stepB_fine {d : Lk} (f : d.Fine) (hk : d.kind = "reverse") (mk : Int) (l : List (Int × Int)) (i : Nat) : (stepB d.kind d.fl mk d.tabs l i).1.length = l.length ∧ ∀ p ∈ (stepB d.kind d.fl mk d.tabs l i).1, ∃ p1 ∈ l, p.2 = p1.2 := by
  unfold stepB
  split
  · exact ⟨rfl, fun p hp => ⟨p, hp, rfl⟩⟩
  · rename_i p0 e0
    split
    · exact ⟨rfl, fun p hp => ⟨p, hp, rfl⟩⟩
    · rename_i ps e
      split at e
      · have hl := subRes_one (f.one hk) e
        have hi := (List.getElem?_eq_some_iff.mp e0).1
        refine ⟨?_, fun p hp => splice_ms (List.mem_of_getElem? e0) hp⟩
        simp [splice, hl]; omega
      · cases e
theorem runB_fine {d : Lk} (f : d.Fine) (hk : d.kind = "reverse") (mk : Int) : ∀ (i : Nat) (l : List (Int × Int)), (runB d.kind d.fl mk d.tabs i l).1.length = l.length ∧ ∀ p ∈ (runB d.kind d.fl mk d.tabs i l).1, ∃ p1 ∈ l, p.2 = p1.2
  | 0, l => ⟨rfl, fun p hp => ⟨p, hp, rfl⟩⟩
  | i + 1, l => by
    obtain ⟨h1, h2⟩ := stepB_fine f hk mk l i
    obtain ⟨h3, h4⟩ := runB_fine f hk mk i (stepB d.kind d.fl mk d.tabs l i).1
    refine ⟨h3.trans h1, fun p hp => ?_⟩
    obtain ⟨p1, e1, e2⟩ := h4 p hp
    obtain ⟨p2, e3, e4⟩ := h2 p1 e1
    exact ⟨p2, e3, e2.trans e4⟩
theorem outF_ms (kind : Str) (fl mk : Int) (tabs : List Tab) : ∀ (l : List (Int × Int)), ∀ p ∈ outF kind fl mk tabs l, ∃ p1 ∈ l, p.2 = p1.2
  | [], p, hp => by cases hp
  | p0 :: r, p, hp => by
    unfold outF at hp
    rcases List.mem_append.mp hp with hp | hp
    · split at hp
      · exact ⟨p0, .head _, by rw [List.mem_singleton.mp hp]⟩
      · obtain ⟨g, _, rfl⟩ := List.mem_map.mp hp
        exact ⟨p0, .head _, rfl⟩
    · obtain ⟨p1, e1, e2⟩ := outF_ms kind fl mk tabs r p hp
      exact ⟨p1, .tail _ e1, e2⟩
theorem runK_fine {lds : List Lk} (f : ∀ d ∈ lds, d.Fine) (n : Nat) (mk : Int) (l : List (Int × Int)) : (runK lds n mk l).1.length ≤ 3 * l.length ∧ ∀ p ∈ (runK lds n mk l).1, ∃ p1 ∈ l, p.2 = p1.2 := by
  unfold runK
  split
  · exact ⟨by dsimp only; omega, fun p hp => ⟨p, hp, rfl⟩⟩
  · rename_i d e
    have fd := f d (List.mem_of_getElem? e)
    unfold resRun
    split
    · rename_i hk
      obtain ⟨h1, h2⟩ := runB_fine fd hk mk l.length l
      exact ⟨by omega, h2⟩
    · exact ⟨outF_len fd.le l, outF_ms _ _ _ _ l⟩
theorem LksOk.fine {lds : List Lk} (h : LksOk ρ ga ll lds) : ∀ d ∈ lds, d.Fine := fun d hd => by
  obtain ⟨lvs, h1, h2, h3, h4⟩ := h
  obtain ⟨j, hj⟩ := List.getElem?_of_mem hd
  exact (h4 j d hj).1
theorem sp_run_sub {n : Nat} {t1 t2 : Tok} {lds : List Lk} (C : Cx c (k + 12)) (W : LksOk ρ ga ll lds) (hn : n < lds.length) (B : Wd ρ σ b rl cs) (hm : MkOk mk) (hms : ∀ p ∈ cs.map gm, 0 ≤ Builtin.bitAnd p.2 mk ∧ Builtin.bitAnd p.2 mk < 100) (hroom : cs.length * 3 < 980)
    (h : ∀ σ' cs' t, Wd ρ σ' b rl cs' → cs'.map gm = (runK lds n mk (cs.map gm)).1 → Φ (.int (runK lds n mk (cs.map gm)).2 t) m σ') :
    WP c (call (.ref 648) [.ref b, .ref ga, .ref ll, .int n t1, .int mk t2]) Φ m σ := by
  obtain ⟨lvs, h1, h2, h3, h4⟩ := W
  obtain ⟨d, hd⟩ : ∃ d, lds[n]? = some d := ⟨_, List.getElem?_eq_getElem hn⟩
  obtain ⟨f, la, tl, e1, e2, e3⟩ := h4 n d hd
  have hr : ∀ l, runK lds n mk l = resRun d.kind d.fl mk d.tabs l := fun l => by unfold runK; rw [hd]
  simp only [hr] at h
  exact sp_run_substitution C e2 B h1 e1 (by omega) hm hms hroom e3 f.le f.one h
/-- the two names of a step -/
def stepNs (ρ : Gh) (v : Value) : Fields := match v with
  | .ref tp => match ρ tp with
    | some (.tuple [x, y]) => [(Str.ofString "number", x), (Str.ofString "mask", y)]
    | _ => []
  | _ => []
theorem stepNs_eq {ρ : Gh} {tp : Addr} {x y : Value} (e : ρ tp = some (.tuple [x, y])) : stepNs ρ (.ref tp) = [(Str.ofString "number", x), (Str.ofString "mask", y)] := by simp [stepNs, e]
theorem stepNs_cases (ρ : Gh) (v : Value) : stepNs ρ v = [] ∨ ∃ x y, stepNs ρ v = [(Str.ofString "number", x), (Str.ofString "mask", y)] := by
  unfold stepNs
  split
  · split
    · exact .inr ⟨_, _, rfl⟩
    · exact .inl rfl
  · exact .inl rfl
theorem sp_run_stage {sl : Addr} {svs : List Value} {steps : List (Nat × Int)} {lds : List Lk} (C : Cx c (k + 13)) (W : LksOk ρ ga ll lds) (B : Wd ρ σ b rl cs) (hsl : LstAt ρ sl svs) (hsv : svs.length = steps.length) (hst : ∀ (j : Nat) v, svs[j]? = some v → ∃ tp n mk t1 t2, v = .ref tp ∧ ρ tp = some (.tuple [.int (n : Nat) t1, .int mk t2]) ∧ steps[j]? = some (n, mk) ∧ n < lds.length ∧ MkOk mk)
    (hms : ∀ p ∈ cs.map gm, ∀ mk, MkOk mk → 0 ≤ Builtin.bitAnd p.2 mk ∧ Builtin.bitAnd p.2 mk < 100) (hroom : cs.length * 3 ^ steps.length < 980) (hst100 : steps.length ≤ 100)
    (h : ∀ σ' cs' t, Wd ρ σ' b rl cs' → cs'.map gm = (runS lds steps (cs.map gm)).1 → Φ (.int (runS lds steps (cs.map gm)).2 t) m σ') :
    WP c (call (.ref 653) [.ref b, .ref ga, .ref ll, .ref sl]) Φ m σ := by
  refine wp_call (WC.forget ?_)
  refine' enterC [(Str.ofString "buffer", .ref b), (Str.ofString "gdef", .ref ga), (Str.ofString "lookups", .ref ll), (Str.ofString "steps", .ref sl)] [(Str.ofString "steps", .ref sl)] C ?ho ?hcd ?hb ?hloc ?hnd ?hm ?_ ?hco ?hgen ?hk
  case ho => k_is
  case hcd => k_is
  case hb => exact fun s X => BindsTo.of_eq rfl
  case hloc => with_unfolding_all rfl
  case hnd => decide +kernel
  case hm => intro L'; funext y; with_unfolding_all rfl
  case hco => with_unfolding_all rfl
  case hgen => with_unfolding_all rfl
  case hk => with_unfolding_all rfl
  intro A' h₀' L' C' E' hfree
  have hfree' : Wd ρ σ b rl cs → ∀ {a : Addr}, L' ≤ a → ρ a = none := fun B a ha => B.sub.none_of (hfree a ha)
  with_unfolding_all change WS _ _ _ _ _ _ (upd (upd (upd σ (L' + 1) (.cell (some (.ref b)))) (L' + 1 + 1) (.cell (some (.ref ga)))) (L' + 1 + 1 + 1) (.cell (some (.ref ll))))
  have f1 : σ (L' + 1) = none := hfree _ (adr1 _)
  have f2 : (upd σ (L' + 1) (.cell (some (.ref b)))) (L' + 1 + 1) = none := upd_none (hfree _ (adr2 _)) (adn12 _)
  have f3 : (upd (upd σ (L' + 1) (.cell (some (.ref b)))) (L' + 1 + 1) (.cell (some (.ref ga)))) (L' + 1 + 1 + 1) = none := upd_none (upd_none (hfree _ (adr3 _)) (adn13 _)) (adn23 _)
  have B1 := ((B.new (A := .cell (some (.ref b))) f1).new (A := .cell (some (.ref ga))) f2).new (A := .cell (some (.ref ll))) f3
  have hs1 : Sub ρ (upd (upd (upd ρ (L' + 1) (.cell (some (.ref b)))) (L' + 1 + 1) (.cell (some (.ref ga)))) (L' + 1 + 1 + 1) (.cell (some (.ref ll)))) :=
    (((Sub.refl ρ).upd (hfree' B (adr1 _))).upd (hfree' B (adr2 _))).upd (hfree' B (adr3 _))
  have hc1 : (upd (upd (upd ρ (L' + 1) (.cell (some (.ref b)))) (L' + 1 + 1) (.cell (some (.ref ga)))) (L' + 1 + 1 + 1) (.cell (some (.ref ll)))) (L' + 1) = some (.cell (some (.ref b))) := upd_ne (adn13 _).symm (upd_ne (adn12 _).symm (upd_same _ _ _))
  have hc2 : (upd (upd (upd ρ (L' + 1) (.cell (some (.ref b)))) (L' + 1 + 1) (.cell (some (.ref ga)))) (L' + 1 + 1 + 1) (.cell (some (.ref ll)))) (L' + 1 + 1) = some (.cell (some (.ref ga))) := upd_ne (adn23 _).symm (upd_same _ _ _)
  have hc3 : (upd (upd (upd ρ (L' + 1) (.cell (some (.ref b)))) (L' + 1 + 1) (.cell (some (.ref ga)))) (L' + 1 + 1 + 1) (.cell (some (.ref ll)))) (L' + 1 + 1 + 1) = some (.cell (some (.ref ll))) := upd_same _ _ _
  generalize upd (upd (upd σ (L' + 1) (.cell (some (.ref b)))) (L' + 1 + 1) (.cell (some (.ref ga)))) (L' + 1 + 1 + 1) (.cell (some (.ref ll))) = σ1 at B1 ⊢
  generalize (upd (upd (upd ρ (L' + 1) (.cell (some (.ref b)))) (L' + 1 + 1) (.cell (some (.ref ga)))) (L' + 1 + 1 + 1) (.cell (some (.ref ll)))) = ρ1 at B1 hs1 hc1 hc2 hc3
  walk_at "go"
  refine wp_compS C' [(Str.ofString "lookups", L' + 1 + 1 + 1), (Str.ofString "gdef", L' + 1 + 1), (Str.ofString "buffer", L' + 1)] ?_ ?hcl ?hce ?hki ?hna ?hfo
  case hcl => with_unfolding_all rfl
  case hce => decide
  case hki => with_unfolding_all rfl
  case hna => decide
  case hfo => intro x; with_unfolding_all rfl
  walk_at "go"
  have hpow : ∀ j : Nat, j < steps.length → cs.length * 3 ^ j * 3 < 980 := fun j hj => by
    have : 3 ^ j * 3 ≤ 3 ^ steps.length := by rw [← Nat.pow_succ]; exact Nat.pow_le_pow_right (by decide) hj
    calc cs.length * 3 ^ j * 3 = cs.length * (3 ^ j * 3) := Nat.mul_assoc _ _ _
      _ ≤ cs.length * 3 ^ steps.length := Nat.mul_le_mul_left _ this
      _ < 980 := hroom
  refine ⟨_, _, _, fun i ys τ => ∃ ns cs', IntsAre ys ns ∧ Wd ρ1 τ b rl cs' ∧ (runS lds (steps.drop i) (cs'.map gm)).1 = (runS lds steps (cs.map gm)).1 ∧ ns.sum + (runS lds (steps.drop i) (cs'.map gm)).2 = (runS lds steps (cs.map gm)).2 ∧
      (∀ p ∈ cs'.map gm, ∀ mk, MkOk mk → 0 ≤ Builtin.bitAnd p.2 mk ∧ Builtin.bitAnd p.2 mk < 100) ∧ cs'.length ≤ cs.length * 3 ^ i,
    fun _ v => stepNs ρ v, ?_, ⟨[], cs, .nil, B1, rfl, by simp, hms, by simp⟩, fun i ys τ hK => (Src.list (hsl.sub hs1)).sub (by obtain ⟨_, _, _, B', _⟩ := hK; exact B'.sub), fun it D Cn g1 g2 g3 d1 d2 d3 => ⟨?_, ?_⟩, ?_⟩
  · rw [hsv, sizeLine_eq]
    exact Nat.le_trans hst100 (by decide)
  · intro i v ys τ old σ' Φ hi hv hK hs ho hc h'
    obtain ⟨tp, n, mk, t1, t2, rfl, e1, e2, e3, e4⟩ := hst i v hv
    obtain ⟨ns, cs', hI, B', _⟩ := hK
    have e1' := hs _ _ (B'.sub _ _ (hs1 _ _ e1))
    have en : stepNs ρ (.ref tp) = [(Str.ofString "number", .int n t1), (Str.ofString "mask", .int mk t2)] := stepNs_eq e1
    have ho2 : setF (setF old (Str.ofString "number") (.int n t1)) (Str.ofString "mask") (.int mk t2) = [(Str.ofString "number", .int n t1), (Str.ofString "mask", .int mk t2)] := by
      rcases ho with rfl | ⟨j, u, rfl⟩
      · rfl
      · rcases stepNs_cases ρ u with e | ⟨x, y, e⟩
        · simp only [e]; rfl
        · simp only [e]; rfl
    refine as_tuple C' e1' (by with_unfolding_all rfl) (by with_unfolding_all rfl) ?_
    with_unfolding_all refine ao_cons ?_
    with_unfolding_all refine as_store ?_
    refine sg_local (E'.eg.comp rfl) (by with_unfolding_all rfl) rfl hc ?_
    with_unfolding_all refine ao_cons ?_
    with_unfolding_all refine as_store ?_
    refine sg_local (E'.eg.comp rfl) (by with_unfolding_all rfl) rfl (upd_same _ _ _) ?_
    with_unfolding_all refine ao_nil ?_
    rw [upd_upd, ho2]
    simp only [en] at h'
    exact h'
  · intro i v ys τ hi hv hK g1 g2 g3
    obtain ⟨tp, n, mk, t1, t2, rfl, e1, e2, e3, e4⟩ := hst i v hv
    obtain ⟨ns, cs', hI, B', r1, r2, r3, r4⟩ := hK
    have en : stepNs ρ (.ref tp) = [(Str.ofString "number", .int n t1), (Str.ofString "mask", .int mk t2)] := stepNs_eq e1
    simp only [en]
    have ct1 := B'.sub _ _ hc1
    have ct2 := B'.sub _ _ hc2
    have ct3 := B'.sub _ _ hc3
    have W3 := B'.fr3 (J := AO.listIter sl (i + 1)) (ys := ys) (mc := [(Str.ofString "number", .int n t1), (Str.ofString "mask", .int mk t2)]) g1 g2 g3 d1 d2 d3
    have h1 := B'.sub.none_of g1
    have h2 := B'.sub.none_of g2
    have h3 := B'.sub.none_of g3
    have hsF : Sub ρ1 (Fr3 ρ1 it (AO.listIter sl (i + 1)) D ys Cn [(Str.ofString "number", .int n t1), (Str.ofString "mask", .int mk t2)]) := fun x A e => (Fr3.core (Sub.refl _) h1 h2 h3 d1 d2 d3).1 x A e
    have hdr : runS lds (steps.drop i) (cs'.map gm) = ((runS lds (steps.drop (i + 1)) (runK lds n mk (cs'.map gm)).1).1, (runK lds n mk (cs'.map gm)).2 + (runS lds (steps.drop (i + 1)) (runK lds n mk (cs'.map gm)).1).2) := by
      obtain ⟨hlt, e⟩ := List.getElem?_eq_some_iff.mp e2
      rw [List.drop_eq_getElem_cons hlt, e]; rfl
    walk_at "go"
    have hi' : i < steps.length := by omega
    have hlen : cs'.length * 3 < 980 := Nat.lt_of_le_of_lt (Nat.mul_le_mul_right 3 r4) (hpow i hi')
    refine sp_run_sub C' (W.sub (hs1.trans hsF)) e3 W3 e4 (fun p hp => r3 p hp mk e4) hlen fun σ' cs2 t W4 hg => ?_
    obtain ⟨τ', a1, a2, a3, a4, a5⟩ := W4.unfr3 (.inl ⟨_, _, rfl⟩) h1 h2 h3 d1 d2 d3
    obtain ⟨k1, k2⟩ := runK_fine W.fine n mk (cs'.map gm)
    rw [← hg] at k1 k2
    rw [hdr] at r1 r2
    refine ⟨rfl, τ', ⟨ns ++ [(runK lds n mk (cs'.map gm)).2], cs2, snoc_ints hI, a1, by rw [hg]; exact r1, ?_, fun p hp => ?_, ?_⟩, a2, a3, a4, a5⟩
    · rw [hg, List.sum_append]; simp only [List.sum_cons, List.sum_nil]; omega
    · obtain ⟨p1, q1, q2⟩ := k2 p hp
      rw [q2]; exact r3 p1 q1
    · rw [List.length_map, List.length_map] at k1
      rw [Nat.pow_succ, ← Nat.mul_assoc]
      omega
  · rintro ys τ ⟨ns, cs', hI, B', r1, r2, r3, r4⟩ hy D hD
    walk_at "go"
    refine sm_ints C' (.inr (upd_same _ _ _)) hI fun t => ?_
    rw [hsv, List.drop_length] at r1 r2
    have r2' : ns.sum = (runS lds steps (cs.map gm)).2 := by simpa [runS] using r2
    rw [r2']
    exact ⟨_, Sub.refl _, h _ cs' _ ((B'.less hs1).more ((Sub.refl _).new hD)) r1⟩
end
end
section
section
variable {c : Cf} {k : Nat} {m : Fields} {σ ρ : Gh} {Φ : Value → Fields → Gh → Prop}
/-- the law's own source of numbers: the closure f, its place pl, what it stands on F -/
structure TakeS (w : World) (f pl : Addr) (F : Gh) : Prop where
  fn : ∃ name qual params body scope clos, FnIn F f name qual params body scope clos
  call : ∀ (c : Cf) (k : Nat) (m : Fields) (σ : Gh) (kk limit : Int) (t tl : Tok) (Φ : Value → Fields → Gh → Prop), c.w = w → Cx c (k + 1) → Sub F σ → LstAt σ pl [.int kk t] → 0 ≤ kk → kk ≤ 300 → 0 < limit →
    (∀ r t t', 0 ≤ r → r < limit → Φ (.int r t) m (upd σ pl (.list [.int (kk + 1) t']))) → WP c (call (.ref f) [.int limit tl]) Φ m σ
theorem WE.mono {c : Cf} {st : Stmt} {env : Env} {N N' : Fields → Gh → Prop} {R R' : Value → Fields → Gh → Prop} {m : Fields} {σ : Gh} (h : WE c st env N' R' m σ) (k : ∀ m σ, N' m σ → N m σ) (kr : ∀ v m σ, R' v m σ → R v m σ) : WE c st env N R m σ :=
  WP.mono h fun f m σ q => by
    cases f with
    | next => exact k _ _ q
    | ret v => exact kr _ _ _ q
    | brk => exact q.elim
    | cont => exact q.elim
theorem ws_then {c : Cf} {st : Stmt} {rest : List Stmt} {env : Env} {N : Fields → Gh → Prop} {R : Value → Fields → Gh → Prop} {m : Fields} {σ : Gh} (N' : Fields → Gh → Prop) (h : WE c st env N' R m σ) (h' : ∀ m σ, N' m σ → WS c rest env N R m σ) : WS c (st :: rest) env N R m σ :=
  ws_cons (WE.mono h h' fun _ _ _ x => x)
theorem nest_def2 {N : Fields → Gh → Prop} {R : Value → Fields → Gh → Prop} {cn : Str} {cs : Scope} {a cc P : Addr} {cl : List (Str × Addr)} (clos : List (Str × Addr)) {name : Str} {params : Arguments} {body : List Stmt} {scope : Scope} {pos : Pos} {ps : Array Value} (C : Cx c k) (hcd : codeHdIn (hd.heap_39 c.w.params) cc P = true) (hP : σ P = some (.raw (tabObj ps))) (ht : TriplesOk ps.toList) (hnf : codeAmong pos ps.toList = none)
    (hcl : closureFor scope (envX cn cs c.L a (.ref cc) cl) = pure clos) (hd0 : params.defaults = []) (hk0 : params.kw_defaults = []) (ha : annTrees params none (envX cn cs c.L a (.ref cc) cl) = [])
    (h : ∀ f c' σ' A₁ A₂ A₃, σ f = none → σ c' = none → f ≠ c' → σ' = upd (upd (upd σ P A₁) c' A₂) f A₃ → (∀ F : Gh, F f = σ' f → F c' = σ' c' → FnIn F f name (qualnameIn (envX cn cs c.L a (.ref cc) cl) name name) params body scope clos) →
      WP c (storeName (envX cn cs c.L a (.ref cc) cl) name (.ref f)) (fun _ m σ => N m σ) m σ') :
    WE c (.FunctionDef name params body [] none [] scope none name pos) (envX cn cs c.L a (.ref cc) cl) N R m σ :=
  nest_def C hcd hP ht hnf hcl hd0 hk0 ha fun f c' oc vs t ctv doc pm hf hc hfc ho hq => h f c' _ _ _ _ hf hc hfc rfl fun F e1 e2 => by
    rw [upd_same] at e1
    rw [upd_ne hfc.symm (upd_same _ _ _)] at e2
    exact ⟨_, _, _, _, _, _, _, e1, e2, ho, hq⟩
theorem ne_of_none_r {a b : Addr} {A : AO} (h : σ a = none) (e : σ b = some A) : a ≠ b := (ne_of_none h e).symm
theorem ints_one {n : Int} {t : Tok} : IntsAre [.int n t] [n] := .cons _ _ .nil
end
end
local macro_rules | `(tactic| walk_at "lk") => `(tactic| first | with_reducible assumption | with_reducible exact lk_same | ((with_reducible refine' lk_ne ?hne ?hlk); (case hne => decide); (case hlk => walk_at "lk")) | with_unfolding_all rfl | fail)
local macro_rules | `(tactic| walk_at "sig") => `(tactic| first | (refine' TkW.sub ?W _ _ ?e; (case W => with_reducible assumption); (case e => walk_at "sig")) | fail)
local macro_rules | `(tactic| walk_at "sub") => `(tactic| first | (refine' Sub.trans ?h1 (TkW.sub ?h2); (case h2 => with_reducible assumption); (case h1 => with_reducible assumption)) | fail)
local macro_rules | `(tactic| walk_at "name") => `(tactic| first
  | ((with_reducible refine' nc2_local (by assumption) ?hk ?hk2 ?hl ?hm ?hv ?_); (case hk => with_unfolding_all rfl); (case hk2 => with_unfolding_all rfl); (case hl => with_unfolding_all rfl); (case hm => walk_at "sig"); (case hv => with_unfolding_all rfl))
  | ((with_reducible refine' nc2_cell (by assumption) ?hk ?hk2 ?hl ?ha ?hv ?_); (case hk => with_unfolding_all rfl); (case hk2 => with_unfolding_all rfl); (case hl => with_unfolding_all rfl); (case ha => with_unfolding_all rfl); (case hv => walk_at "sig"))
  | ((with_reducible refine' nc2_glob (by assumption) (by assumption) ?hk ?hk2 ?hl ?hv ?_); (case hk => with_unfolding_all rfl); (case hk2 => with_unfolding_all rfl); (case hl => with_unfolding_all rfl); (case hv => k_is)) | fail)
local macro_rules | `(tactic| walk_at "name") => `(tactic| first | (refine' wp_name ?he ?hl ?hv ?_; (case he => with_reducible assumption); (case hl => with_unfolding_all rfl); (case hv => first | walk_at "lk" | with_unfolding_all rfl)) | fail)
local macro_rules | `(tactic| walk_at "w") => `(tactic| first
  | ((with_reducible refine' tk_const ?W ?T ?hF (by assumption) ?hB ?hl ?_); (case W => with_reducible assumption); (case T => with_reducible assumption); (case hF => with_reducible assumption); (case hB => omega); (case hl => decide); intro r t σ' hr0 hr1 W')
  | ((with_reducible refine' cw_take ?T ?hF ?_ ?he); (case T => with_reducible assumption); (case hF => walk_at "sub"); (case he => with_unfolding_all rfl))
  | ((with_reducible show WP _ (setItem (.ref _) (.int _ _) _) _ _ _); refine' set_idict ?hl ?hs ?_; (case hl => walk_at "sig"); (case hs => rw [sizeLine_eq]; omega)) | fail)
section
section
variable {c : Cf} {k : Nat} {m : Fields} {σ ρ : Gh} {Φ : Value → Fields → Gh → Prop} {env : Env} {f pl : Addr} {F : Gh} {B : Int}
theorem sp_take {t : Tok} {limit : Int} (W : TkW ρ σ pl B) (T : TakeS c.w f pl F) (hF : Sub F ρ) (C : Cx c (k + 1)) (hB : B ≤ 300) (hl : 0 < limit) (h : ∀ r t σ', 0 ≤ r → r < limit → TkW ρ σ' pl (B + 1) → Φ (.int r t) m σ') : WP c (call (.ref f) [.int limit t]) Φ m σ := by
  obtain ⟨kk, tk, h1, h2, h3⟩ := W.at_
  refine T.call c k m σ kk limit tk t Φ rfl C (hF.trans W.sub) h1 h2 (Int.le_trans h3 hB) hl fun r t t' r0 r1 => h r t _ r0 r1 ?_
  exact ⟨W.sub.upd W.free, W.free, kk + 1, t', .inl (upd_same _ _ _), by omega, by omega⟩
structure Both (p q : Prop) : Prop where
  l : p
  r : q
theorem cw_take {e : Expr} {p : Pos} (T : TakeS c.w f pl F) (hF : Sub F σ) (h : WP c (eval e env) (fun v m σ' => Both (Sub F σ') (WP c (call (.ref f) [v]) Φ m σ')) m σ)
    (he : starEach [e] env = (false, eval e env) :: starEach [] env := by rfl) : WP c (callWith p (.ref f) [] (backTo p (starEach [e] env)) []) Φ m σ := by
  obtain ⟨_, _, _, _, _, _, hf⟩ := T.fn
  refine cw_fn (hf.sub hF) ?_ he rfl
  refine wp_spl (h.mono fun v m σ' q => ?_) he
  exact wp_spl0 ⟨hf.sub q.l, q.r⟩
theorem tk_const {limit : Int} {n : Nat} {p pc : Pos} (W : TkW ρ σ pl B) (T : TakeS c.w f pl F) (hF : Sub F ρ) (C : Cx c (k + 1)) (hB : B ≤ 300) (hl : 0 < limit) (h : ∀ r t σ', 0 ≤ r → r < limit → TkW ρ σ' pl (B + 1) → Φ (.int r t) m σ') :
    WP c (callWith p (.ref f) [] (backTo p (starEach [.Constant (.int limit) n pc] env)) []) Φ m σ :=
  cw_take T (hF.trans W.sub) (wp_int fun t => ⟨hF.trans W.sub, sp_take W T hF C hB hl h⟩)
/-- kinds whose mapping gives an int -/
def IntKd (kind : Str) : Prop := kind = "single" ∨ kind = "reverse" ∨ kind = "ligature"
def KindOk (kind : Str) : Prop := kind = "single" ∨ kind = "multiple" ∨ kind = "alternate" ∨ kind = "reverse" ∨ kind = "ligature"
/-- a mapping of the law -/
structure LMap (ρ : Gh) (kind : Str) (kvs : List (Int × Value)) (mp : Int → Option (List Int)) : Prop where
  int : IntKd kind → MapInt kvs mp ∧ ∀ g ps, mp g = some ps → ps.length = 1
  tup : ¬ IntKd kind → MapTup ρ kvs mp
  nd : (kvs.map (·.1)).Nodup
theorem LMap.sub {ρ' : Gh} {kind : Str} {kvs : List (Int × Value)} {mp : Int → Option (List Int)} (h : LMap ρ kind kvs mp) (hs : Sub ρ ρ') : LMap ρ' kind kvs mp := by
  refine ⟨h.int, fun q g => ?_, h.nd⟩
  rcases h.tup q g with h1 | ⟨a, vs, ps, h1, h2, h3, h4⟩
  · exact .inl h1
  · exact .inr ⟨a, vs, ps, h1, h2, hs _ _ h3, h4⟩
theorem LMap.keep {ρ' : Gh} {kind : Str} {kvs : List (Int × Value)} {mp : Int → Option (List Int)} (h : LMap ρ kind kvs mp) (hs : ∀ a vs, ρ a = some (.tuple vs) → ρ' a = some (.tuple vs)) : LMap ρ' kind kvs mp := by
  refine ⟨h.int, fun q g => ?_, h.nd⟩
  rcases h.tup q g with h1 | ⟨a, vs, ps, h1, h2, h3, h4⟩
  · exact .inl h1
  · exact .inr ⟨a, vs, ps, h1, h2, hs _ _ h3, h4⟩
theorem TkW.close {it : Addr} {J : AO} (W : TkW ρ σ pl B) (h : ρ it = some J) : ∃ ρ' σ', TkW ρ' σ' pl B ∧ σ' it = none ∧ Sub (upd σ' it J) σ ∧ (∀ a A, a ≠ it → ρ a = some A → ρ' a = some A) :=
  ⟨_, _, W.without h, without_self, without_sub (W.sub _ _ h), fun a A hn e => by rw [without_ne hn]; exact e⟩
theorem TkW.fr3 {it D Cn : Addr} {J : AO} {ys : List Value} {mc : Fields} (W : TkW ρ σ pl B) (h1 : σ it = none) (h2 : σ D = none) (h3 : σ Cn = none) (d1 : it ≠ D) (d2 : it ≠ Cn) (d3 : D ≠ Cn) : TkW (Fr3 ρ it J D ys Cn mc) (Fr3 σ it J D ys Cn mc) pl B :=
  ((W.new h1).new (upd_none h2 d1.symm)).new (upd_none (upd_none h3 d2.symm) d3.symm)
theorem sub_fr3 {it D Cn : Addr} {J : AO} {ys : List Value} {mc : Fields} (h1 : ρ it = none) (h2 : ρ D = none) (h3 : ρ Cn = none) : Sub ρ (Fr3 ρ it J D ys Cn mc) := (((Sub.refl ρ).upd h1).upd h2).upd h3
theorem TkW.close3 {ρ2 : Gh} {it D Cn : Addr} {J : AO} {ys : List Value} {mc : Fields} (W : TkW ρ2 σ pl B) (s : Sub (Fr3 ρ it J D ys Cn mc) ρ2) (h1 : ρ it = none) (h2 : ρ D = none) (h3 : ρ Cn = none) (d1 : it ≠ D) (d2 : it ≠ Cn) (d3 : D ≠ Cn) :
    ∃ ρ' σ', Sub ρ ρ' ∧ TkW ρ' σ' pl B ∧ σ' it = none ∧ σ' D = none ∧ σ' Cn = none ∧ Sub (Fr3 σ' it J D ys Cn mc) σ ∧ ∀ a A, a ≠ it → a ≠ D → a ≠ Cn → ρ2 a = some A → ρ' a = some A := by
  have e3 : ρ2 Cn = some (.ns mc) := s _ _ (upd_same _ _ _)
  have e2 : ρ2 D = some (.xlist ys) := s _ _ (upd_ne d3 (upd_same _ _ _))
  have e1 : ρ2 it = some J := s _ _ (upd_ne d2 (upd_ne d1 (upd_same _ _ _)))
  have W1 := W.without e3
  have W2 := W1.without (a := D) (by rw [without_ne d3]; exact e2)
  have W3 := W2.without (a := it) (by rw [without_ne d1, without_ne d2]; exact e1)
  refine ⟨_, _, fun a A e => ?_, W3, without_self, ?_, ?_, Fr3.of (fun x A e => ?_) (W.sub _ _ e1) (W.sub _ _ e2) (W.sub _ _ e3), fun a A n1 n2 n3 e => ?_⟩
  · rw [without_ne (ne_of_none h1 e), without_ne (ne_of_none h2 e), without_ne (ne_of_none h3 e)]
    exact s _ _ (sub_fr3 h1 h2 h3 _ _ e)
  · rw [without_ne d1.symm]; exact without_self
  · rw [without_ne d2.symm, without_ne d3.symm]; exact without_self
  · unfold Mine.without at e
    split at e
    · cases e
    · split at e
      · cases e
      · split at e
        · cases e
        · exact e
  · rw [without_ne n1, without_ne n2, without_ne n3]; exact e
theorem any3 {kind a b d : Str} : ([a, b, d].any fun y => y == kind) = true ↔ kind = a ∨ kind = b ∨ kind = d := by
  simp only [List.any_cons, List.any_nil, Bool.or_eq_true, beq_iff_eq, Bool.or_false]
  exact ⟨fun h => h.elim (fun e => .inl e.symm) fun h => h.elim (fun e => .inr (.inl e.symm)) fun e => .inr (.inr e.symm), fun h => h.elim (fun e => .inl e.symm) fun h => h.elim (fun e => .inr (.inl e.symm)) fun e => .inr (.inr e.symm)⟩
theorem LMap.nil {kind : Str} : LMap ρ kind [] (fun _ => none) := ⟨fun _ => ⟨fun g => .inl ⟨rfl, rfl⟩, fun g ps e => by cases e⟩, fun _ g => .inl ⟨rfl, rfl⟩, List.nodup_nil⟩
theorem LMap.setI {kind : Str} {kvs : List (Int × Value)} {mp : Int → Option (List Int)} (h : LMap ρ kind kvs mp) (hk : IntKd kind) (g z : Int) (t : Tok) : LMap ρ kind (stored kvs g (.int z t)) (fun x => if x = g then some [z] else mp x) := by
  refine ⟨fun _ => ⟨fun x => ?_, fun x ps e => ?_⟩, fun q => absurd hk q, stored_nodup _ _ _ h.nd⟩
  · rw [valueAt_stored]
    by_cases hx : x = g
    · simp only [if_pos hx]; exact .inr ⟨z, t, rfl, rfl⟩
    · simp only [if_neg hx]; exact (h.int hk).1 x
  · split at e
    · cases e; rfl
    · exact (h.int hk).2 x ps e
theorem LMap.setT {kind : Str} {kvs : List (Int × Value)} {mp : Int → Option (List Int)} {a : Addr} {vs : List Value} {ps : List Int} (h : LMap ρ kind kvs mp) (hk : ¬ IntKd kind) (g : Int) (ha : ρ a = some (.tuple vs)) (hi : IntsAre vs ps) (hl : ps.length ≤ 3) : LMap ρ kind (stored kvs g (.ref a)) (fun x => if x = g then some ps else mp x) := by
  refine ⟨fun q => absurd q hk, fun _ x => ?_, stored_nodup _ _ _ h.nd⟩
  rw [valueAt_stored]
  by_cases hx : x = g
  · simp only [if_pos hx]; exact .inr ⟨a, vs, ps, rfl, rfl, ha, hi, hl⟩
  · simp only [if_neg hx]; exact h.tup hk x
end
end
section
section
variable {c : Cf} {k : Nat} {m : Fields} {σ ρ : Gh} {Φ : Value → Fields → Gh → Prop} {env : Env} {f pl : Addr} {F : Gh} {B : Int}
theorem hrr' {ρ2 ρ' : Gh} {r it : Addr} {A : AO} (s : Sub (upd ρ2 r A) ρ') (hr : ρ2 r = none) (hi : ρ' it = none) : ρ2 it = none := (((Sub.refl ρ2).upd hr).trans s).none_of hi
theorem sp_law_mapping {kind : Str} {tk : Tok} (C : Cx c (k + 2)) (W : TkW ρ σ pl B) (T : TakeS c.w f pl F) (hF : Sub F ρ) (hB : B ≤ 250)
    (h : ∀ ρ' σ' md kvs mp, Sub ρ ρ' → TkW ρ' σ' pl (B + 16) → ρ md = none → ρ' md = some (.idict kvs) → LMap ρ' kind kvs mp → kvs.length ≤ 3 → Φ (.ref md) m σ') :
    WP c (call (.ref 816) [.ref f, .str kind tk]) Φ m σ := by
  refine wp_call ?_
  refine' enterC [(Str.ofString "take", .ref f), (Str.ofString "kind", .str kind tk)] [(Str.ofString "kind", .str kind tk)] C ?ho ?hcd ?hb ?hloc ?hnd ?hm ?_ ?hco ?hgen ?hk
  case ho => k_is
  case hcd => k_is
  case hb => exact fun s X => BindsTo.of_eq rfl
  case hloc => with_unfolding_all rfl
  case hnd => decide +kernel
  case hm => intro L'; funext y; with_unfolding_all rfl
  case hco => with_unfolding_all rfl
  case hgen => with_unfolding_all rfl
  case hk => with_unfolding_all rfl
  intro A' h₀' L' C' E' hfree
  with_unfolding_all change WS _ _ _ _ _ _ (upd σ (L' + 1) (.cell (some (.ref f))))
  have f1 : σ (L' + 1) = none := hfree _ (adr1 _)
  have hr1 : ρ (L' + 1) = none := W.sub.none_of f1
  have W1 := W.new (A := .cell (some (.ref f))) f1
  have s1 : Sub ρ (upd ρ (L' + 1) (.cell (some (.ref f)))) := (Sub.refl ρ).upd hr1
  have hc1 : (upd ρ (L' + 1) (.cell (some (.ref f)))) (L' + 1) = some (.cell (some (.ref f))) := upd_same _ _ _
  generalize upd ρ (L' + 1) (.cell (some (.ref f))) = ρ1 at W1 s1 hc1
  generalize upd σ (L' + 1) (.cell (some (.ref f))) = σ1 at W1 ⊢
  refine ws_then (fun m' σ' => ∃ md ρ', lk m' "kind" = some (.str kind tk) ∧ lk m' "mapping" = some (.ref md) ∧ Sub ρ1 ρ' ∧ TkW ρ' σ' pl B ∧ ρ1 md = none ∧ ρ' md = some (.idict [])) ?_ ?_
  · walk_at "go"
    rename_i md hmd
    have hr2 := W1.sub.none_of hmd
    exact ⟨md, _, by walk_at "lk", by walk_at "lk", (Sub.refl ρ1).upd hr2, W1.new hmd, hr2, upd_same _ _ _⟩
  clear W1 f1 hr1 hfree
  rintro m2 σ2 ⟨md, ρ2, l1, l2, s2, W2, hmd1, hmd⟩
  have hmd0 := s1.none_of hmd1
  have hc2 := s2 _ _ hc1
  have hF2 : Sub F ρ2 := (hF.trans s1).trans s2
  refine ws_then (fun m' σ' => ∃ ρ' kvs mp, lk m' "mapping" = some (.ref md) ∧ Sub ρ ρ' ∧ TkW ρ' σ' pl (B + 16) ∧ ρ' md = some (.idict kvs) ∧ LMap ρ' kind kvs mp ∧ kvs.length ≤ 3) ?_ ?_
  · walk_at "go"
    rename_i rr trr σr r0 r1 W3 tt r t1 t2 t3 hr
    have hrr := W3.sub.none_of hr
    have hrr1 := s2.none_of hrr
    have hmr : md ≠ r := ne_of_none hrr hmd
    have hmd2 : ∀ {A : AO}, (upd ρ1 r A) md = none := upd_none hmd1 hmr
    have hn : (1 + rr) = ((1 + rr).toNat : Int) := by omega
    rw [hn]
    have hn3 : (1 + rr).toNat ≤ 3 := by omega
    generalize (1 + rr).toNat = n at hn3 ⊢
    refine ⟨rI n, n, rItem, fun i m' τ => ∃ ρ' kvs mp, lk m' "kind" = some (.str kind tk) ∧ lk m' "mapping" = some (.ref md) ∧ Sub (upd ρ1 r (.raw (rangeO 0 n 1 t1 t2 t3))) ρ' ∧ TkW ρ' τ pl (B + 1 + 5 * i) ∧ ρ' md = some (.idict kvs) ∧ LMap ρ' kind kvs mp ∧ kvs.length ≤ i, ?_, ?_, ?_, ?_⟩
    · exact ⟨_, [], _, l1, l2, sub_upd s2, (W3.new hr).le (by omega), upd_ne (ne_of_none hrr hmd) hmd, .nil, Nat.le_refl _⟩
    · rintro i m' τ ⟨ρ', kvs, mp, _, _, hs, Wi, _⟩
      exact Src.up (Wi.sub _ _ (hs _ _ (upd_same _ _ _))) (by omega)
    · rintro it hit i v m' τ hi hv ⟨ρ', kvs, mp, l3, l4, s3, Wi, hmdi, hL, hlen⟩ hτ
      obtain ⟨tv, rfl⟩ := hv
      have hρ' := Wi.sub.none_of hτ
      have hJ : ∀ vs, rI n (i + 1) ≠ .tuple vs := fun vs e => by cases e
      generalize rI n (i + 1) = J at hJ ⊢
      have W4 := Wi.new (A := J) hτ
      have s4 : Sub (upd ρ1 r (.raw (rangeO 0 n 1 t1 t2 t3))) (upd ρ' it J) := s3.trans ((Sub.refl _).upd hρ')
      have hit4 : (upd ρ' it J) it = some J := upd_same _ _ _
      have hmd4 : (upd ρ' it J) md = some (.idict kvs) := upd_ne (ne_of_none hρ' hmdi) hmdi
      have hL4 : LMap (upd ρ' it J) kind kvs mp := hL.sub ((Sub.refl _).upd hρ')
      have hnmd : md ≠ it := ne_of_none hρ' hmdi
      have hi0 : (upd ρ1 r (.raw (rangeO 0 n 1 t1 t2 t3))) it = none := s3.none_of hρ'
      clear hL hmdi hρ' s3
      generalize upd ρ' it J = ρ4 at W4 s4 hit4 hmd4 hL4
      generalize upd τ it J = σ4 at W4 ⊢
      have s14 : Sub ρ1 ρ4 := ((Sub.refl _).upd hrr1).trans s4
      have hF4 : Sub F ρ4 := (hF.trans s1).trans s14
      have hc4 := s14 _ _ hc1
      clear Wi hτ
      walk_at "go"
      rename_i tg g trg σ5 g0 g1 W5 tone ts1 ts2 ts3
      intro T3 hT3
      refine cp_in_strs (upd_same _ _ _) (.cons _ _ (.cons _ _ (.cons _ _ .nil))) ?_
      have W6 := W5.new (A := .tuple [.str "single" ts1, .str "reverse" ts2, .str "ligature" ts3]) hT3
      have hr6 := W5.sub.none_of hT3
      have s6 : Sub ρ4 (upd ρ4 T3 (.tuple [.str "single" ts1, .str "reverse" ts2, .str "ligature" ts3])) := (Sub.refl _).upd hr6
      generalize upd ρ4 T3 (.tuple [.str "single" ts1, .str "reverse" ts2, .str "ligature" ts3]) = ρ6 at W6 s6
      generalize upd σ5 T3 (.tuple [.str "single" ts1, .str "reverse" ts2, .str "ligature" ts3]) = σ6 at W6 ⊢
      have hF6 := hF4.trans s6
      have hc6 := s6 _ _ hc4
      have hmd6 := s6 _ _ hmd4
      have hL6 := hL4.sub s6
      have hit6 := s6 _ _ hit4
      have s26 := s4.trans s6
      clear hit4 hmd4 hL4 W5 s4 hc4 hF4
      walk_at "go"
      · rename_i hb tc z trz σ7 z0 z1 W7 tz
        have hk := any3.mp hb
        have W8 := W7.set (A' := .idict (stored kvs (1 + g) (.int (1 + z) tz))) hmd6
        obtain ⟨ρ9, σ9, W9, n9, u9, k9⟩ := W8.close (it := it) (upd_ne hnmd.symm hit6)
        refine ⟨σ9, ⟨ρ9, _, _, by walk_at "lk", by walk_at "lk", fun a A e => k9 a A (ne_of_none hi0 e) ?_, W9.le (by omega), k9 _ _ hnmd (upd_same _ _ _), (hL6.setI hk (1 + g) (1 + z) tz).keep fun a vs e => k9 a _ ?_ (upd_ne ?_ e), ?_⟩, n9, u9⟩
        · exact upd_ne (ne_of_none hmd2 e) (s26 _ _ e)
        · rintro rfl; rw [hit6] at e; exact hJ _ (Option.some.inj e)
        · rintro rfl; rw [hmd6] at e; cases e
        · have := stored_length_le kvs (1 + g) (Value.int (1 + z) tz); omega
      · rename_i hb
        have hk : ¬ IntKd kind := fun h => by rw [any3.mpr h] at hb; cases hb
        refine wp_compS C' [(Str.ofString "take", L' + 1)] ?_ ?hcl ?hce ?hki ?hna ?hfo
        case hcl => with_unfolding_all rfl
        case hce => decide
        case hki => with_unfolding_all rfl
        case hna => decide
        case hfo => intro x; with_unfolding_all rfl
        walk_at "go"
        all_goals (
          refine ⟨hF6.trans W6.sub, sp_take W6 T hF6 C' (by omega) (by decide) fun z trz σ7 z0 z1 W7 => ?_⟩
          have hz4 : z < 4 := by omega
          walk_at "go"
          rename_i rq q1 q2 q3 hrq
          have hrq6 := W7.sub.none_of hrq
          have hn : z = (z.toNat : Int) := by omega
          rw [hn]
          have hn4 : z.toNat ≤ 3 := by omega
          generalize z.toNat = n2 at hn4 ⊢
          refine ⟨rI n2, n2, rItem, fun j ys τ => ∃ ρ' ns, Sub (upd ρ6 rq (.raw (rangeO 0 n2 1 q1 q2 q3))) ρ' ∧ TkW ρ' τ pl (B + 1 + 5 * i + 2 + j) ∧ IntsAre ys ns ∧ ns.length = j, fun _ v => [(Str.ofString "spot", v)], by rw [sizeLine_eq]; omega,
            ⟨_, [], Sub.refl _, (W7.new hrq).le (by omega), .nil, rfl⟩, fun j ys τ hK => ?_, fun it2 D Cn g1 g2 g3 d1 d2 d3 => ⟨by walk_at "asg", ?_⟩, ?_⟩
          · obtain ⟨ρ', ns, s', W', _⟩ := hK
            exact Src.up (W'.sub _ _ (s' _ _ (upd_same _ _ _))) (by omega)
          · rintro j v ys τ hj hv ⟨ρ', ns, s', W', hI, hl⟩ h1 h2 h3
            obtain ⟨tv2, rfl⟩ := hv
            have k1 := W'.sub.none_of h1
            have k2 := W'.sub.none_of h2
            have k3 := W'.sub.none_of h3
            have W8 := W'.fr3 (J := rI n2 (j + 1)) (ys := ys) (mc := [(Str.ofString "spot", .int (j : Nat) tv2)]) h1 h2 h3 d1 d2 d3
            have s8 : Sub ρ6 (Fr3 ρ' it2 (rI n2 (j + 1)) D ys Cn [(Str.ofString "spot", .int (j : Nat) tv2)]) := (((Sub.refl _).upd hrq6).trans s').trans (sub_fr3 k1 k2 k3)
            have hF8 := hF6.trans s8
            have hc8 := s8 _ _ hc6
            generalize Fr3 τ it2 (rI n2 (j + 1)) D ys Cn [(Str.ofString "spot", .int (j : Nat) tv2)] = σ8 at W8 ⊢
            generalize hρ8 : Fr3 ρ' it2 (rI n2 (j + 1)) D ys Cn [(Str.ofString "spot", .int (j : Nat) tv2)] = ρ8 at W8 s8 hF8 hc8
            walk_at "go"
            rename_i te y tr y9 y0 y1 W9 ty
            obtain ⟨ρa, σa, sa, Wa, n1, n2', n3, sf, _⟩ := W9.close3 (by rw [hρ8]; exact Sub.refl _) k1 k2 k3 d1 d2 d3
            exact ⟨rfl, σa, ⟨ρa, ns ++ [1 + y], s'.trans sa, Wa.le (by omega), snoc_ints hI, by simp; omega⟩, n1, n2', n3, sf⟩
          · rintro ys τ ⟨ρ', ns, s', W', hI, hl⟩ hy D hD
            walk_at "go"
            refine tp_list (vs := ys) (.inr (upd_same _ _ _)) (by have := hI.length; omega) fun T5 hT5 => ?_
            have s15 := (((Sub.refl ρ6).upd hrq6).trans s').trans ((Sub.refl ρ').upd (W'.sub.none_of hD) (A := .xlist ys))
            have W10 := W'.new (A := .xlist ys) hD
            have hT5' := W10.sub.none_of hT5
            have W11 := W10.new (A := .tuple ys) hT5
            have s16 := s15.trans ((Sub.refl (upd ρ' D (.xlist ys))).upd hT5' (A := .tuple ys))
            have ht16 : (upd (upd ρ' D (.xlist ys)) T5 (.tuple ys)) T5 = some (.tuple ys) := upd_same _ _ _
            clear W10 s15 W' s' hT5' hT5
            generalize upd (upd ρ' D (.xlist ys)) T5 (.tuple ys) = ρ11 at W11 s16 ht16
            generalize upd (upd τ D (.xlist ys)) T5 (.tuple ys) = σ11 at W11 ⊢
            have hmd11 := s16 _ _ hmd6
            have hit11 := s16 _ _ hit6
            have hL11 := hL6.sub s16
            walk_at "go"
            have W12 := W11.set (A' := .idict (stored kvs (1 + g) (.ref T5))) hmd11
            obtain ⟨ρ9, σ9, W9, n9, u9, k9⟩ := W12.close (it := it) (upd_ne hnmd.symm hit11)
            refine ⟨σ9, ⟨ρ9, _, _, by walk_at "lk", by walk_at "lk", fun a A e => k9 a A (ne_of_none hi0 e) ?_, W9.le (by omega), k9 _ _ hnmd (upd_same _ _ _), (hL11.setT hk (1 + g) ht16 hI (by omega)).keep fun a vs e => k9 a _ ?_ (upd_ne ?_ e), ?_⟩, n9, u9⟩
            · exact upd_ne (ne_of_none hmd2 e) (s16 _ _ (s26 _ _ e))
            · rintro rfl; rw [hit11] at e; exact hJ _ (Option.some.inj e)
            · rintro rfl; rw [hmd11] at e; cases e
            · have := stored_length_le kvs (1 + g) (Value.ref T5); omega)
    · rintro m' τ ⟨ρ', kvs, mp, l3, l4, s3, Wi, hmdi, hL, hlen⟩
      exact ⟨ρ', kvs, mp, l4, (s1.upd (s1.none_of hrr1)).trans s3, Wi.le (by omega), hmdi, hL, by omega⟩
  rintro m3 σ3 ⟨ρ3, kvs, mp, l3, s3, W3, hmd3, hL, hl3⟩
  walk_at "go"
  exact h ρ3 σ3 md kvs mp s3 W3 hmd0 hmd3 hL hl3
end
end
section
section
variable {c : Cf} {k : Nat} {m : Fields} {σ ρ : Gh} {Φ : Value → Fields → Gh → Prop} {env : Env} {f pl : Addr} {F : Gh} {B : Int}
/-- one row of a lookup of the law: a mapping, what stands behind -/
def LRow (ρ : Gh) (kind : Str) (v : Value) (t : Tab) : Prop := ∃ ta ma tb kvs, v = .ref ta ∧ ρ ta = some (.tuple [.ref ma, .int t.2 tb]) ∧ ρ ma = some (.idict kvs) ∧ LMap ρ kind kvs t.1 ∧ kvs.length ≤ 3 ∧ 0 ≤ t.2 ∧ (kind ≠ "reverse" → t.2 = 0)
theorem LRow.sub {ρ' : Gh} {kind : Str} {v : Value} {t : Tab} (h : LRow ρ kind v t) (hs : Sub ρ ρ') : LRow ρ' kind v t := by
  obtain ⟨ta, ma, tb, kvs, e1, e2, e3, e4, e5⟩ := h
  exact ⟨ta, ma, tb, kvs, e1, hs _ _ e2, hs _ _ e3, e4.sub hs, e5⟩
theorem LRow.keep {ρ' : Gh} {kind : Str} {v : Value} {t : Tab} (h : LRow ρ kind v t) (hs : ∀ a vs, ρ a = some (.tuple vs) → ρ' a = some (.tuple vs)) (hd : ∀ a vs, ρ a = some (.idict vs) → ρ' a = some (.idict vs)) : LRow ρ' kind v t := by
  obtain ⟨ta, ma, tb, kvs, e1, e2, e3, e4, e5⟩ := h
  exact ⟨ta, ma, tb, kvs, e1, hs _ _ e2, hd _ _ e3, e4.keep hs, e5⟩
def LRows (ρ : Gh) (kind : Str) (vs : List Value) (ts : List Tab) : Prop := vs.length = ts.length ∧ ∀ (j : Nat) v t, vs[j]? = some v → ts[j]? = some t → LRow ρ kind v t
theorem LRows.snoc {kind : Str} {vs : List Value} {ts : List Tab} {v : Value} {t : Tab} (h : LRows ρ kind vs ts) (hv : LRow ρ kind v t) : LRows ρ kind (vs ++ [v]) (ts ++ [t]) := by
  refine ⟨by simp [h.1], fun j w u e1 e2 => ?_⟩
  by_cases hj : j < vs.length
  · rw [List.getElem?_append_left hj] at e1
    rw [List.getElem?_append_left (h.1 ▸ hj)] at e2
    exact h.2 j w u e1 e2
  · rw [List.getElem?_append_right (by omega)] at e1
    rw [List.getElem?_append_right (by have := h.1; omega)] at e2
    have e1' := List.mem_of_getElem? e1
    have e2' := List.mem_of_getElem? e2
    rw [List.mem_singleton] at e1' e2'
    rw [e1', e2']; exact hv
theorem LRows.keep {ρ' : Gh} {kind : Str} {vs : List Value} {ts : List Tab} (h : LRows ρ kind vs ts) (k : ∀ v t, LRow ρ kind v t → LRow ρ' kind v t) : LRows ρ' kind vs ts := ⟨h.1, fun j v t e1 e2 => k v t (h.2 j v t e1 e2)⟩
/-- a lookup of the law -/
structure LLk (ρ : Gh) (tp : Addr) (d : Lk) : Prop where
  at_ : ∃ tk tf rl vs, ρ tp = some (.tuple [.str d.kind tk, .int d.fl tf, .ref rl]) ∧ ρ rl = some (.xlist vs) ∧ LRows ρ d.kind vs d.tabs
  kd : KindOk d.kind
  fl : d.fl = 0 ∨ d.fl = 2 ∨ d.fl = 8
  few : d.tabs.length ≤ 3
theorem LLk.sub {ρ' : Gh} {tp : Addr} {d : Lk} (h : LLk ρ tp d) (hs : Sub ρ ρ') : LLk ρ' tp d := by
  obtain ⟨tk, tf, rl, vs, h1, h2, h3⟩ := h.at_
  exact ⟨⟨tk, tf, rl, vs, hs _ _ h1, hs _ _ h2, h3.keep fun v t q => q.sub hs⟩, h.kd, h.fl, h.few⟩
theorem pick5s {a b d e g : Str} {t1 t2 t3 t4 t5 : Tok} {r : Int} (h0 : 0 ≤ r) (h1 : r < 5) : ∃ kd t, [Value.str a t1, .str b t2, .str d t3, .str e t4, .str g t5][r.toNat]? = some (.str kd t) ∧ (kd = a ∨ kd = b ∨ kd = d ∨ kd = e ∨ kd = g) := by
  have : r = 0 ∨ r = 1 ∨ r = 2 ∨ r = 3 ∨ r = 4 := by omega
  rcases this with rfl | rfl | rfl | rfl | rfl
  · exact ⟨_, _, rfl, .inl rfl⟩
  · exact ⟨_, _, rfl, .inr (.inl rfl)⟩
  · exact ⟨_, _, rfl, .inr (.inr (.inl rfl))⟩
  · exact ⟨_, _, rfl, .inr (.inr (.inr (.inl rfl)))⟩
  · exact ⟨_, _, rfl, .inr (.inr (.inr (.inr rfl)))⟩
theorem pick3i {a b d : Int} {t1 t2 t3 : Tok} {r : Int} (h0 : 0 ≤ r) (h1 : r < 3) : ∃ x t, [Value.int a t1, .int b t2, .int d t3][r.toNat]? = some (.int x t) ∧ (x = a ∨ x = b ∨ x = d) := by
  have : r = 0 ∨ r = 1 ∨ r = 2 := by omega
  rcases this with rfl | rfl | rfl
  · exact ⟨_, _, rfl, .inl rfl⟩
  · exact ⟨_, _, rfl, .inr (.inl rfl)⟩
  · exact ⟨_, _, rfl, .inr (.inr rfl)⟩
theorem pick5i {a b d e g : Int} {t1 t2 t3 t4 t5 : Tok} {r : Int} (h0 : 0 ≤ r) (h1 : r < 5) : ∃ kd t, [Value.int a t1, .int b t2, .int d t3, .int e t4, .int g t5][r.toNat]? = some (.int kd t) ∧ (kd = a ∨ kd = b ∨ kd = d ∨ kd = e ∨ kd = g) := by
  have : r = 0 ∨ r = 1 ∨ r = 2 ∨ r = 3 ∨ r = 4 := by omega
  rcases this with rfl | rfl | rfl | rfl | rfl
  · exact ⟨_, _, rfl, .inl rfl⟩
  · exact ⟨_, _, rfl, .inr (.inl rfl)⟩
  · exact ⟨_, _, rfl, .inr (.inr (.inl rfl))⟩
  · exact ⟨_, _, rfl, .inr (.inr (.inr (.inl rfl)))⟩
  · exact ⟨_, _, rfl, .inr (.inr (.inr (.inr rfl)))⟩
theorem TkW.bump {a : Addr} (A : AO) (W : TkW ρ σ pl B) (h : σ a = none) : ∃ ρ', TkW ρ' (upd σ a A) pl B ∧ Sub ρ ρ' ∧ ρ' a = some A ∧ ρ a = none :=
  ⟨_, W.new h, (Sub.refl ρ).upd (W.sub.none_of h), upd_same _ _ _, W.sub.none_of h⟩
theorem sub_put {a : Addr} {A : AO} (h : Sub ρ σ) (e : σ a = some A) : Sub (upd ρ a A) σ := fun x X q => by
  unfold upd at q
  split at q
  · rename_i p; cases q; rw [p]; exact e
  · exact h _ _ q
theorem sp_law_lookup (C : Cx c (k + 3)) (W : TkW ρ σ pl B) (T : TakeS c.w f pl F) (hF : Sub F ρ) (hB : B ≤ 180)
    (h : ∀ ρ' σ' tp d, Sub ρ ρ' → TkW ρ' σ' pl (B + 57) → ρ tp = none → LLk ρ' tp d → (∃ tk tf rl, ρ' tp = some (.tuple [.str d.kind tk, .int d.fl tf, .ref rl]) ∧ ρ rl = none) → Φ (.ref tp) m σ') :
    WP c (call (.ref 823) [.ref f]) Φ m σ := by
  refine wp_call ?_
  refine' enter [(Str.ofString "take", .ref f)] C ?ho ?hcd ?hb ?hloc ?_ ?hco ?hgen ?hk ?hcell
  walk_at "enter"
  case hb => exact fun s X => BindsTo.of_eq rfl
  intro A' h₀' L' C' E'
  refine ws_then (fun m' σ' => ∃ kd tk ρ', lk m' "take" = some (.ref f) ∧ lk m' "kind" = some (.str kd tk) ∧ KindOk kd ∧ Sub ρ ρ' ∧ TkW ρ' σ' pl (B + 1)) ?_ ?_
  · walk_at "go"
    intro T1 hT1
    obtain ⟨ρ2, W2, s2, e2, n2⟩ := W.bump (.tuple _) hT1
    have hF2 := hF.trans s2
    generalize upd σ T1 _ = σ2 at W2 ⊢
    walk_at "go"
    rename_i tc r tr σ3 r0 r1 W3
    obtain ⟨kd, tk, hx, hkd⟩ := pick5s r0 r1
    walk_at "go"
    exact ⟨kd, tk, ρ2, by walk_at "lk", by walk_at "lk", hkd, s2, W3⟩
  rintro m2 σ2 ⟨kd, tk, ρ2, l1, l2, hkd, s2, W2⟩
  have hF2 := hF.trans s2
  refine ws_then (fun m' σ' => ∃ fl tf ρ', lk m' "take" = some (.ref f) ∧ lk m' "kind" = some (.str kd tk) ∧ lk m' "flag" = some (.int fl tf) ∧ (fl = 0 ∨ fl = 2 ∨ fl = 8) ∧ Sub ρ ρ' ∧ TkW ρ' σ' pl (B + 2)) ?_ ?_
  · walk_at "go"
    rename_i t1 t2 t3
    intro T1 hT1
    obtain ⟨ρ3, W3, s3, e3, n3⟩ := W2.bump (.tuple [.int 0 t1, .int 2 t2, .int 8 t3]) hT1
    have hF3 := hF2.trans s3
    generalize upd σ2 T1 _ = σ3 at W3 ⊢
    walk_at "go"
    rename_i r tr σ4 r0 r1 W4
    obtain ⟨fl, tf, hx, hfl⟩ := pick3i (a := 0) (b := 2) (d := 8) (t1 := t1) (t2 := t2) (t3 := t3) r0 r1
    walk_at "go"
    exact ⟨fl, tf, ρ3, by walk_at "lk", by walk_at "lk", by walk_at "lk", hfl, s2.trans s3, W4.le (by omega)⟩
  clear l1 l2 s2 W2 hF2
  rintro m3 σ3 ⟨fl, tf, ρ3, l1, l2, l3, hfl, s3, W3⟩
  have hF3 := hF.trans s3
  refine ws_then (fun m' σ' => ∃ rl ρ', lk m' "take" = some (.ref f) ∧ lk m' "kind" = some (.str kd tk) ∧ lk m' "flag" = some (.int fl tf) ∧ lk m' "rows" = some (.ref rl) ∧ Sub ρ3 ρ' ∧ TkW ρ' σ' pl (B + 2) ∧ ρ' rl = some (.xlist []) ∧ ρ3 rl = none) ?_ ?_
  · walk_at "go"
    rename_i rl hrl
    obtain ⟨ρ4, W4, s4, e4, n4⟩ := W3.bump (.xlist []) hrl
    exact ⟨rl, ρ4, by walk_at "lk", by walk_at "lk", by walk_at "lk", by walk_at "lk", s4, W4, e4, n4⟩
  clear l1 l2 l3
  rintro m4 σ4 ⟨rl, ρ4, l1, l2, l3, l4, s4, W4, hrl, hrl3⟩
  have hF4 := hF3.trans s4
  refine ws_then (fun m' σ' => ∃ vs ts ρ', lk m' "kind" = some (.str kd tk) ∧ lk m' "flag" = some (.int fl tf) ∧ lk m' "rows" = some (.ref rl) ∧ Sub ρ3 ρ' ∧ TkW ρ' σ' pl (B + 57) ∧ ρ' rl = some (.xlist vs) ∧ LRows ρ' kd vs ts ∧ ts.length ≤ 3) ?_ ?_
  · walk_at "go"
    rename_i tc r tr σ5 r0 r1 W5 t1 rr q1 q2 q3 hrr
    have hn : 1 + r = ((1 + r).toNat : Int) := by omega
    rw [hn]
    have hn3 : (1 + r).toNat ≤ 3 := by omega
    generalize (1 + r).toNat = n at hn3 ⊢
    obtain ⟨ρ6, W6, s6, e6, n6⟩ := W5.bump (.raw (rangeO 0 n 1 q1 q2 q3)) hrr
    have hrl6 := s6 _ _ hrl
    have n63 := s4.none_of n6
    have hs36 : Sub (upd ρ3 rr (.raw (rangeO 0 n 1 q1 q2 q3))) ρ6 := sub_put (s4.trans s6) e6
    refine ⟨rI n, n, rItem, fun i m' τ => ∃ ρ' vs ts, lk m' "take" = some (.ref f) ∧ lk m' "kind" = some (.str kd tk) ∧ lk m' "flag" = some (.int fl tf) ∧ lk m' "rows" = some (.ref rl) ∧ Sub (upd ρ3 rr (.raw (rangeO 0 n 1 q1 q2 q3))) ρ' ∧ TkW ρ' τ pl (B + 3 + 18 * i) ∧ ρ' rl = some (.xlist vs) ∧ LRows ρ' kd vs ts ∧ ts.length = i, ?_, ?_, ?_, ?_⟩
    · exact ⟨ρ6, [], [], l1, l2, l3, l4, hs36, W6.le (by omega), hrl6, ⟨rfl, fun j v t e => by cases e⟩, rfl⟩
    · rintro i m' τ ⟨ρ', vs, ts, _, _, _, _, hs, Wi, _⟩
      exact Src.up (Wi.sub _ _ (hs _ _ (upd_same _ _ _))) (by omega)
    · rintro it hit i v m' τ hi hv ⟨ρ', vs, ts, g1, g2, g3, g4, si, Wi, hrli, hR, hlen⟩ hτ
      obtain ⟨tv, rfl⟩ := hv
      have hρ' := Wi.sub.none_of hτ
      have hJ : ∀ vs, rI n (i + 1) ≠ .tuple vs := fun vs e => by cases e
      have hJ2 : ∀ vs, rI n (i + 1) ≠ .idict vs := fun vs e => by cases e
      generalize rI n (i + 1) = J at hJ hJ2 ⊢
      obtain ⟨ρ7, W7, s7, hit7, n7⟩ := Wi.bump J hτ
      have hrl7 := s7 _ _ hrli
      have hR7 : LRows ρ7 kd vs ts := hR.keep fun v t q => q.sub s7
      have hnrl : rl ≠ it := ne_of_none hρ' hrli
      have hi0 := si.none_of hρ'
      have si7 := si.trans s7
      have hF7 : Sub F ρ7 := (hF3.trans ((Sub.refl ρ3).upd n63)).trans si7
      clear hR hrli hρ' Wi hτ
      generalize upd τ it J = σ7 at W7 ⊢
      walk_at "go"
      refine sp_law_mapping C' W7 T hF7 (by omega) fun ρ8 σ8 md kvs mp s8 W8 hmd0 hmd hL hkl => ?_
      have hF8 := hF7.trans s8
      walk_at "go"
      rename_i ta hkr ra tb σa ra0 ra1 Wa tc' hra htrue td rb te σx rb0 rb1 Wx' tbh sp hsp
      have Wx := Wx'.le (B' := B + 3 + 18 * i + 18) (by omega)
      obtain ⟨bh, hbh⟩ : ∃ bh, bh = 1 + rb := ⟨_, rfl⟩
      rw [← hbh]
      have hb0 : 0 ≤ bh := by omega
      have hbk : kd ≠ "reverse" → bh = 0 := fun q => absurd hkr q
      rotate_left
      rename_i ta hkr ra tb σx ra0 ra1 Wx' tc' hra htrue tbh sp hsp
      have Wx := Wx'.le (B' := B + 3 + 18 * i + 18) (by omega)
      obtain ⟨bh, hbh⟩ : ∃ bh : Int, bh = 0 := ⟨_, rfl⟩
      rw [show AO.tuple [Value.ref md, Value.int 0 tbh] = AO.tuple [Value.ref md, Value.int bh tbh] from by rw [hbh]]
      have hb0 : 0 ≤ bh := by omega
      have hbk : kd ≠ "reverse" → bh = 0 := fun q => absurd hkr q
      rotate_left
      rename_i ta hkr htrue tbh sp hsp
      have Wx := W8.le (B' := B + 3 + 18 * i + 18) (by omega)
      obtain ⟨bh, hbh⟩ : ∃ bh : Int, bh = 0 := ⟨_, rfl⟩
      rw [show AO.tuple [Value.ref md, Value.int 0 tbh] = AO.tuple [Value.ref md, Value.int bh tbh] from by rw [hbh]]
      have hb0 : 0 ≤ bh := by omega
      have hbk : kd ≠ "reverse" → bh = 0 := fun q => hbh
      generalize σ8 = σx at Wx hsp ⊢
      rotate_left
      all_goals (
        obtain ⟨ρa, Wa, sa, ea, na⟩ := Wx.bump (.tuple [.ref md, .int bh tbh]) hsp
        generalize upd σx sp _ = σ9 at Wa ⊢
        have s7a := s8.trans sa
        have hrla := s7a _ _ hrl7
        refine append_x (Wa.sub _ _ hrla) (by rw [sizeLine_eq, hR7.1]; omega) (ws_nil ?_)
        have Wb := Wa.set (A' := .xlist (vs ++ [.ref sp])) hrla
        obtain ⟨ρ9, σ10, W9, n9, u9, k9⟩ := Wb.close (it := it) (upd_ne hnrl.symm (s7a _ _ hit7))
        have hrow : LRow ρa kd (.ref sp) (mp, bh) := ⟨sp, md, tbh, kvs, rfl, ea, sa _ _ hmd, hL.sub sa, hkl, hb0, hbk⟩
        have hR2 := (LRows.keep hR7 fun v t q => q.sub s7a).snoc hrow
        have hita := s7a _ _ hit7
        refine ⟨σ10, ⟨ρ9, vs ++ [.ref sp], ts ++ [(mp, bh)], by walk_at "lk", by walk_at "lk", by walk_at "lk", by walk_at "lk", fun a A e => k9 a A (ne_of_none hi0 e) (upd_ne ?_ ((si7.trans s7a) _ _ e)), W9.le (by omega), k9 _ _ hnrl (upd_same _ _ _), hR2.keep fun v t q => q.keep (fun a w e => k9 _ _ ?_ (upd_ne ?_ e)) (fun a w e => k9 _ _ ?_ (upd_ne ?_ e)), by simp; omega⟩, n9, u9⟩
        · exact ne_of_none (upd_none hrl3 (ne_of_none n6 hrl)) e
        · rintro rfl; rw [hita] at e; exact hJ _ (Option.some.inj e)
        · rintro rfl; rw [hrla] at e; cases e
        · rintro rfl; rw [hita] at e; exact hJ2 _ (Option.some.inj e)
        · rintro rfl; rw [hrla] at e; cases e)
    · rintro m' τ ⟨ρ', vs, ts, g1, g2, g3, g4, si, Wi, hrli, hR, hlen⟩
      exact ⟨vs, ts, ρ', g2, g3, g4, ((Sub.refl ρ3).upd n63).trans si, Wi.le (by omega), hrli, hR, by omega⟩
  clear l1 l2 l3 l4 s4 W4 hrl hF4
  rintro m5 σ5 ⟨vs, ts, ρ5, l1, l2, l3, s5, W5, hrl, hR, hts⟩
  walk_at "go"
  intro tp htp
  obtain ⟨ρ6, W6, s6, e6, n6⟩ := W5.bump (.tuple [.str kd tk, .int fl tf, .ref rl]) htp
  exact h ρ6 _ tp ⟨kd, fl, ts⟩ ((s3.trans s5).trans s6) W6 ((s3.trans s5).none_of n6) ⟨⟨tk, tf, rl, vs, e6, s6 _ _ hrl, hR.keep fun v t q => q.sub s6⟩, hkd, hfl, hts⟩ ⟨tk, tf, rl, e6, s3.none_of hrl3⟩
end
end
section
section
variable {c : Cf} {k : Nat} {m : Fields} {σ ρ : Gh} {Φ : Value → Fields → Gh → Prop} {env : Env}
theorem sp_single_new {a : Addr} (C : Cx c (k + 2)) (h : ∀ x d, σ x = none → σ d = none → x ≠ d → Φ (.ref x) m (upd (upd σ d (.attrs [("mapping", .ref a)])) x (.inst 529 d))) : WC c (.ref 529) [.ref a] Φ m σ := by
  refine' wp_new C ?q1 ?q2 ?q3 ?_
  case q1 => k_is
  case q2 => k_is
  case q3 => k_is
  intro x d A' C' hx hd hxd
  refine' enter [(Str.ofString "self", .ref x), (Str.ofString "mapping", .ref a)] C' ?ho ?hcd ?hb ?hloc ?_ ?hco ?hgen ?hk ?hcell
  walk_at "enter"
  case hb => exact fun s X => BindsTo.of_eq rfl
  intro A2 h2 L2 C2 E2
  walk_at "go"
  exact ⟨rfl, h x d hx hd hxd⟩
theorem sp_multiple_new {a : Addr} (C : Cx c (k + 2)) (h : ∀ x d, σ x = none → σ d = none → x ≠ d → Φ (.ref x) m (upd (upd σ d (.attrs [("mapping", .ref a)])) x (.inst 555 d))) : WC c (.ref 555) [.ref a] Φ m σ := by
  refine' wp_new C ?q1 ?q2 ?q3 ?_
  case q1 => k_is
  case q2 => k_is
  case q3 => k_is
  intro x d A' C' hx hd hxd
  refine' enter [(Str.ofString "self", .ref x), (Str.ofString "mapping", .ref a)] C' ?ho ?hcd ?hb ?hloc ?_ ?hco ?hgen ?hk ?hcell
  walk_at "enter"
  case hb => exact fun s X => BindsTo.of_eq rfl
  intro A2 h2 L2 C2 E2
  walk_at "go"
  exact ⟨rfl, h x d hx hd hxd⟩
theorem sp_alternate_new {a : Addr} (C : Cx c (k + 2)) (h : ∀ x d, σ x = none → σ d = none → x ≠ d → Φ (.ref x) m (upd (upd σ d (.attrs [("mapping", .ref a)])) x (.inst 581 d))) : WC c (.ref 581) [.ref a] Φ m σ := by
  refine' wp_new C ?q1 ?q2 ?q3 ?_
  case q1 => k_is
  case q2 => k_is
  case q3 => k_is
  intro x d A' C' hx hd hxd
  refine' enter [(Str.ofString "self", .ref x), (Str.ofString "mapping", .ref a)] C' ?ho ?hcd ?hb ?hloc ?_ ?hco ?hgen ?hk ?hcell
  walk_at "enter"
  case hb => exact fun s X => BindsTo.of_eq rfl
  intro A2 h2 L2 C2 E2
  walk_at "go"
  exact ⟨rfl, h x d hx hd hxd⟩
theorem sp_ligature_new {a : Addr} (C : Cx c (k + 2)) (h : ∀ x d, σ x = none → σ d = none → x ≠ d → Φ (.ref x) m (upd (upd σ d (.attrs [("sets", .ref a)])) x (.inst 335 d))) : WC c (.ref 335) [.ref a] Φ m σ := by
  refine' wp_new C ?q1 ?q2 ?q3 ?_
  case q1 => k_is
  case q2 => k_is
  case q3 => k_is
  intro x d A' C' hx hd hxd
  refine' enter [(Str.ofString "self", .ref x), (Str.ofString "sets", .ref a)] C' ?ho ?hcd ?hb ?hloc ?_ ?hco ?hgen ?hk ?hcell
  walk_at "enter"
  case hb => exact fun s X => BindsTo.of_eq rfl
  intro A2 h2 L2 C2 E2
  walk_at "go"
  exact ⟨rfl, h x d hx hd hxd⟩
theorem sp_coverage_new {a : Addr} (C : Cx c (k + 2)) (h : ∀ x d, σ x = none → σ d = none → x ≠ d → Φ (.ref x) m (upd (upd σ d (.attrs [("glyphs", .ref a)])) x (.inst 738 d))) : WC c (.ref 738) [.ref a] Φ m σ := by
  refine' wp_new C ?q1 ?q2 ?q3 ?_
  case q1 => k_is
  case q2 => k_is
  case q3 => k_is
  intro x d A' C' hx hd hxd
  refine' enter [(Str.ofString "self", .ref x), (Str.ofString "glyphs", .ref a)] C' ?ho ?hcd ?hb ?hloc ?_ ?hco ?hgen ?hk ?hcell
  walk_at "enter"
  case hb => exact fun s X => BindsTo.of_eq rfl
  intro A2 h2 L2 C2 E2
  walk_at "go"
  exact ⟨rfl, h x d hx hd hxd⟩
theorem sp_classdef_new {a : Addr} (C : Cx c (k + 2)) (h : ∀ x d, σ x = none → σ d = none → x ≠ d → Φ (.ref x) m (upd (upd σ d (.attrs [("classes", .ref a)])) x (.inst 696 d))) : WC c (.ref 696) [.ref a] Φ m σ := by
  refine' wp_new C ?q1 ?q2 ?q3 ?_
  case q1 => k_is
  case q2 => k_is
  case q3 => k_is
  intro x d A' C' hx hd hxd
  refine' enter [(Str.ofString "self", .ref x), (Str.ofString "classes", .ref a)] C' ?ho ?hcd ?hb ?hloc ?_ ?hco ?hgen ?hk ?hcell
  walk_at "enter"
  case hb => exact fun s X => BindsTo.of_eq rfl
  intro A2 h2 L2 C2 E2
  walk_at "go"
  exact ⟨rfl, h x d hx hd hxd⟩
theorem sp_reverse_new {a b d0 : Addr} (C : Cx c (k + 2)) (h : ∀ x d, σ x = none → σ d = none → x ≠ d → Φ (.ref x) m (upd (upd σ d (.attrs [("mapping", .ref a), ("back", .ref b), ("ahead", .ref d0)])) x (.inst 496 d))) : WC c (.ref 496) [.ref a, .ref b, .ref d0] Φ m σ := by
  refine' wp_new C ?q1 ?q2 ?q3 ?_
  case q1 => k_is
  case q2 => k_is
  case q3 => k_is
  intro x d A' C' hx hd hxd
  refine' enter [(Str.ofString "self", .ref x), (Str.ofString "mapping", .ref a), (Str.ofString "back", .ref b), (Str.ofString "ahead", .ref d0)] C' ?ho ?hcd ?hb ?hloc ?_ ?hco ?hgen ?hk ?hcell
  walk_at "enter"
  case hb => exact fun s X => BindsTo.of_eq rfl
  intro A2 h2 L2 C2 E2
  walk_at "go"
  exact ⟨rfl, h x d hx hd hxd⟩
theorem sp_lookup_new {kind : Str} {fl : Int} {tk tf t0 : Tok} {a : Addr} (C : Cx c (k + 2)) (h : ∀ x d, σ x = none → σ d = none → x ≠ d → Φ (.ref x) m (upd (upd σ d (.attrs [("kind", .str kind tk), ("flag", .int fl tf), ("mark_set", .int 0 t0), ("tables", .ref a)])) x (.inst 43 d))) : WC c (.ref 43) [.str kind tk, .int fl tf, .int 0 t0, .ref a] Φ m σ := by
  refine' wp_new C ?q1 ?q2 ?q3 ?_
  case q1 => k_is
  case q2 => k_is
  case q3 => k_is
  intro x d A' C' hx hd hxd
  refine' enter [(Str.ofString "self", .ref x), (Str.ofString "kind", .str kind tk), (Str.ofString "flag", .int fl tf), (Str.ofString "mark_set", .int 0 t0), (Str.ofString "tables", .ref a)] C' ?ho ?hcd ?hb ?hloc ?_ ?hco ?hgen ?hk ?hcell
  walk_at "enter"
  case hb => exact fun s X => BindsTo.of_eq rfl
  intro A2 h2 L2 C2 E2
  walk_at "go"
  exact ⟨rfl, h x d hx hd hxd⟩
theorem sp_buffer_new {a : Addr} (C : Cx c (k + 2)) (h : ∀ x d t, σ x = none → σ d = none → x ≠ d → Φ (.ref x) m (upd (upd σ d (.attrs [("row", .ref a), ("is_backward", .bool false), ("last_lig", .int 0 t)])) x (.inst 186 d))) : WC c (.ref 186) [.ref a] Φ m σ := by
  refine' wp_new C ?q1 ?q2 ?q3 ?_
  case q1 => k_is
  case q2 => k_is
  case q3 => k_is
  intro x d A' C' hx hd hxd
  refine' enter [(Str.ofString "self", .ref x), (Str.ofString "infos", .ref a), (Str.ofString "is_backward", .bool false)] C' ?ho ?hcd ?hb ?hloc ?_ ?hco ?hgen ?hk ?hcell
  walk_at "enter"
  case hb => exact fun s X => binds_K X rfl (by k_is) rfl rfl rfl
  intro A2 h2 L2 C2 E2
  walk_at "go"
  exact ⟨rfl, h x d _ hx hd hxd⟩
theorem sp_coverage_of {ga : Addr} {bh : Int} {t : Tok} (C : Cx c (k + 3)) (hg : σ ga = some (.xlist [.int bh t])) (h : ∀ cv σ', Sub σ σ' → CovOk σ' cv bh → Φ (.ref cv) m σ') : WP c (call (.ref 749) [.ref ga]) Φ m σ := by
  refine wp_call ?_
  refine' enter [(Str.ofString "glyphs", .ref ga)] C ?ho ?hcd ?hb ?hloc ?_ ?hco ?hgen ?hk ?hcell
  walk_at "enter"
  case hb => exact fun s X => BindsTo.of_eq rfl
  intro A' h₀' L' C' E'
  refine ws_then (fun m' σ' => ∃ fd, lk m' "glyphs" = some (.ref ga) ∧ lk m' "found" = some (.ref fd) ∧ Sub σ σ' ∧ σ fd = none ∧ σ' fd = some (.idict [])) ?_ ?_
  · walk_at "go"
    rename_i fd hfd
    exact ⟨fd, by walk_at "lk", by walk_at "lk", (Sub.refl σ).upd hfd, hfd, upd_same _ _ _⟩
  rintro m2 σ2 ⟨fd, l1, l2, s2, hfd, hfd2⟩
  refine ws_then (fun m' σ' => lk m' "found" = some (.ref fd) ∧ Sub σ σ' ∧ σ' fd = some (.idict [(bh, .bool true)])) ?_ ?_
  · walk_at "go"
    refine ⟨fun i => .listIter ga i, 1, fun i v => [Value.int bh t][i]? = some v, fun i m' τ => lk m' "found" = some (.ref fd) ∧ Sub σ τ ∧ τ fd = some (.idict (if i = 0 then [] else [(bh, .bool true)])), ?_, ?_, ?_, ?_⟩
    · exact ⟨l2, s2, hfd2⟩
    · rintro i m' τ ⟨_, hs, _⟩
      exact .inl ⟨ga, _, rfl, .inr (hs _ _ hg), rfl, rfl, fun i v e => e⟩
    · rintro it hit i v m' τ hi hv ⟨g1, g2, g3⟩ hτ
      have : i = 0 := by omega
      subst this
      cases hv
      rw [if_pos rfl] at g3
      have hne : fd ≠ it := ne_of_none hτ g3
      have e1 : (upd τ it (AO.listIter ga (0 + 1))) fd = some (.idict []) := upd_ne hne g3
      walk_at "go"
      refine set_idict e1 (by rw [sizeLine_eq]; simp) (ws_nil ?_)
      refine ⟨upd τ fd (.idict [(bh, .bool true)]), ⟨by walk_at "lk", g2.upd hfd, upd_same _ _ _⟩, upd_none hτ hne.symm, ?_⟩
      rw [upd_comm hne.symm]
      exact Sub.refl _
    · rintro m' τ ⟨g1, g2, g3⟩
      exact ⟨g1, g2, g3⟩
  rintro m3 σ3 ⟨l3, s3, e3⟩
  walk_at "go"
  refine so_one C' e3 fun D t2 hD => ?_
  walk_at "go"
  refine tp_list (vs := [.int bh t2]) (.inr (upd_same _ _ _)) (by simp) fun D2 hD2 => ?_
  walk_at "go"
  refine wp_call (sp_coverage_new C' fun x d hx hd hxd => ?_)
  have hd2 := (Sub.refl (upd (upd σ3 D (.xlist [.int bh t2])) D2 (.tuple [.int bh t2]))).upd hd (A := AO.attrs [("glyphs", .ref D2)])
  have hx2 : (upd (upd (upd σ3 D (.xlist [.int bh t2])) D2 (.tuple [.int bh t2])) d (.attrs [("glyphs", .ref D2)])) x = none := upd_none hx hxd
  have hd3 := hd2.trans ((Sub.refl _).upd hx2 (A := .inst 738 d))
  refine h x _ (((s3.new hD).new hD2).trans hd3) ⟨D2, t2, ⟨d, upd_same _ _ _, upd_ne hxd.symm (upd_same _ _ _)⟩, hd3 _ _ (upd_same _ _ _)⟩
end
end
section
theorem vA_none {g : Int} : ∀ {kvs : List (Int × Value)}, valueAt kvs g = none ↔ g ∉ kvs.map (·.1)
  | [] => by simp [valueAt]
  | kv :: r => by
    rw [vA_cons, List.map_cons, List.mem_cons]
    by_cases h : kv.1 = g
    · simp [h]
    · rw [if_neg h, vA_none (kvs := r)]
      have : ¬ g = kv.1 := fun e => h e.symm
      simp [this]
theorem vA_idx {g : Int} {v : Value} : ∀ {kvs : List (Int × Value)}, valueAt kvs g = some v → ∃ j : Nat, kvs[j]? = some (g, v)
  | [], h => by simp [valueAt] at h
  | kv :: r, h => by
    rw [vA_cons] at h
    by_cases hk : kv.1 = g
    · rw [if_pos hk] at h
      cases h
      exact ⟨0, by rw [← hk]; rfl⟩
    · rw [if_neg hk] at h
      obtain ⟨j, hj⟩ := vA_idx h
      exact ⟨j + 1, by simpa using hj⟩
theorem vA_get {g : Int} {v : Value} : ∀ {kvs : List (Int × Value)} {j : Nat}, (kvs.map (·.1)).Nodup → kvs[j]? = some (g, v) → valueAt kvs g = some v
  | [], j, _, h => by simp at h
  | kv :: r, 0, _, h => by
    cases h
    rw [vA_cons]; simp
  | kv :: r, j + 1, hn, h => by
    rw [List.map_cons] at hn
    obtain ⟨h1, h2⟩ := List.nodup_cons.mp hn
    have h' : r[j]? = some (g, v) := by simpa using h
    have : ¬ kv.1 = g := fun e => h1 (by rw [e]; exact List.mem_map.mpr ⟨_, List.mem_of_getElem? h', rfl⟩)
    rw [vA_cons, if_neg this]
    exact vA_get h2 h'
section
variable {c : Cf} {k : Nat} {m : Fields} {σ ρ : Gh} {Φ : Value → Fields → Gh → Prop} {env : Env}
/-- a row that a ligature table's dict is made of -/
def LigRow (τ : Gh) (y : Value) (kv kv0 : Int × Value) : Prop := ∃ tp t l tp2 e, y = .ref tp ∧ τ tp = some (.tuple [.int kv.1 t, kv.2]) ∧ kv.2 = .ref l ∧ τ l = some (.xlist [.ref tp2]) ∧ τ tp2 = some (.tuple [.ref e, kv0.2]) ∧ τ e = some (.tuple []) ∧ kv.1 = kv0.1
theorem LigRow.keep {τ τ' : Gh} {y : Value} {kv kv0 : Int × Value} (h : LigRow τ y kv kv0) (k1 : ∀ a vs, τ a = some (.tuple vs) → τ' a = some (.tuple vs)) (k2 : ∀ a vs, τ a = some (.xlist vs) → τ' a = some (.xlist vs)) : LigRow τ' y kv kv0 := by
  obtain ⟨tp, t, l, tp2, e, h1, h2, h3, h4, h5, h6, h7⟩ := h
  exact ⟨tp, t, l, tp2, e, h1, k1 _ _ h2, h3, k2 _ _ h4, k1 _ _ h5, k1 _ _ h6, h7⟩
def LigRows (τ : Gh) (ys : List Value) (ks kvs : List (Int × Value)) : Prop := ys.length = ks.length ∧ ∀ (j : Nat) y kv, ys[j]? = some y → ks[j]? = some kv → ∃ kv0, kvs[j]? = some kv0 ∧ LigRow τ y kv kv0
theorem LigRows.snoc {τ : Gh} {ys : List Value} {ks kvs : List (Int × Value)} {y : Value} {kv kv0 : Int × Value} (h : LigRows τ ys ks kvs) (hi : kvs[ks.length]? = some kv0) (hr : LigRow τ y kv kv0) : LigRows τ (ys ++ [y]) (ks ++ [kv]) kvs := by
  refine ⟨by simp [h.1], fun j w u e1 e2 => ?_⟩
  by_cases hj : j < ys.length
  · rw [List.getElem?_append_left hj] at e1
    rw [List.getElem?_append_left (h.1 ▸ hj)] at e2
    exact h.2 j w u e1 e2
  · have hlt := (List.getElem?_eq_some_iff.mp e1).1
    rw [List.length_append, List.length_singleton] at hlt
    have hj' : j = ks.length := by have := h.1; omega
    rw [List.getElem?_append_right (by omega)] at e1
    rw [List.getElem?_append_right (by have := h.1; omega)] at e2
    have e1' := List.mem_of_getElem? e1
    have e2' := List.mem_of_getElem? e2
    rw [List.mem_singleton] at e1' e2'
    rw [e1', e2', hj']; exact ⟨kv0, hi, hr⟩
theorem LigRows.keep {τ τ' : Gh} {ys : List Value} {ks kvs : List (Int × Value)} (h : LigRows τ ys ks kvs) (k1 : ∀ a vs, τ a = some (.tuple vs) → τ' a = some (.tuple vs)) (k2 : ∀ a vs, τ a = some (.xlist vs) → τ' a = some (.xlist vs)) : LigRows τ' ys ks kvs :=
  ⟨h.1, fun j y kv e1 e2 => let ⟨kv0, q1, q2⟩ := h.2 j y kv e1 e2; ⟨kv0, q1, q2.keep k1 k2⟩⟩
theorem LigRows.keys {τ : Gh} {ys : List Value} {ks kvs : List (Int × Value)} (h : LigRows τ ys ks kvs) (hl : ks.length = kvs.length) : ks.map (·.1) = kvs.map (·.1) := by
  apply List.ext_getElem?
  intro j
  rw [List.getElem?_map, List.getElem?_map]
  by_cases hj : j < ks.length
  · have e1 : ks[j]? = some ks[j] := List.getElem?_eq_getElem hj
    have e2 : ys[j]? = some (ys[j]'(by rw [h.1]; exact hj)) := List.getElem?_eq_getElem _
    obtain ⟨kv0, h0, tp, t, l, tp2, e, _, _, _, _, _, _, h7⟩ := h.2 j _ _ e2 e1
    rw [e1, h0]
    simp [h7]
  · rw [List.getElem?_eq_none (by omega), List.getElem?_eq_none (by omega)]
theorem LigRows.lig {τ : Gh} {ys : List Value} {ks kvs : List (Int × Value)} {mp : Int → Option (List Int)} (h : LigRows τ ys ks kvs) (hl : ks.length = kvs.length) (hn : (kvs.map (·.1)).Nodup) (hm : MapInt kvs mp) :
    ∀ g, (mp g = none ∧ valueAt ks g = none) ∨ ∃ l tp e z t, mp g = some [z] ∧ valueAt ks g = some (.ref l) ∧ LstAt τ l [.ref tp] ∧ τ tp = some (.tuple [.ref e, .int z t]) ∧ τ e = some (.tuple []) := by
  intro g
  have hk := h.keys hl
  rcases hm g with ⟨h1, h2⟩ | ⟨z, t, h1, h2⟩
  · refine .inl ⟨h1, ?_⟩
    rw [vA_none] at h2 ⊢
    rw [hk]; exact h2
  · refine .inr ?_
    obtain ⟨j, hj⟩ := vA_idx h2
    have hlt := (List.getElem?_eq_some_iff.mp hj).1
    obtain ⟨kv, ek⟩ : ∃ kv, ks[j]? = some kv := ⟨_, List.getElem?_eq_getElem (by omega)⟩
    obtain ⟨y, ey⟩ : ∃ y, ys[j]? = some y := ⟨_, List.getElem?_eq_getElem (by rw [h.1]; omega)⟩
    obtain ⟨kv0, e0, tp, t', l, tp2, e, q1, q2, q3, q4, q5, q6, q7⟩ := h.2 j y kv ey ek
    rw [hj] at e0
    cases e0
    refine ⟨l, tp2, e, z, t, h1, ?_, .inr q4, q5, q6⟩
    refine vA_get (by rw [hk]; exact hn) (j := j) ?_
    rw [ek, ← q3]
    exact congrArg some (Prod.ext q7 rfl)
theorem close3 {it D Cn : Addr} {J : AO} {ys : List Value} {mc : Fields} (s : Sub (Fr3 ρ it J D ys Cn mc) σ) (h1 : ρ it = none) (h2 : ρ D = none) (h3 : ρ Cn = none) (d1 : it ≠ D) (d2 : it ≠ Cn) (d3 : D ≠ Cn) :
    ∃ σ', Sub ρ σ' ∧ σ' it = none ∧ σ' D = none ∧ σ' Cn = none ∧ Sub (Fr3 σ' it J D ys Cn mc) σ ∧ ∀ a A, a ≠ it → a ≠ D → a ≠ Cn → σ a = some A → σ' a = some A := by
  have e3 : σ Cn = some (.ns mc) := s _ _ (upd_same _ _ _)
  have e2 : σ D = some (.xlist ys) := s _ _ (upd_ne d3 (upd_same _ _ _))
  have e1 : σ it = some J := s _ _ (upd_ne d2 (upd_ne d1 (upd_same _ _ _)))
  refine ⟨without (without (without σ Cn) D) it, fun a A e => ?_, without_self, ?_, ?_, Fr3.of (fun x A e => ?_) e1 e2 e3, fun a A n1 n2 n3 e => ?_⟩
  · rw [without_ne (ne_of_none h1 e), without_ne (ne_of_none h2 e), without_ne (ne_of_none h3 e)]
    exact s _ _ (sub_fr3 h1 h2 h3 _ _ e)
  · rw [without_ne d1.symm]; exact without_self
  · rw [without_ne d2.symm, without_ne d3.symm]; exact without_self
  · unfold Mine.without at e
    split at e
    · cases e
    · split at e
      · cases e
      · split at e
        · cases e
        · exact e
  · rw [without_ne n1, without_ne n2, without_ne n3]; exact e
theorem new2 {x d : Addr} {A B : AO} (hd : σ d = none) (hx : σ x = none) (hxd : x ≠ d) : Sub σ (upd (upd σ d A) x B) := ((Sub.refl σ).upd hd).upd hx
theorem sp_law_table {kind : Str} {tk : Tok} {ra : Addr} {t : Tab} (C : Cx c (k + 4)) (hk : KindOk kind) (hR : LRow σ kind (.ref ra) t) (h : ∀ σ' ta, Sub σ σ' → TabOk σ' kind ta t.1 t.2 → Φ (.ref ta) m σ') :
    WP c (call (.ref 828) [.str kind tk, .ref ra]) Φ m σ := by
  obtain ⟨ra', ma, tb, kvs, e0, era, ema, hL, hkl, hb0, hbk⟩ := hR
  cases e0
  refine wp_call ?_
  refine' enterC [(Str.ofString "kind", .str kind tk), (Str.ofString "row", .ref ra)] [(Str.ofString "kind", .str kind tk)] C ?ho ?hcd ?hb ?hloc ?hnd ?hm ?_ ?hco ?hgen ?hk
  case ho => k_is
  case hcd => k_is
  case hb => exact fun s X => BindsTo.of_eq rfl
  case hloc => with_unfolding_all rfl
  case hnd => decide +kernel
  case hm => intro L'; funext y; with_unfolding_all rfl
  case hco => with_unfolding_all rfl
  case hgen => with_unfolding_all rfl
  case hk => with_unfolding_all rfl
  intro A' h₀' L' C' E' hfree
  with_unfolding_all change WS _ _ _ _ _ _ (upd σ (L' + 1) (.cell (some (.ref ra))))
  have f1 : σ (L' + 1) = none := hfree _ (adr1 _)
  have s1 : Sub σ (upd σ (L' + 1) (.cell (some (.ref ra)))) := (Sub.refl σ).upd f1
  have hc1 : (upd σ (L' + 1) (.cell (some (.ref ra)))) (L' + 1) = some (.cell (some (.ref ra))) := upd_same _ _ _
  generalize upd σ (L' + 1) (.cell (some (.ref ra))) = σ1 at s1 hc1 ⊢
  have era1 := s1 _ _ era
  have ema1 := s1 _ _ ema
  have hL1 := hL.sub s1
  rcases hk with rfl | rfl | rfl | rfl | rfl
  · walk_at "go"
    refine wp_call (sp_single_new C' fun x d hx hd hxd => ?_)
    have s2 := new2 (A := .attrs [("mapping", .ref ma)]) (B := .inst 529 d) hd hx hxd
    exact h _ x (s1.trans s2) (.inl ⟨rfl, ma, kvs, ⟨d, upd_same _ _ _, upd_ne hxd.symm (upd_same _ _ _)⟩, s2 _ _ ema1, (hL.int (.inl rfl)).1⟩)
  · walk_at "go"
    refine wp_call (sp_multiple_new C' fun x d hx hd hxd => ?_)
    have s2 := new2 (A := .attrs [("mapping", .ref ma)]) (B := .inst 555 d) hd hx hxd
    exact h _ x (s1.trans s2) (.inr (.inl ⟨rfl, ma, kvs, ⟨d, upd_same _ _ _, upd_ne hxd.symm (upd_same _ _ _)⟩, s2 _ _ ema1, (hL1.sub s2).tup (by unfold IntKd; decide)⟩))
  · walk_at "go"
    refine wp_call (sp_alternate_new C' fun x d hx hd hxd => ?_)
    have s2 := new2 (A := .attrs [("mapping", .ref ma)]) (B := .inst 581 d) hd hx hxd
    exact h _ x (s1.trans s2) (.inr (.inr (.inl ⟨rfl, ma, kvs, ⟨d, upd_same _ _ _, upd_ne hxd.symm (upd_same _ _ _)⟩, s2 _ _ ema1, (hL1.sub s2).tup (by unfold IntKd; decide)⟩)))
  · walk_at "go"
    · rename_i ba hba tc1 tc2 hb tc3 nl hnl
      refine sp_coverage_of C' (upd_same _ _ _) fun cv σ2 s2 hcv => ?_
      walk_at "go"
      rename_i aa haa
      refine wp_call (sp_reverse_new C' fun x d hx hd hxd => ?_)
      have s3 := new2 (A := .attrs [("mapping", .ref ma), ("back", .ref ba), ("ahead", .ref aa)]) (B := .inst 496 d) hd hx hxd
      have s2' : Sub σ1 σ2 := (((Sub.refl σ1).new hba).new hnl).trans s2
      have s23 := ((Sub.refl σ2).new haa).trans s3
      refine h _ x ((s1.trans s2').trans s23) (.inr (.inr (.inr (.inr ⟨rfl, ma, kvs, ba, aa, [.ref cv], ⟨d, upd_same _ _ _, upd_ne hxd.symm (upd_same _ _ _)⟩, s23 _ _ (s2' _ _ ema1), (hL.int (.inr (.inl rfl))).1, s23 _ _ (s2 _ _ (upd_ne (ne_of_none hnl (upd_same _ _ _)) (upd_same _ _ _))), s3 _ _ (upd_same _ _ _), .inr ⟨by omega, cv, rfl, hcv.sub s23⟩⟩))))
    · rename_i ba hba tc1 tc2 hb aa haa
      refine wp_call (sp_reverse_new C' fun x d hx hd hxd => ?_)
      have s3 := new2 (A := .attrs [("mapping", .ref ma), ("back", .ref ba), ("ahead", .ref aa)]) (B := .inst 496 d) hd hx hxd
      have s23 := (((Sub.refl σ1).new hba).new haa).trans s3
      refine h _ x (s1.trans s23) (.inr (.inr (.inr (.inr ⟨rfl, ma, kvs, ba, aa, [], ⟨d, upd_same _ _ _, upd_ne hxd.symm (upd_same _ _ _)⟩, s23 _ _ ema1, (hL.int (.inr (.inl rfl))).1, s3 _ _ (upd_ne (ne_of_none haa (upd_same _ _ _)) (upd_same _ _ _)), s3 _ _ (upd_same _ _ _), .inl ⟨by omega, rfl⟩⟩))))
  · walk_at "go"
    refine wp_compD C' [(Str.ofString "row", L' + 1)] ?_ ?hcl ?hce ?hki ?hna ?hfo
    case hcl => with_unfolding_all rfl
    case hce => decide
    case hki => with_unfolding_all rfl
    case hna => decide
    case hfo => intro x; with_unfolding_all rfl
    walk_at "go"
    refine ⟨ma, kvs, rfl, ema1, by omega, fun od ep hkd => ⟨fun i ys τ => ∃ ks, Sub (upd σ1 ma (.raw od)) τ ∧ ks.length = i ∧ LigRows τ ys ks kvs, fun v => [(Str.ofString "glyph", v)], ?_, ?_, ?_, ?_⟩⟩
    · exact ⟨[], Sub.refl _, rfl, rfl, fun j y kv e => by cases e⟩
    · rintro i ys τ ⟨ks, s, _⟩
      exact s _ _ (upd_same _ _ _)
    · intro it D Cn g1 g2 g3 d1 d2 d3
      refine ⟨?_, ?_⟩
      · intro i kk x t' ys τ old σ' Φ' hx hK hs ho hc h'
        refine as_store (sg_local (E'.eg.comp rfl) (by with_unfolding_all rfl) rfl hc ?_)
        rcases ho with rfl | ⟨u, rfl⟩
        · exact h'
        · have e : setF [(Str.ofString "glyph", u)] (Str.ofString "glyph") (.int kk t') = [(Str.ofString "glyph", .int kk t')] := by rw [setF_cons]; simp
          show Φ' () _ (upd σ' Cn (.ns (setF [(Str.ofString "glyph", u)] (Str.ofString "glyph") (.int kk t'))))
          rw [e]; exact h'
      · rintro i kk x t' ys τ J hx ⟨ks, s, hl, hr⟩ h1 h2 h3
        have hda := s _ _ (upd_same _ _ _)
        have s4 := sub_fr3 (J := J) (ys := ys) (mc := [(Str.ofString "glyph", .int kk t')]) h1 h2 h3
        have h1' : (Fr3 τ it J D ys Cn [(Str.ofString "glyph", .int kk t')]) it = some J := upd_ne d2 (upd_ne d1 (upd_same _ _ _))
        have h2' : (Fr3 τ it J D ys Cn [(Str.ofString "glyph", .int kk t')]) D = some (.xlist ys) := upd_ne d3 (upd_same _ _ _)
        have h3' : (Fr3 τ it J D ys Cn [(Str.ofString "glyph", .int kk t')]) Cn = some (.ns [(Str.ofString "glyph", .int kk t')]) := upd_same _ _ _
        have hda4 := s4 _ _ hda
        have hcn : L' + 1 ≠ ma := fun q => by rw [q, ema1] at hc1; cases hc1
        have hrn : ra ≠ ma := fun q => by rw [q, ema1] at era1; cases era1
        have hc4 := s4 _ _ (s _ _ (upd_ne hcn hc1))
        have era4 := s4 _ _ (s _ _ (upd_ne hrn era1))
        generalize hσ8 : Fr3 τ it J D ys Cn [(Str.ofString "glyph", .int kk t')] = σ8 at s4 h1' h2' h3' hda4 hc4 era4 ⊢
        have hx' : valueAt kvs kk = some x := vA_get hL.nd hx
        walk_at "go"
        refine sub_rawdict (upd_ne (ne_of_none (by with_reducible assumption) hda4) hda4) hkd hx' ?_
        walk_at "go"
        rename_i e he tc tp2 htp2 l hl'
        intro tp htp
        have s89 := ((((Sub.refl σ8).new he).new htp2).new hl').new htp (A := .tuple [.int kk t', .ref l])
        obtain ⟨σa, sa, n1, n2, n3, sf, ka⟩ := close3 (ρ := τ) (by rw [hσ8]; exact s89) h1 h2 h3 d1 d2 d3
        have p1 := he
        have p2 := (none_of_upd htp2).2
        have p3 := (none_of_upd (none_of_upd hl').2).2
        have p4 := (none_of_upd (none_of_upd (none_of_upd htp).2).2).2
        have kf : ∀ {a : Addr} {A : AO}, σ8 a = none → (upd (upd (upd (upd σ8 e (.tuple [])) tp2 (.tuple [.ref e, x])) l (.xlist [.ref tp2])) tp (.tuple [.int kk t', .ref l])) a = some A → σa a = some A := fun h0 e0 => ka _ _ (ne_of_none h0 h1').symm (ne_of_none h0 h2').symm (ne_of_none h0 h3').symm e0
        have w1 : l ≠ tp := ne_of_none htp (upd_same _ _ _)
        have w2 : tp2 ≠ l := ne_of_none hl' (upd_same _ _ _)
        have w3 : e ≠ tp2 := ne_of_none htp2 (upd_same _ _ _)
        have w4 : tp2 ≠ tp := ne_of_none htp (upd_ne w2 (upd_same _ _ _))
        have w5 : e ≠ l := ne_of_none hl' (upd_ne w3 (upd_same _ _ _))
        have w6 : e ≠ tp := ne_of_none htp (upd_ne w5 (upd_ne w3 (upd_same _ _ _)))
        refine ⟨rfl, σa, ⟨ks ++ [(kk, .ref l)], s.trans sa, by simp [hl], (hr.keep (fun a vs q => sa _ _ q) (fun a vs q => sa _ _ q)).snoc (kv0 := (kk, x)) (by rw [hl]; exact hx) ⟨tp, t', l, tp2, e, rfl, kf p4 (upd_same _ _ _), rfl, kf p3 (upd_ne w1 (upd_same _ _ _)), kf p2 (upd_ne w4 (upd_ne w2 (upd_same _ _ _))), kf p1 (upd_ne w6 (upd_ne w5 (upd_ne w3 (upd_same _ _ _)))), rfl⟩⟩, n1, n2, n3, sf⟩
    · rintro ys τ ⟨ks, s, hl, hr⟩ D hD
      have hma := s _ _ (upd_same _ _ _)
      have hDm : ma ≠ D := ne_of_none hD hma
      have s6 : Sub σ1 (upd (upd τ D (.xlist ys)) ma (.idict kvs)) := fun a A e => by
        by_cases ha : a = ma
        · rw [ha] at e ⊢
          rw [ema1] at e
          cases e
          exact upd_same _ _ _
        · have := s _ _ (upd_ne ha e)
          exact upd_ne ha (upd_ne (ne_of_none hD this) this)
      have hr6 : LigRows (upd (upd τ D (.xlist ys)) ma (.idict kvs)) ys ks kvs := hr.keep (fun a vs q => upd_ne (fun z => by rw [z, hma] at q; cases q) (upd_ne (ne_of_none hD q) q)) (fun a vs q => upd_ne (fun z => by rw [z, hma] at q; cases q) (upd_ne (ne_of_none hD q) q))
      have hD6 : (upd (upd τ D (.xlist ys)) ma (.idict kvs)) D = some (.xlist ys) := upd_ne hDm.symm (upd_same _ _ _)
      clear hma hD s
      generalize upd (upd τ D (.xlist ys)) ma (.idict kvs) = σ6 at s6 hr6 hD6 ⊢
      walk_at "go"
      have hks := hr6.keys hl
      refine dc_pairs (kvs := ks) C' hD6 hr6.1 (by omega) (fun j v ev => ?_) fun D2 hD2 => ?_
      · obtain ⟨kv, ek⟩ : ∃ kv, ks[j]? = some kv := ⟨_, List.getElem?_eq_getElem (by have := (List.getElem?_eq_some_iff.mp ev).1; have := hr6.1; omega)⟩
        obtain ⟨kv0, _, tp, t', l, tp2, e, q1, q2, _⟩ := hr6.2 j v kv ev ek
        exact ⟨tp, t', kv, q1, q2, ek⟩
      rw [merged_nil_of_nodup ks (by rw [hks]; exact hL.nd)]
      walk_at "go"
      refine wp_call (sp_ligature_new C' fun x d hx hd hxd => ?_)
      have s7 := (Sub.refl σ6).new hD2 (A := .idict ks)
      have s8 := new2 (A := .attrs [("sets", .ref D2)]) (B := .inst 335 d) hd hx hxd
      have s68 := s7.trans s8
      refine h _ x (s1.trans (s6.trans s68)) (.inr (.inr (.inr (.inl ⟨rfl, D2, ks, ⟨d, upd_same _ _ _, upd_ne hxd.symm (upd_same _ _ _)⟩, s8 _ _ (upd_same _ _ _), ?_⟩))))
      exact (hr6.keep (fun a vs q => s68 _ _ q) (fun a vs q => s68 _ _ q)).lig hl hL.nd (hL.int (.inr (.inr rfl))).1
end
end
section
section
variable {c : Cf} {k : Nat} {m : Fields} {σ ρ : Gh} {Φ : Value → Fields → Gh → Prop} {env : Env}
theorem cls_get (a b d e : Tok) : ClsDict (merged [] [(1, Value.int 1 a), (2, Value.int 1 b), (3, Value.int 3 d), (4, Value.int 3 e)]) := by
  intro n
  have e1 : merged [] [((1 : Int), Value.int 1 a), (2, Value.int 1 b), (3, Value.int 3 d), (4, Value.int 3 e)] = [(1, Value.int 1 a), (2, Value.int 1 b), (3, Value.int 3 d), (4, Value.int 3 e)] := rfl
  rw [e1]
  by_cases h1 : n = 1
  · subst h1; exact .inr ⟨a, rfl⟩
  by_cases h2 : n = 2
  · subst h2; exact .inr ⟨b, rfl⟩
  by_cases h3 : n = 3
  · subst h3; exact .inr ⟨d, rfl⟩
  by_cases h4 : n = 4
  · subst h4; exact .inr ⟨e, rfl⟩
  refine .inl ⟨?_, by simp [clsOf, h1, h2, h3, h4]⟩
  rw [vA_cons, vA_cons, vA_cons, vA_cons]
  rw [if_neg (Ne.symm h1), if_neg (Ne.symm h2), if_neg (Ne.symm h3), if_neg (Ne.symm h4)]
  rfl
theorem sp_law_classes (C : Cx c (k + 1)) (h : ∀ D kvs, σ D = none → ClsDict kvs → kvs.length ≤ 4 → Φ (.ref D) m (upd σ D (.idict kvs))) : WP c (call (.ref 804) []) Φ m σ := by
  refine wp_call ?_
  refine' enter [] C ?ho ?hcd ?hb ?hloc ?_ ?hco ?hgen ?hk ?hcell
  walk_at "enter"
  case hb => exact fun s X => BindsTo.of_eq rfl
  intro A' h₀' L' C' E'
  walk_at "go"
  rename_i D hD a1 a2 a3 a4 a5 a6 a7 a8
  refine ⟨[(1, .int 1 a2), (2, .int 1 a4), (3, .int 3 a6), (4, .int 3 a8)], ⟨rfl, rfl, rfl, rfl, rfl, rfl, rfl, rfl, trivial⟩, upd_same _ _ _, ?_⟩
  rw [upd_upd]
  exact h D _ hD (cls_get _ _ _ _) (Nat.le_refl _)
def pasd (n : Int) : Int := if n = 1 then 2 else if n = 3 then 8 else 1
theorem pas_get (n : Int) (a b e : Tok) : ∃ t, (valueAt (merged [] [(1, Value.int 2 a), (3, Value.int 8 b)]) n).getD (Value.int 1 e) = .int (pasd n) t := by
  by_cases h1 : n = 1
  · subst h1; exact ⟨a, rfl⟩
  by_cases h3 : n = 3
  · subst h3; exact ⟨b, rfl⟩
  refine ⟨e, ?_⟩
  have e1 : merged [] [((1 : Int), Value.int 2 a), (3, Value.int 8 b)] = [(1, Value.int 2 a), (3, Value.int 8 b)] := rfl
  rw [e1, vA_cons, vA_cons, if_neg (Ne.symm h1), if_neg (Ne.symm h3)]
  simp [pasd, h1, h3, valueAt]
theorem pas_ign {g fl : Int} (hf : fl = 0 ∨ fl = 2 ∨ fl = 8) : (fl == pasd (clsOf g)) = ign g fl := by
  unfold ign pasd
  rcases cls3 g with h | h | h <;> rw [h] <;> rcases hf with rfl | rfl | rfl <;> decide
theorem sp_law_passed {g fl : Int} {tf tg : Tok} (C : Cx c (k + 2)) (hf : fl = 0 ∨ fl = 2 ∨ fl = 8) (h : Φ (.bool (ign g fl)) m σ) : WP c (call (.ref 835) [.int fl tf, .int g tg]) Φ m σ := by
  refine wp_call (WC.forget ?_)
  refine' enter [(Str.ofString "flag", .int fl tf), (Str.ofString "glyph", .int g tg)] C ?ho ?hcd ?hb ?hloc ?_ ?hco ?hgen ?hk ?hcell
  walk_at "enter"
  case hb => exact fun s X => BindsTo.of_eq rfl
  intro A' h₀' L' C' E'
  walk_at "go"
  rename_i D hD a1 a2 a3 a4
  refine ⟨[(1, .int 2 a2), (3, .int 8 a4)], ⟨rfl, rfl, rfl, rfl, trivial⟩, upd_same _ _ _, ?_⟩
  rw [upd_upd]
  have e2 : (upd σ D (.idict (merged [] [(1, Value.int 2 a2), (3, Value.int 8 a4)]))) D = some (.idict (merged [] [(1, Value.int 2 a2), (3, Value.int 8 a4)])) := upd_same _ _ _
  have s2 : Sub σ (upd σ D (.idict (merged [] [(1, Value.int 2 a2), (3, Value.int 8 a4)]))) := (Sub.refl σ).upd hD
  generalize upd σ D (.idict (merged [] [(1, Value.int 2 a2), (3, Value.int 8 a4)])) = σ2 at e2 s2 ⊢
  walk_at "go"
  refine sp_law_classes C' fun D3 kvs hD3 hcl _ => ?_
  walk_at "go"
  rename_i _ t0 t1
  obtain ⟨t', et⟩ : ∃ t', (valueAt kvs g).getD (.int 0 t0) = .int (clsOf g) t' := by
    rcases hcl g with ⟨h1, h2⟩ | ⟨t', h1⟩
    · exact ⟨t0, by rw [h1, h2]; rfl⟩
    · exact ⟨t', by rw [h1]; rfl⟩
  rw [et]
  walk_at "go"
  obtain ⟨t2, e3⟩ := pas_get (clsOf g) a2 a4 t1
  rw [e3]
  walk_at "go"
  rw [pas_ign hf]
  exact ⟨σ, s2.trans ((Sub.refl σ2).upd hD3), h⟩
def chN (bits x : Int) : Nat → Int × Int
  | 0 => (0, 0)
  | i + 1 => if Builtin.bitAnd (bits.fdiv (2 ^ i)) 1 = 1 ∨ (chN bits x i).2 > 0 then ((chN bits x i).1 + Builtin.bitAnd (x.fdiv (2 ^ i)) 1 * 2 ^ (chN bits x i).2.toNat, (chN bits x i).2 + 1) else chN bits x i
theorem chN_bd (bits x : Int) : ∀ i, 0 ≤ (chN bits x i).2 ∧ (chN bits x i).2 ≤ i
  | 0 => by simp [chN]
  | i + 1 => by
    have := chN_bd bits x i
    unfold chN
    split
    · dsimp only; omega
    · omega
theorem chN_chz {bits x : Int} (hm : MkOk bits) (h0 : 0 ≤ x) (h7 : x ≤ 7) : (chN bits x 4).1 = chz bits x := by
  have : x = 0 ∨ x = 1 ∨ x = 2 ∨ x = 3 ∨ x = 4 ∨ x = 5 ∨ x = 6 ∨ x = 7 := by omega
  rcases hm with rfl | rfl | rfl | rfl | rfl <;> rcases this with rfl | rfl | rfl | rfl | rfl | rfl | rfl | rfl <;> decide +kernel
theorem sp_law_choice {ms bits : Int} {t1 t2 : Tok} (C : Cx c (k + 1)) (hm : MkOk bits) (h0 : 0 ≤ Builtin.bitAnd ms bits) (h7 : Builtin.bitAnd ms bits ≤ 7) (h : ∀ t, Φ (.int (chz bits (Builtin.bitAnd ms bits)) t) m σ) : WP c (call (.ref 842) [.int ms t1, .int bits t2]) Φ m σ := by
  refine wp_call (WC.forget ?_)
  refine' enter [(Str.ofString "mask", .int ms t1), (Str.ofString "bits", .int bits t2)] C ?ho ?hcd ?hb ?hloc ?_ ?hco ?hgen ?hk ?hcell
  walk_at "enter"
  case hb => exact fun s X => BindsTo.of_eq rfl
  intro A' h₀' L' C' E'
  refine ws_then (fun m' σ' => lk m' "mask" = some (.int ms t1) ∧ lk m' "bits" = some (.int bits t2) ∧ (∃ t, lk m' "number" = some (.int 0 t)) ∧ Sub σ σ') ?_ ?_
  · walk_at "go"
    exact ⟨by walk_at "lk", by walk_at "lk", ⟨_, by walk_at "lk"⟩, Sub.refl σ⟩
  rintro m2 σ2 ⟨l1, l2, ⟨tn, l3⟩, s2⟩
  refine ws_then (fun m' σ' => lk m' "mask" = some (.int ms t1) ∧ lk m' "bits" = some (.int bits t2) ∧ (∃ t, lk m' "number" = some (.int 0 t)) ∧ (∃ t, lk m' "place" = some (.int 0 t)) ∧ Sub σ σ') ?_ ?_
  · walk_at "go"
    exact ⟨by walk_at "lk", by walk_at "lk", ⟨_, by walk_at "lk"⟩, ⟨_, by walk_at "lk"⟩, s2⟩
  clear l1 l2 l3
  rintro m3 σ3 ⟨l1, l2, ⟨tn, l3⟩, ⟨tp, l4⟩, s3⟩
  refine ws_then (fun m' σ' => (∃ t, lk m' "number" = some (.int (chN bits (Builtin.bitAnd ms bits) 4).1 t)) ∧ Sub σ σ') ?_ ?_
  · walk_at "go"
    rename_i tr r q1 q2 q3 hr
    refine ⟨rI 4, 4, rItem, fun i m' τ => lk m' "mask" = some (.int ms t1) ∧ lk m' "bits" = some (.int bits t2) ∧ (∃ t, lk m' "number" = some (.int (chN bits (Builtin.bitAnd ms bits) i).1 t)) ∧ (∃ t, lk m' "place" = some (.int (chN bits (Builtin.bitAnd ms bits) i).2 t)) ∧ Sub (upd σ3 r (.raw (rangeO 0 4 1 q1 q2 q3))) τ, ?_, ?_, ?_, ?_⟩
    · exact ⟨l1, l2, ⟨_, l3⟩, ⟨_, l4⟩, Sub.refl _⟩
    · rintro i m' τ ⟨_, _, _, _, s⟩
      exact Src.up (s _ _ (upd_same _ _ _)) (by omega)
    · rintro it hit i v m' τ hi hv ⟨g1, g2, ⟨u1, g3⟩, ⟨u2, g4⟩, s⟩ hτ
      obtain ⟨tv, rfl⟩ := hv
      obtain ⟨b0, b1⟩ := chN_bd bits (Builtin.bitAnd ms bits) i
      have hsuc : chN bits (Builtin.bitAnd ms bits) (i + 1) = if Builtin.bitAnd (bits.fdiv (2 ^ i)) 1 = 1 ∨ (chN bits (Builtin.bitAnd ms bits) i).2 > 0 then ((chN bits (Builtin.bitAnd ms bits) i).1 + Builtin.bitAnd ((Builtin.bitAnd ms bits).fdiv (2 ^ i)) 1 * 2 ^ (chN bits (Builtin.bitAnd ms bits) i).2.toNat, (chN bits (Builtin.bitAnd ms bits) i).2 + 1) else chN bits (Builtin.bitAnd ms bits) i := rfl
      generalize hnn : (chN bits (Builtin.bitAnd ms bits) i).1 = nn at g3 hsuc
      generalize hpp : (chN bits (Builtin.bitAnd ms bits) i).2 = pp at g4 hsuc b0 b1
      have body : ∀ (h1 : Builtin.bitAnd (bits.fdiv (2 ^ i)) 1 = 1 ∨ pp > 0), chN bits (Builtin.bitAnd ms bits) (i + 1) = (nn + Builtin.bitAnd ((Builtin.bitAnd ms bits).fdiv (2 ^ i)) 1 * 2 ^ pp.toNat, pp + 1) := fun h1 => by rw [hsuc, if_pos h1]
      have skip : ¬ (Builtin.bitAnd (bits.fdiv (2 ^ i)) 1 = 1 ∨ pp > 0) → chN bits (Builtin.bitAnd ms bits) (i + 1) = chN bits (Builtin.bitAnd ms bits) i := fun h1 => by rw [hsuc, if_neg h1]
      walk_at "go"
      refine op_shr (by omega) fun t6 => ?_
      rw [Int.toNat_natCast]
      walk_at "go"
      · rename_i h1 _ h2 _
        rw [← hnn] at g3
        rw [← hpp] at g4
        exact ⟨τ, ⟨by walk_at "lk", by walk_at "lk", ⟨u1, by rw [skip (by simp [h1, h2])]; walk_at "lk"⟩, ⟨u2, by rw [skip (by simp [h1, h2])]; walk_at "lk"⟩, s⟩, hτ, Sub.refl _⟩
      rename_i h1 _ h2 _ _
      have hb := body (.inr h2)
      revert hb
      rotate_left
      rename_i h1 _ _
      have hb := body (.inl h1)
      revert hb
      rotate_left
      all_goals (
          intro hb
          refine op_shr (by omega) fun t7 => ?_
          rw [Int.toNat_natCast]
          walk_at "go"
          refine op_pow b0 (by rw [show Builtin.Int.intBits 2 = 2 by decide +kernel]; omega) fun t8 => ?_
          walk_at "go"
          refine op_mul (IntMulOk.of_right (PySem.intBits_le_iff.mpr ?_)) fun t9 => ?_
          · have : pp = 0 ∨ pp = 1 ∨ pp = 2 ∨ pp = 3 := by omega
            rcases this with h | h | h | h <;> rw [h] <;> decide
          walk_at "go"
          exact ⟨τ, ⟨by walk_at "lk", by walk_at "lk", ⟨_, by rw [hb]; walk_at "lk"⟩, ⟨_, by rw [hb]; walk_at "lk"⟩, s⟩, hτ, Sub.refl _⟩)
    · rintro m' τ ⟨g1, g2, g3, g4, s⟩
      exact ⟨g3, s3.trans (((Sub.refl σ3).upd hr).trans s)⟩
  rintro m4 σ4 ⟨⟨t5, l5⟩, s4⟩
  walk_at "go"
  rw [chN_chz hm h0 h7]
  exact ⟨σ, s4, h _⟩
end
end
section
section
variable {c : Cf} {k : Nat} {m : Fields} {σ ρ : Gh} {Φ : Value → Fields → Gh → Prop} {env : Env}
theorem fndI_step (fl bh : Int) {gs : List Int} {h : Nat} {g : Int} (hg : gs[h]? = some g) : fnd fl bh (gs.drop h) h = if ign g fl then fnd fl bh (gs.drop (h + 1)) (h + 1) else if bh = g then h else -1 := by
  obtain ⟨hlt, e⟩ := List.getElem?_eq_some_iff.mp hg
  rw [List.drop_eq_getElem_cons hlt, e]; rfl
theorem fndI_end (fl bh : Int) {gs : List Int} {h : Nat} (hh : gs.length ≤ h) : fnd fl bh (gs.drop h) h = -1 := by
  rw [List.drop_eq_nil_of_le hh]; rfl
/-- what _law_pieces gives -/
def PcRes (σ : Gh) (v : Value) (r : Option (List Int)) : Prop := (r = none ∧ v = .none) ∨ ∃ ps D vs, r = some ps ∧ v = .ref D ∧ σ D = some (.xlist vs) ∧ IntsAre vs ps
theorem PairsAt.get {l : Addr} {ps : List (Int × Int)} (h : PairsAt σ l ps) : ∃ vs, LstAt σ l vs ∧ vs.length = ps.length ∧ ∀ (j : Nat) p, ps[j]? = some p → ∃ tp t1 t2, vs[j]? = some (.ref tp) ∧ σ tp = some (.tuple [.int p.1 t1, .int p.2 t2]) := by
  obtain ⟨vs, h1, h2, h3⟩ := h
  refine ⟨vs, h1, h2, fun j p e => ?_⟩
  have hlt := (List.getElem?_eq_some_iff.mp e).1
  obtain ⟨v, ev⟩ : ∃ v, vs[j]? = some v := ⟨_, List.getElem?_eq_getElem (by omega)⟩
  obtain ⟨tp, t1, t2, p', rfl, e2, e3⟩ := h3 j v ev
  rw [e] at e3; cases e3
  exact ⟨tp, t1, t2, ev, e2⟩
theorem subRes_skip {kind : Str} {fl mk : Int} {gs : List Int} {i : Nat} {g ms : Int} {tabs : List Tab} {j : Nat} {t : Tab} (ht : tabs[j]? = some t) (h : tabRes kind fl mk t.1 t.2 gs i g ms = none) : subRes kind fl mk gs i g ms (tabs.drop j) = subRes kind fl mk gs i g ms (tabs.drop (j + 1)) := by
  obtain ⟨hlt, e⟩ := List.getElem?_eq_some_iff.mp ht
  rw [List.drop_eq_getElem_cons hlt, e, subRes, h]
theorem subRes_hit {kind : Str} {fl mk : Int} {gs : List Int} {i : Nat} {g ms : Int} {tabs : List Tab} {j : Nat} {t : Tab} {ps : List Int} (ht : tabs[j]? = some t) (h : tabRes kind fl mk t.1 t.2 gs i g ms = some ps) : subRes kind fl mk gs i g ms (tabs.drop j) = some ps := by
  obtain ⟨hlt, e⟩ := List.getElem?_eq_some_iff.mp ht
  rw [List.drop_eq_getElem_cons hlt, e, subRes, h]
theorem tab_none {kind : Str} {fl mk : Int} {gs : List Int} {i : Nat} {g ms : Int} {mp : Int → Option (List Int)} {bh : Int} (h : mp g = none) : tabRes kind fl mk mp bh gs i g ms = none := by
  unfold tabRes revRes altRes
  rw [h]; split
  · rfl
  · split <;> rfl
theorem sp_law_pieces {rl la : Addr} {l : List (Int × Int)} {i : Nat} {p : Int × Int} {d : Lk} {mk : Int} {ti tm : Tok} (C : Cx c (k + 4)) (hP : PairsAt σ rl l) (hi : l[i]? = some p) (hL : LLk σ la d) (hm : MkOk mk) (hms : 0 ≤ Builtin.bitAnd p.2 mk ∧ Builtin.bitAnd p.2 mk ≤ 7) (hll : l.length < 1000)
    (h : ∀ v σ', Sub σ σ' → PcRes σ' v (subRes d.kind d.fl mk (l.map Prod.fst) i p.1 p.2 d.tabs) → Φ v m σ') :
    WP c (call (.ref 849) [.ref rl, .int i ti, .ref la, .int mk tm]) Φ m σ := by
  obtain ⟨kind, fl, tabs⟩ := d
  obtain ⟨⟨tk, tf, rows, rvs, ela, erows, hrow⟩, hkd, hfl, hfew⟩ := hL
  obtain ⟨vs, hvs, hvl, hvg⟩ := hP.get
  obtain ⟨tp, t1, t2, ep, etp⟩ := hvg i p hi
  have hlt := (List.getElem?_eq_some_iff.mp hi).1
  dsimp only at ela hrow hkd hfl hfew h
  refine wp_call ?_
  refine' enter [(Str.ofString "row", .ref rl), (Str.ofString "at", .int i ti), (Str.ofString "lookup", .ref la), (Str.ofString "mask", .int mk tm)] C ?ho ?hcd ?hb ?hloc ?_ ?hco ?hgen ?hk ?hcell
  walk_at "enter"
  case hb => exact fun s X => BindsTo.of_eq rfl
  intro A' h₀' L' C' E'
  have epi : vs[((i : Nat) : Int).toNat]? = some (.ref tp) := by rw [Int.toNat_natCast]; exact ep
  refine ws_then (fun m' σ' => lk m' "row" = some (.ref rl) ∧ lk m' "at" = some (.int i ti) ∧ lk m' "mask" = some (.int mk tm) ∧ lk m' "kind" = some (.str kind tk) ∧ lk m' "flag" = some (.int fl tf) ∧ lk m' "rows" = some (.ref rows) ∧ σ = σ') ?_ ?_
  · walk_at "go"
    exact ⟨by walk_at "lk", by walk_at "lk", by walk_at "lk", by walk_at "lk", by walk_at "lk", by walk_at "lk", rfl⟩
  rintro m2 _ ⟨l1, l2, l3, l4, l5, l6, rfl⟩
  refine ws_then (fun m' σ' => lk m' "row" = some (.ref rl) ∧ lk m' "at" = some (.int i ti) ∧ lk m' "mask" = some (.int mk tm) ∧ lk m' "kind" = some (.str kind tk) ∧ lk m' "flag" = some (.int fl tf) ∧ lk m' "rows" = some (.ref rows) ∧ lk m' "glyph" = some (.int p.1 t1) ∧ lk m' "own" = some (.int p.2 t2) ∧ σ = σ') ?_ ?_
  · walk_at "go"
    exact ⟨by walk_at "lk", by walk_at "lk", by walk_at "lk", by walk_at "lk", by walk_at "lk", by walk_at "lk", by walk_at "lk", by walk_at "lk", rfl⟩
  clear l1 l2 l3 l4 l5 l6
  rintro m3 _ ⟨l1, l2, l3, l4, l5, l6, l7, l8, rfl⟩
  refine ws_then (fun m' σ' => Sub σ σ' ∧ subRes kind fl mk (l.map Prod.fst) i p.1 p.2 tabs = none) ?_ ?_
  · walk_at "go"
    refine ⟨fun i => .listIter rows i, tabs.length, fun i v => rvs[i]? = some v, fun j m' τ => lk m' "row" = some (.ref rl) ∧ lk m' "at" = some (.int i ti) ∧ lk m' "mask" = some (.int mk tm) ∧ lk m' "kind" = some (.str kind tk) ∧ lk m' "flag" = some (.int fl tf) ∧ lk m' "glyph" = some (.int p.1 t1) ∧ lk m' "own" = some (.int p.2 t2) ∧ Sub σ τ ∧
      subRes kind fl mk (l.map Prod.fst) i p.1 p.2 (tabs.drop j) = subRes kind fl mk (l.map Prod.fst) i p.1 p.2 tabs, ?_, ?_, ?_, ?_⟩
    · exact ⟨l1, l2, l3, l4, l5, l7, l8, Sub.refl _, rfl⟩
    · rintro j m' τ ⟨_, _, _, _, _, _, _, hs, _⟩
      exact .inl ⟨rows, rvs, rfl, .inr (hs _ _ erows), hrow.1, rfl, fun i v e => e⟩
    · clear l1 l2 l3 l4 l5 l6 l7 l8
      rintro it hit j v m' τ hj hv ⟨l1, l2, l3, l4, l5, l7, l8, s, hres⟩ hτ
      obtain ⟨t, ht⟩ : ∃ t, tabs[j]? = some t := ⟨_, List.getElem?_eq_getElem hj⟩
      obtain ⟨ta, ma, tb, kvs, rfl, eta, ema, hLm, hkl, hb0, hbk⟩ := hrow.2 j v t hv ht
      have s4 : Sub σ (upd τ it (.listIter rows (j + 1))) := s.trans ((Sub.refl τ).upd hτ)
      have hsub : Sub (upd τ it (.listIter rows (j + 1))) (upd τ it (.listIter rows (j + 1))) := Sub.refl _
      generalize hσ4 : upd τ it (.listIter rows (j + 1)) = σ4 at s4 hsub ⊢
      have eta4 := s4 _ _ eta
      have ema4 := s4 _ _ ema
      have etp4 := s4 _ _ etp
      have hvs4 := hvs.sub s4
      have fin : ∀ m2, lk m2 "row" = some (.ref rl) → lk m2 "at" = some (.int i ti) → lk m2 "mask" = some (.int mk tm) → lk m2 "kind" = some (.str kind tk) → lk m2 "flag" = some (.int fl tf) → lk m2 "glyph" = some (.int p.1 t1) → lk m2 "own" = some (.int p.2 t2) → tabRes kind fl mk t.1 t.2 (l.map Prod.fst) i p.1 p.2 = none → ∀ σ2, Sub σ4 σ2 →
          ∃ τ', (lk m2 "row" = some (.ref rl) ∧ lk m2 "at" = some (.int i ti) ∧ lk m2 "mask" = some (.int mk tm) ∧ lk m2 "kind" = some (.str kind tk) ∧ lk m2 "flag" = some (.int fl tf) ∧ lk m2 "glyph" = some (.int p.1 t1) ∧ lk m2 "own" = some (.int p.2 t2) ∧ Sub σ τ' ∧
            subRes kind fl mk (l.map Prod.fst) i p.1 p.2 (tabs.drop (j + 1)) = subRes kind fl mk (l.map Prod.fst) i p.1 p.2 tabs) ∧ τ' it = none ∧ Sub (upd τ' it (.listIter rows (j + 1))) σ2 :=
        fun m2 a1 a2 a3 a4 a5 a6 a7 hn σ2 hs => ⟨τ, ⟨a1, a2, a3, a4, a5, a6, a7, s, (subRes_skip ht hn).symm.trans hres⟩, hτ, by rw [hσ4]; exact hs⟩
      have hit : ∀ ps, tabRes kind fl mk t.1 t.2 (l.map Prod.fst) i p.1 p.2 = some ps → subRes kind fl mk (l.map Prod.fst) i p.1 p.2 tabs = some ps := fun ps e => hres.symm.trans (subRes_hit ht e)
      clear hres hsub
      rcases hx : valueAt kvs p.1 with _ | x
      · have hn : t.1 p.1 = none := by
          by_cases hI : IntKd kind
          · rcases (hLm.int hI).1 p.1 with ⟨q, _⟩ | ⟨z, tz, _, q⟩
            · exact q
            · rw [hx] at q; cases q
          · rcases hLm.tup hI p.1 with ⟨q, _⟩ | ⟨a, ws, ps, _, q, _⟩
            · exact q
            · rw [hx] at q; cases q
        walk_at "go"
        exact fin _ (by walk_at "lk") (by walk_at "lk") (by walk_at "lk") (by walk_at "lk") (by walk_at "lk") (by walk_at "lk") (by walk_at "lk") (tab_none hn) _ (Sub.refl _)
      rcases hkd with rfl | rfl | rfl | rfl | rfl
      · obtain ⟨z, tz, q1, q2⟩ : ∃ z tz, t.1 p.1 = some [z] ∧ x = .int z tz := by
          rcases (hLm.int (.inl rfl)).1 p.1 with ⟨_, q⟩ | ⟨z, tz, q1, q⟩
          · rw [hx] at q; cases q
          · rw [hx] at q; cases q; exact ⟨z, tz, q1, rfl⟩
        subst q2
        walk_at "go"
        rename_i D hD
        exact h _ _ (s4.trans ((Sub.refl σ4).upd hD)) (.inr ⟨[z], D, _, hit _ (by unfold tabRes; rw [if_neg (by decide), if_neg (by decide)]; exact q1), rfl, upd_same _ _ _, ints_one⟩)
      · obtain ⟨a, ws, ps, q1, q2, q3, q4, q5⟩ : ∃ a ws ps, t.1 p.1 = some ps ∧ x = .ref a ∧ σ4 a = some (.tuple ws) ∧ IntsAre ws ps ∧ ps.length ≤ 3 := by
          rcases (hLm.sub s4).tup (by unfold IntKd; decide) p.1 with ⟨_, q⟩ | ⟨a, ws, ps, q1, q, q3⟩
          · rw [hx] at q; cases q
          · rw [hx] at q; cases q; exact ⟨a, ws, ps, q1, rfl, q3⟩
        subst q2
        walk_at "go"
        have hwl : ws.length = ps.length := q4.length
        refine ls_tuple q3 (by omega) fun D hD => ?_
        exact h _ _ (s4.trans ((Sub.refl σ4).upd hD)) (.inr ⟨ps, D, _, hit _ (by unfold tabRes; rw [if_neg (by decide), if_neg (by decide)]; exact q1), rfl, upd_same _ _ _, q4⟩)
      · obtain ⟨a, ws, ps, q1, q2, q3, q4, q5⟩ : ∃ a ws ps, t.1 p.1 = some ps ∧ x = .ref a ∧ σ4 a = some (.tuple ws) ∧ IntsAre ws ps ∧ ps.length ≤ 3 := by
          rcases (hLm.sub s4).tup (by unfold IntKd; decide) p.1 with ⟨_, q⟩ | ⟨a, ws, ps, q1, q, q3⟩
          · rw [hx] at q; cases q
          · rw [hx] at q; cases q; exact ⟨a, ws, ps, q1, rfl, q3⟩
        subst q2
        have hwl : ws.length = ps.length := q4.length
        have hres2 : tabRes "alternate" fl mk t.1 t.2 (l.map Prod.fst) i p.1 p.2 = if 1 ≤ chz mk (Builtin.bitAnd p.2 mk) ∧ chz mk (Builtin.bitAnd p.2 mk) ≤ ps.length then some [ps.getD (chz mk (Builtin.bitAnd p.2 mk) - 1).toNat 0] else none := by
          unfold tabRes altRes; rw [if_neg (by decide), if_pos rfl, q1]
        walk_at "go"
        refine sp_law_choice C' hm hms.1 hms.2 fun t5 => ?_
        generalize chz mk (Builtin.bitAnd p.2 mk) = ch at hres2 ⊢
        walk_at "go"
        · rename_i hc0 _ hc1 _ _
          obtain ⟨tx, hx2⟩ := ints_getD q4 (j := (ch - 1).toNat) (by omega)
          walk_at "go"
          rename_i D hD
          exact h _ _ (s4.trans ((Sub.refl σ4).upd hD)) (.inr ⟨_, D, _, hit _ (hres2.trans (if_pos ⟨by omega, by omega⟩)), rfl, upd_same _ _ _, ints_one⟩)
        · rename_i hc0 _ hc1 _ _
          exact fin _ (by walk_at "lk") (by walk_at "lk") (by walk_at "lk") (by walk_at "lk") (by walk_at "lk") (by walk_at "lk") (by walk_at "lk") (hres2.trans (if_neg (by omega))) _ (Sub.refl _)
        · rename_i hc0 _ _ _
          exact fin _ (by walk_at "lk") (by walk_at "lk") (by walk_at "lk") (by walk_at "lk") (by walk_at "lk") (by walk_at "lk") (by walk_at "lk") (hres2.trans (if_neg (by omega))) _ (Sub.refl _)
      · obtain ⟨z, tz, q1, q2⟩ : ∃ z tz, t.1 p.1 = some [z] ∧ x = .int z tz := by
          rcases (hLm.int (.inr (.inl rfl))).1 p.1 with ⟨_, q⟩ | ⟨z, tz, q1, q⟩
          · rw [hx] at q; cases q
          · rw [hx] at q; cases q; exact ⟨z, tz, q1, rfl⟩
        subst q2
        walk_at "go"
        refine WE.mono (N' := fun m2 σ2 => ∃ (hh : Nat) (th : Tok), lk m2 "row" = some (.ref rl) ∧ lk m2 "at" = some (.int i ti) ∧ lk m2 "mask" = some (.int mk tm) ∧ lk m2 "kind" = some (.str "reverse" tk) ∧ lk m2 "flag" = some (.int fl tf) ∧ lk m2 "glyph" = some (.int p.1 t1) ∧ lk m2 "own" = some (.int p.2 t2) ∧ lk m2 "mapping" = some (.ref ma) ∧ lk m2 "behind" = some (.int t.2 tb) ∧ lk m2 "here" = some (.int hh th) ∧ σ4 = σ2 ∧ hh ≤ l.length ∧
          (t.2 > 0 → fnd fl t.2 ((l.map Prod.fst).drop (i + 1)) (i + 1) = fnd fl t.2 ((l.map Prod.fst).drop hh) hh ∧ ∀ q, l[hh]? = some q → ign q.1 fl = false)) ?_ ?_ (fun _ _ _ x => x)
        · refine we_while (wwh_ind (fun n m2 σ2 => ∃ (hh : Nat) (th : Tok), n + hh = l.length ∧ lk m2 "row" = some (.ref rl) ∧ lk m2 "at" = some (.int i ti) ∧ lk m2 "mask" = some (.int mk tm) ∧ lk m2 "kind" = some (.str "reverse" tk) ∧ lk m2 "flag" = some (.int fl tf) ∧ lk m2 "glyph" = some (.int p.1 t1) ∧ lk m2 "own" = some (.int p.2 t2) ∧ lk m2 "mapping" = some (.ref ma) ∧ lk m2 "behind" = some (.int t.2 tb) ∧ lk m2 "here" = some (.int hh th) ∧ σ4 = σ2 ∧
            fnd fl t.2 ((l.map Prod.fst).drop (i + 1)) (i + 1) = fnd fl t.2 ((l.map Prod.fst).drop hh) hh) ?_ (l.length - (i + 1)) ⟨i + 1, _, by omega, by walk_at "lk", by walk_at "lk", by walk_at "lk", by walk_at "lk", by walk_at "lk", by walk_at "lk", by walk_at "lk", by walk_at "lk", by walk_at "lk", by rw [show ((i + 1 : Nat) : Int) = (i : Int) + 1 from rfl]; walk_at "lk", rfl, rfl⟩)
          clear l1 l2 l3 l4 l5 l7 l8
          rintro n m2 _ ⟨hh, th, hn, l1, l2, l3, l4, l5, l7, l8, l9, l10, l11, rfl, hf⟩
          walk_at "go"
          · rename_i hb1 _ hb2
            have hhl : hh < l.length := by omega
            obtain ⟨q, hq⟩ : ∃ q, l[hh]? = some q := ⟨_, List.getElem?_eq_getElem hhl⟩
            have hqf : (l.map Prod.fst)[hh]? = some q.1 := by rw [List.getElem?_map, hq]; rfl
            obtain ⟨tq, u1, u2, evq, etq⟩ := hvg hh q hq
            have evq' : vs[((hh : Nat) : Int).toNat]? = some (.ref tq) := by rw [Int.toNat_natCast]; exact evq
            have etq4 := s4 _ _ etq
            walk_at "go"
            refine sp_law_passed C' hfl ?_
            walk_at "go"
            · rename_i hig _ _ _
              exact ⟨n - 1, by omega, hh + 1, _, by omega, by walk_at "lk", by walk_at "lk", by walk_at "lk", by walk_at "lk", by walk_at "lk", by walk_at "lk", by walk_at "lk", by walk_at "lk", by walk_at "lk", by rw [show ((hh + 1 : Nat) : Int) = (hh : Int) + 1 from rfl]; walk_at "lk", rfl, hf.trans (by rw [fndI_step fl t.2 hqf, if_pos hig])⟩
            · rename_i hig _
              exact ⟨hh, th, l1, l2, l3, l4, l5, l7, l8, l9, l10, l11, rfl, by omega, fun _ => ⟨hf, fun q' e => by rw [hq] at e; cases e; exact hig⟩⟩
          · rename_i hb1 _ hb2 _
            exact ⟨hh, th, l1, l2, l3, l4, l5, l7, l8, l9, l10, l11, rfl, by omega, fun _ => ⟨hf, fun q' e => absurd (List.getElem?_eq_some_iff.mp e).1 (by omega)⟩⟩
          · rename_i hb1 _
            exact ⟨hh, th, l1, l2, l3, l4, l5, l7, l8, l9, l10, l11, rfl, by omega, fun q => absurd q hb1⟩
        · clear l1 l2 l3 l4 l5 l7 l8
          rintro m2 _ ⟨hh, th, l1, l2, l3, l4, l5, l7, l8, l9, l10, l11, rfl, hhl, hf⟩
          have hres2 : tabRes "reverse" fl mk t.1 t.2 (l.map Prod.fst) i p.1 p.2 = if t.2 = 0 ∨ 0 ≤ fnd fl t.2 ((l.map Prod.fst).drop (i + 1)) (i + 1) then some [z] else none := by
            unfold tabRes revRes; rw [if_pos rfl, q1]
          walk_at "go"
          · rename_i hb1 _ hb2
            have hhl2 : hh < l.length := by omega
            obtain ⟨q, hq⟩ : ∃ q, l[hh]? = some q := ⟨_, List.getElem?_eq_getElem hhl2⟩
            have hqf : (l.map Prod.fst)[hh]? = some q.1 := by rw [List.getElem?_map, hq]; rfl
            obtain ⟨tq, u1, u2, evq, etq⟩ := hvg hh q hq
            have evq' : vs[((hh : Nat) : Int).toNat]? = some (.ref tq) := by rw [Int.toNat_natCast]; exact evq
            have etq4 := s4 _ _ etq
            obtain ⟨hf1, hf2⟩ := hf (by omega)
            have hfn : fnd fl t.2 ((l.map Prod.fst).drop hh) hh = if t.2 = q.1 then (hh : Int) else -1 := by
              rw [fndI_step fl t.2 hqf, hf2 q hq]; rfl
            rw [hf1, hfn] at hres2
            walk_at "go"
            · rename_i D hD
              exact h _ _ (s4.trans ((Sub.refl σ4).upd hD)) (.inr ⟨[z], D, _, hit _ (hres2.trans (if_pos (.inr (by rw [if_pos (by omega)]; omega)))), rfl, upd_same _ _ _, ints_one⟩)
            · exact fin _ (by walk_at "lk") (by walk_at "lk") (by walk_at "lk") (by walk_at "lk") (by walk_at "lk") (by walk_at "lk") (by walk_at "lk") (hres2.trans (if_neg (by rw [if_neg (by omega)]; omega))) _ (Sub.refl _)
          · rename_i hb1 _ hb2 _ _
            obtain ⟨hf1, hf2⟩ := hf (by omega)
            rw [hf1, fndI_end fl t.2 (by rw [List.length_map]; omega)] at hres2
            exact fin _ (by walk_at "lk") (by walk_at "lk") (by walk_at "lk") (by walk_at "lk") (by walk_at "lk") (by walk_at "lk") (by walk_at "lk") (hres2.trans (if_neg (by omega))) _ (Sub.refl _)
          · rename_i hb1 _ D hD
            exact h _ _ (s4.trans ((Sub.refl σ4).upd hD)) (.inr ⟨[z], D, _, hit _ (hres2.trans (if_pos (.inl hb1))), rfl, upd_same _ _ _, ints_one⟩)
      · obtain ⟨z, tz, q1, q2⟩ : ∃ z tz, t.1 p.1 = some [z] ∧ x = .int z tz := by
          rcases (hLm.int (.inr (.inr rfl))).1 p.1 with ⟨_, q⟩ | ⟨z, tz, q1, q⟩
          · rw [hx] at q; cases q
          · rw [hx] at q; cases q; exact ⟨z, tz, q1, rfl⟩
        subst q2
        walk_at "go"
        rename_i D hD
        exact h _ _ (s4.trans ((Sub.refl σ4).upd hD)) (.inr ⟨[z], D, _, hit _ (by unfold tabRes; rw [if_neg (by decide), if_neg (by decide)]; exact q1), rfl, upd_same _ _ _, ints_one⟩)
    · rintro m' τ ⟨_, _, _, _, _, _, _, hs, hr⟩
      rw [List.drop_length] at hr
      exact ⟨hs, hr.symm.trans rfl⟩
  rintro m4 σ4 ⟨s4, hr⟩
  walk_at "go"
  exact h _ _ s4 (.inl ⟨hr, rfl⟩)
end
end
section
section
variable {c : Cf} {k : Nat} {m : Fields} {σ ρ : Gh} {Φ : Value → Fields → Gh → Prop} {env : Env}
def PairsV (σ : Gh) (vs : List Value) (ps : List (Int × Int)) : Prop := vs.length = ps.length ∧ ∀ (j : Nat) v, vs[j]? = some v → ∃ tp t1 t2 p, v = .ref tp ∧ σ tp = some (.tuple [.int p.1 t1, .int p.2 t2]) ∧ ps[j]? = some p
theorem PairsV.at_ {vs : List Value} {ps : List (Int × Int)} {l : Addr} (h : PairsV σ vs ps) (hl : LstAt σ l vs) : PairsAt σ l ps := ⟨vs, hl, h.1, h.2⟩
theorem PairsAt.v {l : Addr} {ps : List (Int × Int)} (h : PairsAt σ l ps) : ∃ vs, LstAt σ l vs ∧ PairsV σ vs ps := let ⟨vs, h1, h2, h3⟩ := h; ⟨vs, h1, h2, h3⟩
theorem PairsV.get {vs : List Value} {ps : List (Int × Int)} (h : PairsV σ vs ps) (j : Nat) (p : Int × Int) (e : ps[j]? = some p) : ∃ tp t1 t2, vs[j]? = some (.ref tp) ∧ σ tp = some (.tuple [.int p.1 t1, .int p.2 t2]) := by
  have hlt := (List.getElem?_eq_some_iff.mp e).1
  obtain ⟨v, ev⟩ : ∃ v, vs[j]? = some v := ⟨_, List.getElem?_eq_getElem (by have := h.1; omega)⟩
  obtain ⟨tp, t1, t2, p', rfl, e2, e3⟩ := h.2 j v ev
  rw [e] at e3; cases e3
  exact ⟨tp, t1, t2, ev, e2⟩
theorem PairsV.keep {σ' : Gh} {vs : List Value} {ps : List (Int × Int)} (h : PairsV σ vs ps) (k : ∀ a ws, σ a = some (.tuple ws) → σ' a = some (.tuple ws)) : PairsV σ' vs ps :=
  ⟨h.1, fun j v e => let ⟨tp, t1, t2, p, e1, e2, e3⟩ := h.2 j v e; ⟨tp, t1, t2, p, e1, k _ _ e2, e3⟩⟩
theorem PairsV.nil : PairsV σ [] [] := ⟨rfl, fun j v e => by cases e⟩
theorem PairsV.append {vs ws : List Value} {ps qs : List (Int × Int)} (h : PairsV σ vs ps) (h' : PairsV σ ws qs) : PairsV σ (vs ++ ws) (ps ++ qs) := by
  refine ⟨by simp [h.1, h'.1], fun j v e => ?_⟩
  by_cases hj : j < vs.length
  · rw [List.getElem?_append_left hj] at e
    rw [List.getElem?_append_left (h.1 ▸ hj)]
    exact h.2 j v e
  · rw [List.getElem?_append_right (by omega)] at e
    rw [List.getElem?_append_right (by have := h.1; omega), ← h.1]
    exact h'.2 _ v e
theorem PairsV.one {tp : Addr} {t1 t2 : Tok} {p : Int × Int} (h : σ tp = some (.tuple [.int p.1 t1, .int p.2 t2])) : PairsV σ [.ref tp] [p] :=
  ⟨rfl, fun j v e => by
    have hj : j = 0 := by have := (List.getElem?_eq_some_iff.mp e).1; simp at this; exact this
    subst hj; cases e
    exact ⟨tp, t1, t2, p, rfl, h, rfl⟩⟩
theorem PairsV.take {vs : List Value} {ps : List (Int × Int)} (h : PairsV σ vs ps) (n : Nat) : PairsV σ (vs.take n) (ps.take n) := by
  refine ⟨by rw [List.length_take, List.length_take, h.1], fun j v e => ?_⟩
  rw [List.getElem?_take] at e ⊢
  split at e
  · rename_i q; rw [if_pos q]; exact h.2 j v e
  · cases e
theorem PairsV.drop {vs : List Value} {ps : List (Int × Int)} (h : PairsV σ vs ps) (n : Nat) : PairsV σ (vs.drop n) (ps.drop n) := by
  refine ⟨by rw [List.length_drop, List.length_drop, h.1], fun j v e => ?_⟩
  rw [List.getElem?_drop] at e ⊢
  exact h.2 _ v e
theorem pick_take {vs : List Value} {n : Nat} (h : n ≤ vs.length) : kms_pick vs none (some (n : Int)) = vs.take n := by
  have e1 : kms_hi (some (n : Int)) vs.length = n := by simp only [kms_hi]; split <;> omega
  have e2 : kms_lo none vs.length = 0 := rfl
  unfold kms_pick
  rw [e1, e2, List.drop_zero, Nat.sub_zero]
theorem pick_drop {vs : List Value} {n : Nat} (h : n < vs.length) : kms_pick vs (some ((n : Int) + 1)) none = vs.drop (n + 1) := by
  have e1 : kms_lo (some ((n : Int) + 1)) vs.length = n + 1 := by simp only [kms_lo]; split <;> omega
  have e2 : kms_hi none vs.length = vs.length := rfl
  unfold kms_pick
  rw [e1, e2, List.take_of_length_le (by rw [List.length_drop]; omega)]
theorem LLk.fine {tp : Addr} {d : Lk} (h : LLk ρ tp d) : d.Fine := by
  obtain ⟨tk, tf, rl, vs, h1, h2, h3, h4⟩ := h.at_
  have key : ∀ t ∈ d.tabs, ∃ kvs, LMap ρ d.kind kvs t.1 := fun t ht => by
    obtain ⟨j, hj⟩ := List.getElem?_of_mem ht
    have hlt := (List.getElem?_eq_some_iff.mp hj).1
    obtain ⟨v, ev⟩ : ∃ v, vs[j]? = some v := ⟨_, List.getElem?_eq_getElem (by omega)⟩
    obtain ⟨_, _, _, kvs, _, _, _, q, _⟩ := h4 j v t ev hj
    exact ⟨kvs, q⟩
  refine ⟨fun t ht g ps e => ?_, fun hk t ht g ps e => ?_⟩
  · obtain ⟨kvs, hm⟩ := key t ht
    by_cases hI : IntKd d.kind
    · have := (hm.int hI).2 g ps e; omega
    · rcases hm.tup hI g with ⟨q, _⟩ | ⟨a, ws, ps', q, _, _, _, q5⟩
      · rw [e] at q; cases q
      · rw [e] at q; cases q; exact q5
  · obtain ⟨kvs, hm⟩ := key t ht
    exact (hm.int (.inr (.inl hk))).2 g ps e
/-- what stands for the glyph at i -/
def oneAt (kind : Str) (fl mk : Int) (tabs : List Tab) (l : List (Int × Int)) (i : Nat) (p : Int × Int) : Option (List Int) := if tk1 mk fl p then subRes kind fl mk (l.map Prod.fst) i p.1 p.2 tabs else none
theorem oneAt_fwd {kind : Str} {fl mk : Int} {tabs : List Tab} {l : List (Int × Int)} {i : Nat} {p : Int × Int} (hk : kind ≠ "reverse") : oneAt kind fl mk tabs l i p = one kind fl mk tabs p := by
  unfold oneAt one
  rw [subRes_fwd hk]
theorem outF_one (kind : Str) (fl mk : Int) (tabs : List Tab) (p : Int × Int) : outF kind fl mk tabs [p] = ((match one kind fl mk tabs p with | none => [p.1] | some ps => ps).map fun g => (g, p.2)) := by
  unfold outF outF
  rw [List.append_nil]
  cases one kind fl mk tabs p <;> rfl
theorem cntF_one (kind : Str) (fl mk : Int) (tabs : List Tab) (p : Int × Int) : cntF kind fl mk tabs [p] = match one kind fl mk tabs p with | none => 0 | some _ => 1 := by
  unfold cntF cntF
  rw [Int.add_zero]
  cases one kind fl mk tabs p <;> rfl
theorem close1 {it : Addr} {J : AO} (h : σ it = some J) : ∃ σ', σ' it = none ∧ Sub (upd σ' it J) σ ∧ ∀ a A, a ≠ it → σ a = some A → σ' a = some A :=
  ⟨_, without_self, without_sub h, fun a A hn e => by rw [without_ne hn]; exact e⟩
theorem take_snoc {α : Type} {l : List α} {i : Nat} {p : α} (h : l[i]? = some p) : l.take (i + 1) = l.take i ++ [p] := by
  obtain ⟨hlt, e⟩ := List.getElem?_eq_some_iff.mp h
  rw [List.take_succ, h]; rfl
theorem sp_law_run_fwd {rl la : Addr} {l : List (Int × Int)} {d : Lk} {mk : Int} {tm : Tok} (C : Cx c (k + 5)) (hP : PairsAt σ rl l) (hL : LLk σ la d) (hkr : d.kind ≠ "reverse") (hm : MkOk mk) (hms : ∀ p ∈ l, 0 ≤ Builtin.bitAnd p.2 mk ∧ Builtin.bitAnd p.2 mk ≤ 7) (hll : l.length < 900)
    (h : ∀ ro D σ' t, Sub σ σ' → σ' D = some (.tuple [.ref ro, .int (cntF d.kind d.fl mk d.tabs l) t]) → PairsAt σ' ro (outF d.kind d.fl mk d.tabs l) → σ ro = none → Φ (.ref D) m σ') :
    WP c (call (.ref 854) [.ref rl, .ref la, .int mk tm]) Φ m σ := by
  have hfine := hL.fine
  obtain ⟨⟨tk, tf, rows, rvs, ela, erows, hrow⟩, hkd, hfl, hfew⟩ := id hL
  obtain ⟨vs, hvs, hvv⟩ := hP.v
  have hvl := hvv.1
  have hvg := hvv.get
  refine wp_call ?_
  refine' enterC [(Str.ofString "row", .ref rl), (Str.ofString "lookup", .ref la), (Str.ofString "mask", .int mk tm)] [(Str.ofString "mask", .int mk tm), (Str.ofString "lookup", .ref la)] C ?ho ?hcd ?hb ?hloc ?hnd ?hm ?_ ?hco ?hgen ?hk
  case ho => k_is
  case hcd => k_is
  case hb => exact fun s X => BindsTo.of_eq rfl
  case hloc => with_unfolding_all rfl
  case hnd => decide +kernel
  case hm => intro L'; funext y; with_unfolding_all rfl
  case hco => with_unfolding_all rfl
  case hgen => with_unfolding_all rfl
  case hk => with_unfolding_all rfl
  intro A' h₀' L' C' E' hfree
  with_unfolding_all change WS _ _ _ _ _ _ (upd (upd σ (L' + 1) (.cell (some (.ref rl)))) (L' + 1 + 1) (.cell none))
  have a12 := adn12 L'
  have f1 : σ (L' + 1) = none := hfree _ (adr1 _)
  have f2' : σ (L' + 1 + 1) = none := hfree _ (adr2 _)
  have s1 : Sub σ (upd σ (L' + 1) (.cell (some (.ref rl)))) := (Sub.refl σ).upd f1
  have hc1 : (upd σ (L' + 1) (.cell (some (.ref rl)))) (L' + 1) = some (.cell (some (.ref rl))) := upd_same _ _ _
  have f2 : (upd σ (L' + 1) (.cell (some (.ref rl)))) (L' + 1 + 1) = none := upd_none f2' a12
  generalize upd σ (L' + 1) (.cell (some (.ref rl))) = σb at s1 hc1 f2 ⊢
  have hca : (upd σb (L' + 1 + 1) (.cell none)) (L' + 1 + 1) = some (.cell none) := upd_same _ _ _
  have sb : Sub σb (upd σb (L' + 1 + 1) (.cell none)) := (Sub.refl σb).upd f2
  generalize upd σb (L' + 1 + 1) (.cell none) = σ1 at sb hca ⊢
  have elb := s1 _ _ ela
  have ela1 := sb _ _ elb
  have hvsb := hvs.sub s1
  have hcr1 := sb _ _ hc1
  obtain ⟨kind, fl, tabs⟩ := d
  dsimp only at ela elb ela1 hrow hkd hfl hfew h hkr ⊢
  refine ws_then (fun m' σ' => lk m' "lookup" = some (.ref la) ∧ lk m' "mask" = some (.int mk tm) ∧ (∃ t, lk m' "count" = some (.int 0 t)) ∧ σ1 = σ') ?_ ?_
  · walk_at "go"
    exact ⟨by walk_at "lk", by walk_at "lk", ⟨_, by walk_at "lk"⟩, rfl⟩
  rintro m2 _ ⟨l1, l2, ⟨tc, l3⟩, rfl⟩
  refine ws_then (fun m' σ' => lk m' "lookup" = some (.ref la) ∧ lk m' "mask" = some (.int mk tm) ∧ (∃ t, lk m' "count" = some (.int 0 t)) ∧ σ1 = σ') ?_ ?_
  · walk_at "go"
    · exact absurd ‹kind = "reverse"› hkr
    · exact ⟨l1, l2, ⟨_, l3⟩, rfl⟩
  clear l1 l2 l3
  rintro m3 _ ⟨l1, l2, ⟨tc, l3⟩, rfl⟩
  refine ws_then (fun m' σ' => lk m' "lookup" = some (.ref la) ∧ lk m' "mask" = some (.int mk tm) ∧ (∃ t, lk m' "count" = some (.int 0 t)) ∧ (∃ dl, lk m' "done" = some (.ref dl) ∧ σ' dl = some (.xlist []) ∧ σ dl = none) ∧ Sub σ1 σ') ?_ ?_
  · walk_at "go"
    rename_i dl hdl
    exact ⟨by walk_at "lk", by walk_at "lk", ⟨_, by walk_at "lk"⟩, ⟨dl, by walk_at "lk", upd_same _ _ _, (s1.trans sb).none_of hdl⟩, (Sub.refl σ1).upd hdl⟩
  clear l1 l2 l3
  rintro m4 σ4 ⟨l1, l2, ⟨tc, l3⟩, ⟨dl, l4, hdl, hdlf⟩, s4⟩
  have ela4 := s4 _ _ ela1
  have hcr4 := s4 _ _ hcr1
  have hvs4 := hvsb.sub (sb.trans s4)
  refine ws_then (fun m' σ' => ∃ dl, lk m' "done" = some (.ref dl) ∧ (∃ t, lk m' "count" = some (.int (cntF kind fl mk tabs l) t)) ∧ Sub σ σ' ∧ PairsAt σ' dl (outF kind fl mk tabs l) ∧ σ dl = none) ?_ ?_
  · have hca4 := s4 _ _ hca
    walk_at "go"
    rename_i tl r q1 q2 q3 hr
    have hvv4 : PairsV σ4 vs l := hvv.keep fun a ws e => (s1.trans (sb.trans s4)) _ _ e
    rw [hvl]
    have hrb : σb r = none := (sb.trans s4).none_of hr
    have hr1 : r ≠ L' + 1 + 1 := ne_of_none_r hr hca4
    have sbr : Sub σb (upd σb r (.raw (rangeO 0 l.length 1 q1 q2 q3))) := (Sub.refl σb).upd hrb
    have hat0 : (upd σb r (.raw (rangeO 0 l.length 1 q1 q2 q3))) (L' + 1 + 1) = none := upd_none f2 hr1.symm
    have s0 : Sub (upd σb r (.raw (rangeO 0 l.length 1 q1 q2 q3))) (upd σ4 r (.raw (rangeO 0 l.length 1 q1 q2 q3))) := sub_upd (sb.trans s4)
    have hr0 : (upd σb r (.raw (rangeO 0 l.length 1 q1 q2 q3))) r = some (.raw (rangeO 0 l.length 1 q1 q2 q3)) := upd_same _ _ _
    have hca0 : (upd σ4 r (.raw (rangeO 0 l.length 1 q1 q2 q3))) (L' + 1 + 1) = some (.cell none) := upd_ne hr1.symm hca4
    have hdl0 : (upd σ4 r (.raw (rangeO 0 l.length 1 q1 q2 q3))) dl = some (.xlist []) := upd_ne (ne_of_none hr hdl) hdl
    generalize upd σb r (.raw (rangeO 0 l.length 1 q1 q2 q3)) = σr at sbr hat0 s0 hr0
    refine ⟨rI l.length, l.length, rItem, fun i m' τ => lk m' "lookup" = some (.ref la) ∧ lk m' "mask" = some (.int mk tm) ∧ (∃ t, lk m' "count" = some (.int (cntF kind fl mk tabs (l.take i)) t)) ∧ (∃ dl ws, lk m' "done" = some (.ref dl) ∧ τ dl = some (.xlist ws) ∧ PairsV τ ws (outF kind fl mk tabs (l.take i)) ∧ σ dl = none) ∧ Sub σr τ ∧ (∃ u, τ (L' + 1 + 1) = some (.cell u)), ?_, ?_, ?_, ?_⟩
    · exact ⟨l1, l2, ⟨_, l3⟩, ⟨dl, [], l4, hdl0, .nil, hdlf⟩, s0, _, hca0⟩
    · rintro i m' τ ⟨_, _, _, _, s, _⟩
      exact Src.up (s _ _ hr0) (by omega)
    · clear l1 l2 l3 l4 hdl hdl0 hca0 hca4 s4 ela4 hcr4 hvs4 hvv4 hr hr1 s0
      rintro it hit i v m' τ hi hv ⟨l1, l2, ⟨tc, l3⟩, ⟨dl, ws, l4, hdl, hws, hdlf⟩, s, u, hat⟩ hτ
      obtain ⟨tv, rfl⟩ := hv
      have hJ : ∀ vs, rI l.length (i + 1) ≠ .tuple vs := fun vs e => by cases e
      have hJ2 : ∀ vs, rI l.length (i + 1) ≠ .xlist vs := fun vs e => by cases e
      have hJ3 : ∀ u, rI l.length (i + 1) ≠ .cell u := fun vs e => by cases e
      generalize rI l.length (i + 1) = J at hJ hJ2 hJ3 ⊢
      have hna : it ≠ L' + 1 + 1 := ne_of_none_r hτ hat
      refine as_store (sg_cell E'.eg (by with_unfolding_all rfl) (by with_unfolding_all rfl) (upd_ne hna.symm hat) ?_)
      have sr4 : Sub σr (upd (upd τ it J) (L' + 1 + 1) (.cell (some (.int i tv)))) := (s.upd (s.none_of hτ)).upd hat0
      have hat4 : (upd (upd τ it J) (L' + 1 + 1) (.cell (some (.int i tv)))) (L' + 1 + 1) = some (.cell (some (.int i tv))) := upd_same _ _ _
      have hit4 : (upd (upd τ it J) (L' + 1 + 1) (.cell (some (.int i tv)))) it = some J := upd_ne hna (upd_same _ _ _)
      have hkp : ∀ {a : Addr} {A : AO}, τ a = some A → a ≠ L' + 1 + 1 → (upd (upd τ it J) (L' + 1 + 1) (.cell (some (.int i tv)))) a = some A := fun e hn => upd_ne hn (upd_ne (ne_of_none hτ e) e)
      have hdl4 : (upd (upd τ it J) (L' + 1 + 1) (.cell (some (.int i tv)))) dl = some (.xlist ws) := hkp hdl (fun q => by rw [q, hat] at hdl; cases hdl)
      have hws4 : PairsV (upd (upd τ it J) (L' + 1 + 1) (.cell (some (.int i tv)))) ws (outF kind fl mk tabs (l.take i)) := hws.keep fun a vs e => hkp e (fun q => by rw [q, hat] at e; cases e)
      have hi0 : σr it = none := s.none_of hτ
      clear hkp hws hdl hat hτ s
      generalize upd (upd τ it J) (L' + 1 + 1) (.cell (some (.int i tv))) = σ4 at sr4 hat4 hit4 hdl4 hws4 ⊢
      have s14 : Sub σ σ4 := s1.trans (sbr.trans sr4)
      have sb4 : Sub σb σ4 := sbr.trans sr4
      have ela4 := s14 _ _ ela
      have hcr4 := sb4 _ _ hc1
      have hvs4 := hvsb.sub sb4
      obtain ⟨p, hp⟩ : ∃ p, l[i]? = some p := ⟨_, List.getElem?_eq_getElem hi⟩
      obtain ⟨tp, t1, t2, ep, etp⟩ := hvg i p hp
      have epi : vs[((i : Nat) : Int).toNat]? = some (.ref tp) := by rw [Int.toNat_natCast]; exact ep
      have etp4 := s14 _ _ etp
      obtain ⟨hms0, hms7⟩ := hms p (List.mem_of_getElem? hp)
      refine ws_then (fun m2 σ2 => lk m2 "lookup" = some (.ref la) ∧ lk m2 "mask" = some (.int mk tm) ∧ (∃ t, lk m2 "count" = some (.int (cntF kind fl mk tabs (l.take i)) t)) ∧ lk m2 "done" = some (.ref dl) ∧ lk m2 "pieces" = some .none ∧ σ4 = σ2) ?_ ?_
      · walk_at "go"
        exact ⟨by walk_at "lk", by walk_at "lk", ⟨_, by walk_at "lk"⟩, by walk_at "lk", by walk_at "lk", rfl⟩
      clear l1 l2 l3 l4
      rintro m2 _ ⟨l1, l2, ⟨tc, l3⟩, l4, l5, rfl⟩
      refine ws_then (fun m2 σ2 => lk m2 "lookup" = some (.ref la) ∧ lk m2 "mask" = some (.int mk tm) ∧ (∃ t, lk m2 "count" = some (.int (cntF kind fl mk tabs (l.take i)) t)) ∧ lk m2 "done" = some (.ref dl) ∧ (∃ pv, lk m2 "pieces" = some pv ∧ PcRes σ2 pv (oneAt kind fl mk tabs l i p)) ∧ Sub σ4 σ2) ?_ ?_
      · walk_at "go"
        · rename_i hb1
          refine sp_law_passed C' hfl ?_
          walk_at "go"
          · rename_i hig _
            have htk : tk1 mk fl p = true := by unfold tk1; rw [hig]; simp; omega
            refine sp_law_pieces C' (hP.sub s14) hp (hL.sub s14) hm ⟨hms0, hms7⟩ (by omega) fun v σ' s' hpc => ?_
            walk_at "go"
            exact ⟨by walk_at "lk", by walk_at "lk", ⟨_, by walk_at "lk"⟩, by walk_at "lk", ⟨v, by walk_at "lk", by unfold oneAt; rw [if_pos htk]; exact hpc⟩, s'⟩
          · rename_i hig _
            have htk : ¬ tk1 mk fl p = true := by unfold tk1; rw [hig]; simp
            exact ⟨l1, l2, ⟨_, l3⟩, l4, ⟨_, l5, .inl ⟨by unfold oneAt; rw [if_neg htk], rfl⟩⟩, Sub.refl _⟩
        · rename_i hb1 _
          have htk : ¬ tk1 mk fl p = true := by unfold tk1; simp; omega
          exact ⟨l1, l2, ⟨_, l3⟩, l4, ⟨_, l5, .inl ⟨by unfold oneAt; rw [if_neg htk], rfl⟩⟩, Sub.refl _⟩
      clear l1 l2 l3 l4 l5
      rintro m5 σ5 ⟨l1, l2, ⟨tc5, l3⟩, l4, ⟨pv, l5, hpc⟩, s5⟩
      rw [oneAt_fwd hkr] at hpc
      have hcr5 := s5 _ _ hcr4
      have hat5 := s5 _ _ hat4
      have hvs5 := hvs4.sub s5
      have etp5 := s5 _ _ etp4
      have hdl5 := s5 _ _ hdl4
      have hws5 := hws4.keep (fun a ws e => s5 _ _ e)
      have hit5 := s5 _ _ hit4
      have srr5 := sr4.trans s5
      have hcnt : cntF kind fl mk tabs (l.take (i + 1)) = cntF kind fl mk tabs (l.take i) + match one kind fl mk tabs p with | none => 0 | some _ => 1 := by rw [take_snoc hp, cntF_append, cntF_one]
      have hout : outF kind fl mk tabs (l.take (i + 1)) = outF kind fl mk tabs (l.take i) ++ ((match one kind fl mk tabs p with | none => [p.1] | some ps => ps).map fun g => (g, p.2)) := by rw [take_snoc hp, outF_append, outF_one]
      have hple : (match one kind fl mk tabs p with | none => [p.1] | some ps => ps).length ≤ 3 := by
        have := outF_len (kind := kind) (fl := fl) (mk := mk) hfine.le [p]
        rw [outF_one, List.length_map] at this
        exact this
      have holen : (outF kind fl mk tabs (l.take i)).length ≤ 3 * (l.take i).length := outF_len hfine.le (l.take i)
      rw [List.length_take] at holen
      clear hdl4 hws4 sr4 hit4
      refine ws_then (fun m2 σ2 => lk m2 "lookup" = some (.ref la) ∧ lk m2 "mask" = some (.int mk tm) ∧ (∃ t, lk m2 "count" = some (.int (cntF kind fl mk tabs (l.take (i + 1))) t)) ∧ lk m2 "done" = some (.ref dl) ∧ lk m2 "pieces" = some pv ∧ σ5 = σ2) ?_ ?_
      · rcases hpc with ⟨hr, rfl⟩ | ⟨ps, D, ws2, hr, rfl, hD, hI⟩
        · walk_at "go"
          exact ⟨l1, l2, ⟨_, by rw [hcnt, hr, Int.add_zero]; exact l3⟩, l4, l5, rfl⟩
        · walk_at "go"
          exact ⟨by walk_at "lk", by walk_at "lk", ⟨_, by rw [hcnt, hr]; walk_at "lk"⟩, by walk_at "lk", by walk_at "lk", rfl⟩
      clear l1 l2 l3 l4 l5
      rintro m6 _ ⟨l1, l2, ⟨tc6, l3⟩, l4, l5, rfl⟩
      generalize hqs : (match one kind fl mk tabs p with | none => [p.1] | some ps => ps) = qs at hout hple
      walk_at "go"
      refine wp_compS C' [(Str.ofString "row", L' + 1), (Str.ofString "at", L' + 1 + 1)] ?_ ?hcl ?hce ?hki ?hna ?hfo
      case hcl => with_unfolding_all rfl
      case hce => decide
      case hki => with_unfolding_all rfl
      case hna => decide
      case hfo => intro x; with_unfolding_all rfl
      refine WP.mono (Φ := fun xv m' σ' => m6 = m' ∧ Sub σ5 σ' ∧ ∃ D ws2, xv = .ref D ∧ σ' D = some (.xlist ws2) ∧ IntsAre ws2 qs) ?_ ?_
      · rcases hpc with ⟨hr, rfl⟩ | ⟨ps, D, ws2, hr, rfl, hD, hI⟩
        · rw [hr] at hqs
          walk_at "go"
          rename_i D hD
          exact ⟨rfl, (Sub.refl σ5).upd hD, D, _, rfl, upd_same _ _ _, hqs ▸ ints_one⟩
        · rw [hr] at hqs
          walk_at "go"
          exact ⟨rfl, Sub.refl _, D, ws2, rfl, hD, hqs ▸ hI⟩
      rintro xv _ σ6 ⟨rfl, s6, D, ws2, rfl, hD, hI⟩
      clear hpc hqs
      have hwl : ws2.length = qs.length := hI.length
      refine ⟨fun j => .listIter D j, ws2.length, fun j v => ws2[j]? = some v, fun j ys τ => Sub σ6 τ ∧ PairsV τ ys ((qs.take j).map fun g => (g, p.2)), fun _ v => [(Str.ofString "glyph", v)], by rw [sizeLine_eq]; omega, ⟨Sub.refl _, .nil⟩, fun j ys τ hK => ?_, fun it2 D2 Cn g1 g2 g3 d1 d2 d3 => ⟨by walk_at "asg", ?_⟩, ?_⟩
      · exact .inl ⟨D, ws2, rfl, .inr (hK.1 _ _ hD), rfl, rfl, fun i v e => e⟩
      · rintro j v ys τ hj hv ⟨s, hys⟩ h1 h2 h3
        obtain ⟨gq, tg, rfl, hgq⟩ := ints_get hI hv
        have s8 := sub_fr3 (J := .listIter D (j + 1)) (ys := ys) (mc := [(Str.ofString "glyph", .int gq tg)]) h1 h2 h3
        have h1' : (Fr3 τ it2 (.listIter D (j + 1)) D2 ys Cn [(Str.ofString "glyph", .int gq tg)]) it2 = some (.listIter D (j + 1)) := upd_ne d2 (upd_ne d1 (upd_same _ _ _))
        have h2' : (Fr3 τ it2 (.listIter D (j + 1)) D2 ys Cn [(Str.ofString "glyph", .int gq tg)]) D2 = some (.xlist ys) := upd_ne d3 (upd_same _ _ _)
        have h3' : (Fr3 τ it2 (.listIter D (j + 1)) D2 ys Cn [(Str.ofString "glyph", .int gq tg)]) Cn = some (.ns [(Str.ofString "glyph", .int gq tg)]) := upd_same _ _ _
        generalize hσ8 : Fr3 τ it2 (.listIter D (j + 1)) D2 ys Cn [(Str.ofString "glyph", .int gq tg)] = σ8 at s8 h1' h2' h3' ⊢
        have s58 := s6.trans (s.trans s8)
        have hcr8 := s58 _ _ hcr5
        have hat8 := s58 _ _ hat5
        have hvs8 := hvs5.sub s58
        have etp8 := s58 _ _ etp5
        walk_at "go"
        intro Tn hTn
        have s9 := (Sub.refl σ8).new hTn (A := .tuple [.int gq tg, .int p.2 t2])
        obtain ⟨σa, sa, n1, n2, n3, sf, ka⟩ := close3 (ρ := τ) (by rw [hσ8]; exact s9) h1 h2 h3 d1 d2 d3
        refine ⟨rfl, σa, ⟨s.trans sa, ?_⟩, n1, n2, n3, sf⟩
        rw [take_snoc hgq, List.map_append]
        exact (hys.keep fun a vs e => sa _ _ e).append (PairsV.one (p := (gq, p.2)) (ka _ _ (ne_of_none hTn h1').symm (ne_of_none hTn h2').symm (ne_of_none hTn h3').symm (upd_same _ _ _)))
      · rintro ys τ ⟨s, hys⟩ hy D2 hD2
        have s5τ := s6.trans s
        rw [hwl, List.take_length] at hys
        refine op_cat (vs := ws) (ws := ys) (.inr (upd_ne (ne_of_none hD2 (s5τ _ _ hdl5)) (s5τ _ _ hdl5))) (.inr (upd_same _ _ _)) (by rw [sizeLine_eq, hws5.1]; have := hys.1; rw [List.length_map] at this; omega) fun r2 hr2 => ?_
        have sfin := (s5τ.new hD2 (A := .xlist ys)).new hr2 (A := .xlist (ws ++ ys))
        have sτ := ((Sub.refl τ).new hD2 (A := .xlist ys)).new hr2 (A := .xlist (ws ++ ys))
        obtain ⟨σc, nc, uc, kc⟩ := close1 (sfin _ _ hit5)
        walk_at "go"
        have hitf := sfin _ _ hit5
        have hr2i : r2 ≠ it := (ne_of_none hr2 (upd_ne (ne_of_none hD2 (s5τ _ _ hit5)) (s5τ _ _ hit5))).symm
        have kt : ∀ a vs, (upd (upd τ D2 (.xlist ys)) r2 (.xlist (ws ++ ys))) a = some (.tuple vs) → σc a = some (.tuple vs) := fun a vs e => kc _ _ (fun q => by rw [q, hitf] at e; exact hJ _ (Option.some.inj e)) e
        refine ⟨σc, ⟨by walk_at "lk", by walk_at "lk", ⟨_, by walk_at "lk"⟩, ⟨r2, ws ++ ys, by walk_at "lk", kc _ _ hr2i (upd_same _ _ _), ?_, (s14.trans (s5.trans s5τ)).none_of (none_of_upd hr2).2⟩, fun a A e => kc a A (ne_of_none hi0 e) (sfin _ _ (srr5 _ _ e)), _, kc _ _ hna.symm (sfin _ _ hat5)⟩, nc, uc⟩
        rw [hout]
        exact (hws5.keep fun a vs e => kt _ _ (sfin _ _ e)).append (hys.keep fun a vs e => kt _ _ (sτ _ _ e))
    · rintro m' τ ⟨l1, l2, ⟨tc, l3⟩, ⟨dl, ws, l4, hdl, hws, hdlf⟩, s, _⟩
      rw [List.take_length] at hws l3
      exact ⟨dl, l4, ⟨_, l3⟩, s1.trans (sbr.trans s), hws.at_ (.inr hdl), hdlf⟩
  clear l1 l2 l3 l4 hdl s4
  rintro m5 σ5 ⟨dl, l1, ⟨t, l2⟩, s5, hR, hdlf⟩
  walk_at "go"
  intro D hD
  exact h dl D _ t (s5.trans ((Sub.refl σ5).upd hD)) (upd_same _ _ _) (hR.sub ((Sub.refl σ5).upd hD)) hdlf
end
end
section
section
variable {c : Cf} {k : Nat} {m : Fields} {σ ρ : Gh} {Φ : Value → Fields → Gh → Prop} {env : Env}
/-- a range downward -/
def rD (n : Nat) : Nat → AO := fun i => .rangeIter ((n : Int) - 1 + (i : Nat) * (-1)) ((n : Int) - (i : Nat)) (-1)
def rDItem (n : Nat) : Nat → Value → Prop := fun i v => ∃ t, v = .int ((n : Int) - 1 + (i : Nat) * (-1)) t
theorem Src.down {r : Addr} {n : Nat} {t1 t2 t3 : Tok} (h : σ r = some (.raw (rangeO ((n : Int) - 1) (-1) (-1) t1 t2 t3))) (hn : n < 2 ^ 60) : Src σ (.ref r) (rD n) n (rDItem n) := by
  obtain ⟨a1, a2⟩ := rs_dn n hn
  exact .inr (.inr ⟨r, (n : Int) - 1, -1, -1, t1, t2, t3, rfl, h, a1, a2, rfl, fun i t => ⟨t, rfl⟩⟩)
theorem stepB_one {kind : Str} {fl mk : Int} {tabs : List Tab} {l : List (Int × Int)} {i : Nat} {p : Int × Int} (hp : l[i]? = some p) : stepB kind fl mk tabs l i = match oneAt kind fl mk tabs l i p with | none => (l, 0) | some ps => (splice l i ps p.2, 1) := by
  unfold stepB oneAt
  simp only [hp]
  cases h : (if tk1 mk fl p = true then subRes kind fl mk (l.map Prod.fst) i p.1 p.2 tabs else none) <;> rfl
theorem LstAt.mv {σ' : Gh} {a : Addr} {vs : List Value} (h : LstAt σ a vs) (k : ∀ A : AO, σ a = Option.some A → σ' a = Option.some A) : LstAt σ' a vs := h.elim (fun e => .inl (k _ e)) fun e => .inr (k _ e)
theorem ints_single {vs : List Value} {ps : List Int} (h : IntsAre vs ps) (hl : ps.length = 1) : ∃ g t, vs = [.int g t] ∧ ps = [g] := by
  match ps, hl, h with
  | [g], _, .cons _ t .nil => exact ⟨g, t, rfl, rfl⟩
theorem sp_law_run_rev {rl la : Addr} {l : List (Int × Int)} {d : Lk} {mk : Int} {tm : Tok} (C : Cx c (k + 5)) (hP : PairsAt σ rl l) (hL : LLk σ la d) (hkr : d.kind = "reverse") (hm : MkOk mk) (hms : ∀ p ∈ l, 0 ≤ Builtin.bitAnd p.2 mk ∧ Builtin.bitAnd p.2 mk ≤ 7) (hll : l.length < 900)
    (h : ∀ ro D σ' t, Sub σ σ' → σ' D = some (.tuple [.ref ro, .int (runB d.kind d.fl mk d.tabs l.length l).2 t]) → PairsAt σ' ro (runB d.kind d.fl mk d.tabs l.length l).1 → (σ ro = none ∨ ro = rl) → Φ (.ref D) m σ') :
    WP c (call (.ref 854) [.ref rl, .ref la, .int mk tm]) Φ m σ := by
  have hfine := hL.fine
  obtain ⟨⟨tk, tf, rows, rvs, ela, erows, hrow⟩, hkd, hfl, hfew⟩ := id hL
  have hlen : ∀ {a : Addr} {vs : List Value}, PairsAt σ rl l → LstAt σ rl vs → True := fun _ _ => trivial
  obtain ⟨vs, hvs, hvv⟩ := hP.v
  have hvl := hvv.1
  refine wp_call ?_
  refine' enterC [(Str.ofString "row", .ref rl), (Str.ofString "lookup", .ref la), (Str.ofString "mask", .int mk tm)] [(Str.ofString "mask", .int mk tm), (Str.ofString "lookup", .ref la)] C ?ho ?hcd ?hb ?hloc ?hnd ?hm ?_ ?hco ?hgen ?hk
  case ho => k_is
  case hcd => k_is
  case hb => exact fun s X => BindsTo.of_eq rfl
  case hloc => with_unfolding_all rfl
  case hnd => decide +kernel
  case hm => intro L'; funext y; with_unfolding_all rfl
  case hco => with_unfolding_all rfl
  case hgen => with_unfolding_all rfl
  case hk => with_unfolding_all rfl
  intro A' h₀' L' C' E' hfree
  with_unfolding_all change WS _ _ _ _ _ _ (upd (upd σ (L' + 1) (.cell (some (.ref rl)))) (L' + 1 + 1) (.cell none))
  have a12 := adn12 L'
  have f1 : σ (L' + 1) = none := hfree _ (adr1 _)
  have f2' : σ (L' + 1 + 1) = none := hfree _ (adr2 _)
  have s1 : Sub σ (upd (upd σ (L' + 1) (.cell (some (.ref rl)))) (L' + 1 + 1) (.cell none)) := ((Sub.refl σ).upd f1).upd f2'
  have hc1 : (upd (upd σ (L' + 1) (.cell (some (.ref rl)))) (L' + 1 + 1) (.cell none)) (L' + 1) = some (.cell (some (.ref rl))) := upd_ne a12.symm (upd_same _ _ _)
  have hc2 : (upd (upd σ (L' + 1) (.cell (some (.ref rl)))) (L' + 1 + 1) (.cell none)) (L' + 1 + 1) = some (.cell none) := upd_same _ _ _
  generalize upd (upd σ (L' + 1) (.cell (some (.ref rl)))) (L' + 1 + 1) (.cell none) = σ1 at s1 hc1 hc2 ⊢
  obtain ⟨kind, fl, tabs⟩ := d
  dsimp only at ela hrow hkd hfl hfew h hkr hfine ⊢
  subst hkr
  have ela1 := s1 _ _ ela
  have hvs1 := hvs.sub s1
  walk_at "go"
  rename_i r q1 q2 q3 hr
  rw [hvl]
  have hrσ : σ r = none := s1.none_of hr
  have sbr : Sub σ (upd σ r (.raw (rangeO ((l.length : Int) - 1) (-1) (-1) q1 q2 q3))) := (Sub.refl σ).upd hrσ
  have hr0 : (upd σ r (.raw (rangeO ((l.length : Int) - 1) (-1) (-1) q1 q2 q3))) r = some (.raw (rangeO ((l.length : Int) - 1) (-1) (-1) q1 q2 q3)) := upd_same _ _ _
  have s0 : Sub (upd σ r (.raw (rangeO ((l.length : Int) - 1) (-1) (-1) q1 q2 q3))) (upd σ1 r (.raw (rangeO ((l.length : Int) - 1) (-1) (-1) q1 q2 q3))) := sub_upd s1
  have hrow0 : (upd σ r (.raw (rangeO ((l.length : Int) - 1) (-1) (-1) q1 q2 q3))) (L' + 1) = none := upd_none f1 (ne_of_none hr hc1)
  have hat0 : (upd σ r (.raw (rangeO ((l.length : Int) - 1) (-1) (-1) q1 q2 q3))) (L' + 1 + 1) = none := upd_none f2' (ne_of_none hr hc2)
  have hc10 : (upd σ1 r (.raw (rangeO ((l.length : Int) - 1) (-1) (-1) q1 q2 q3))) (L' + 1) = some (.cell (some (.ref rl))) := upd_ne (ne_of_none hr hc1) hc1
  have hc20 : (upd σ1 r (.raw (rangeO ((l.length : Int) - 1) (-1) (-1) q1 q2 q3))) (L' + 1 + 1) = some (.cell none) := upd_ne (ne_of_none hr hc2) hc2
  have hP0 : PairsAt (upd σ1 r (.raw (rangeO ((l.length : Int) - 1) (-1) (-1) q1 q2 q3))) rl l := hP.sub (sbr.trans s0)
  generalize upd σ r (.raw (rangeO ((l.length : Int) - 1) (-1) (-1) q1 q2 q3)) = σr at sbr hr0 s0 hrow0 hat0
  refine ⟨rD l.length, l.length, rDItem l.length, fun i m' τ => lk m' "lookup" = some (.ref la) ∧ lk m' "mask" = some (.int mk tm) ∧ ∃ cnt t rl' l' u, lk m' "count" = some (.int cnt t) ∧ τ (L' + 1) = some (.cell (some (.ref rl'))) ∧ τ (L' + 1 + 1) = some (.cell u) ∧ PairsAt τ rl' l' ∧ l'.length = l.length ∧ (∀ p ∈ l', 0 ≤ Builtin.bitAnd p.2 mk ∧ Builtin.bitAnd p.2 mk ≤ 7) ∧
    (runB "reverse" fl mk tabs (l.length - i) l').1 = (runB "reverse" fl mk tabs l.length l).1 ∧ cnt + (runB "reverse" fl mk tabs (l.length - i) l').2 = (runB "reverse" fl mk tabs l.length l).2 ∧ Sub σr τ ∧ (σ rl' = none ∨ rl' = rl), ?_, ?_, ?_, ?_⟩
  · exact ⟨by walk_at "lk", by walk_at "lk", 0, _, rl, l, none, by walk_at "lk", hc10, hc20, hP0, rfl, hms, rfl, by rw [Nat.sub_zero]; omega, s0, .inr rfl⟩
  · rintro i m' τ ⟨_, _, _, _, _, _, _, _, _, _, _, _, _, _, _, s, _⟩
    exact Src.down (s _ _ hr0) (by omega)
  · clear hc1 hc2 s1 s0 hc10 hc20 hP0 hr ela1 hvs1
    rintro it hit i v m' τ hi hv ⟨l1, l2, cnt, tcn, rl', l', u, l3, hrw, hat, hP', hll', hms', hr1, hr2, s, hfr⟩ hτ
    obtain ⟨tv, rfl⟩ := hv
    obtain ⟨jn, hjn⟩ : ∃ jn, jn = l.length - 1 - i := ⟨_, rfl⟩
    have hat1 : (l.length : Int) - 1 + (i : Nat) * (-1) = (jn : Int) := by omega
    have hni : l.length - i = jn + 1 := by omega
    have hni' : l.length - (i + 1) = jn := by omega
    rw [hni] at hr1 hr2
    rw [hat1]
    have hJ : ∀ vs, rD l.length (i + 1) ≠ .tuple vs := fun vs e => by cases e
    have hJ2 : ∀ vs, rD l.length (i + 1) ≠ .list vs ∧ rD l.length (i + 1) ≠ .xlist vs := fun vs => ⟨(fun e => (by cases e)), (fun e => (by cases e))⟩
    have hJ3 : ∀ u, rD l.length (i + 1) ≠ .cell u := fun vs e => by cases e
    generalize rD l.length (i + 1) = J at hJ hJ2 hJ3 ⊢
    have hna : it ≠ L' + 1 + 1 := ne_of_none_r hτ hat
    have hnr : it ≠ L' + 1 := ne_of_none_r hτ hrw
    refine as_store (sg_cell E'.eg (by with_unfolding_all rfl) (by with_unfolding_all rfl) (upd_ne hna.symm hat) ?_)
    have sr4 : Sub σr (upd (upd τ it J) (L' + 1 + 1) (.cell (some (.int jn tv)))) := (s.upd (s.none_of hτ)).upd hat0
    have hkp : ∀ {a : Addr} {A : AO}, τ a = some A → a ≠ L' + 1 + 1 → (upd (upd τ it J) (L' + 1 + 1) (.cell (some (.int jn tv)))) a = some A := fun e hn => upd_ne hn (upd_ne (ne_of_none hτ e) e)
    have hat4 : (upd (upd τ it J) (L' + 1 + 1) (.cell (some (.int jn tv)))) (L' + 1 + 1) = some (.cell (some (.int jn tv))) := upd_same _ _ _
    have hit4 : (upd (upd τ it J) (L' + 1 + 1) (.cell (some (.int jn tv)))) it = some J := upd_ne hna (upd_same _ _ _)
    have hrw4 : (upd (upd τ it J) (L' + 1 + 1) (.cell (some (.int jn tv)))) (L' + 1) = some (.cell (some (.ref rl'))) := hkp hrw a12.symm
    obtain ⟨vs', hvs', hvv'⟩ := hP'.v
    have hvs4 : LstAt (upd (upd τ it J) (L' + 1 + 1) (.cell (some (.int jn tv)))) rl' vs' := by
      obtain ⟨A, hA⟩ := hvs'.some
      have : rl' ≠ L' + 1 + 1 := fun q => by
        rw [q] at hvs'
        rcases hvs' with e | e <;> (rw [hat] at e; cases e)
      exact (hvs'.upd (ne_of_none hτ hA)).upd this
    have hvv4 : PairsV (upd (upd τ it J) (L' + 1 + 1) (.cell (some (.int jn tv)))) vs' l' := hvv'.keep fun a ws e => hkp e (fun q => by rw [q, hat] at e; cases e)
    have hi0 : σr it = none := s.none_of hτ
    clear hkp hvs' hvv' hat hrw hP' hτ s
    generalize upd (upd τ it J) (L' + 1 + 1) (.cell (some (.int jn tv))) = σ4 at sr4 hat4 hit4 hrw4 hvs4 hvv4 ⊢
    have s14 : Sub σ σ4 := sbr.trans sr4
    have ela4 := s14 _ _ ela
    have hvl' := hvv4.1
    obtain ⟨p, hp⟩ : ∃ p, l'[jn]? = some p := ⟨_, List.getElem?_eq_getElem (by omega)⟩
    obtain ⟨tp, t1, t2, ep, etp4⟩ := hvv4.get jn p hp
    have epi : vs'[((jn : Nat) : Int).toNat]? = some (.ref tp) := by rw [Int.toNat_natCast]; exact ep
    obtain ⟨hms0, hms7⟩ := hms' p (List.mem_of_getElem? hp)
    have hstep := stepB_one (kind := "reverse") (fl := fl) (mk := mk) (tabs := tabs) hp
    have hB : runB "reverse" fl mk tabs (jn + 1) l' = ((runB "reverse" fl mk tabs jn (stepB "reverse" fl mk tabs l' jn).1).1, (stepB "reverse" fl mk tabs l' jn).2 + (runB "reverse" fl mk tabs jn (stepB "reverse" fl mk tabs l' jn).1).2) := rfl
    rw [hB] at hr1 hr2
    dsimp only at hr1 hr2
    have hfs := stepB_fine hfine rfl mk l' jn
    dsimp only at hfs
    have hms2 : ∀ q ∈ (stepB "reverse" fl mk tabs l' jn).1, 0 ≤ Builtin.bitAnd q.2 mk ∧ Builtin.bitAnd q.2 mk ≤ 7 := fun q hq => by
      obtain ⟨p1, e1, e2⟩ := hfs.2 q hq
      rw [e2]; exact hms' p1 e1
    have hlen2 := hfs.1
    refine ws_then (fun m2 σ2 => lk m2 "lookup" = some (.ref la) ∧ lk m2 "mask" = some (.int mk tm) ∧ lk m2 "count" = some (.int cnt tcn) ∧ lk m2 "pieces" = some .none ∧ σ4 = σ2) ?_ ?_
    · walk_at "go"
      exact ⟨by walk_at "lk", by walk_at "lk", by walk_at "lk", by walk_at "lk", rfl⟩
    clear l1 l2 l3
    rintro m2 _ ⟨l1, l2, l3, l4, rfl⟩
    refine ws_then (fun m2 σ2 => lk m2 "lookup" = some (.ref la) ∧ lk m2 "mask" = some (.int mk tm) ∧ lk m2 "count" = some (.int cnt tcn) ∧ (∃ pv, lk m2 "pieces" = some pv ∧ PcRes σ2 pv (oneAt "reverse" fl mk tabs l' jn p)) ∧ Sub σ4 σ2) ?_ ?_
    · walk_at "go"
      · rename_i hb1
        refine sp_law_passed C' hfl ?_
        walk_at "go"
        · rename_i hig _
          have htk : tk1 mk fl p = true := by unfold tk1; rw [hig]; simp; omega
          refine sp_law_pieces C' (hvv4.at_ hvs4) hp (hL.sub s14) hm ⟨hms0, hms7⟩ (by omega) fun v σ' s' hpc => ?_
          walk_at "go"
          exact ⟨by walk_at "lk", by walk_at "lk", by walk_at "lk", ⟨v, by walk_at "lk", by unfold oneAt; rw [if_pos htk]; exact hpc⟩, s'⟩
        · rename_i hig _
          have htk : ¬ tk1 mk fl p = true := by unfold tk1; rw [hig]; simp
          exact ⟨l1, l2, l3, ⟨_, l4, .inl ⟨by unfold oneAt; rw [if_neg htk], rfl⟩⟩, Sub.refl _⟩
      · rename_i hb1 _
        have htk : ¬ tk1 mk fl p = true := by unfold tk1; simp; omega
        exact ⟨l1, l2, l3, ⟨_, l4, .inl ⟨by unfold oneAt; rw [if_neg htk], rfl⟩⟩, Sub.refl _⟩
    clear l1 l2 l3 l4
    rintro m5 σ5 ⟨l1, l2, l3, ⟨pv, l5, hpc⟩, s5⟩
    have hrw5 := s5 _ _ hrw4
    have hat5 := s5 _ _ hat4
    have hvs5 := hvs4.sub s5
    have hvv5 := hvv4.keep (fun a ws e => s5 _ _ e)
    have etp5 := s5 _ _ etp4
    have hit5 := s5 _ _ hit4
    have srr5 := sr4.trans s5
    rcases hpc with ⟨hro, rfl⟩ | ⟨ps, D, ws2, hro, rfl, hD, hI⟩
    · rw [hro] at hstep
      dsimp only at hstep
      rw [hstep] at hr1 hr2
      dsimp only at hr1 hr2
      walk_at "go"
      obtain ⟨σc, nc, uc, kc⟩ := close1 hit5
      have kt : ∀ a vs, σ5 a = some (.tuple vs) → σc a = some (.tuple vs) := fun a vs e => kc _ _ (fun q => by rw [q, hit5] at e; exact hJ _ (Option.some.inj e)) e
      exact ⟨σc, ⟨l1, l2, cnt, tcn, rl', l', _, l3, kc _ _ hnr.symm hrw5, kc _ _ hna.symm hat5, (hvv5.keep kt).at_ (hvs5.mv fun A e => kc _ _ (hvs5.ne hit5 hJ2) e), hll', hms', by rw [hni']; exact hr1, by rw [hni']; omega, fun a A e => kc a A (ne_of_none hi0 e) (srr5 _ _ e), hfr⟩, nc, uc⟩
    · rw [hro] at hstep
      dsimp only at hstep
      have hps1 : ps.length = 1 := by
        unfold oneAt at hro
        split at hro
        · exact subRes_one (hfine.one rfl) hro
        · cases hro
      obtain ⟨g, tg, rfl, rfl⟩ := ints_single hI hps1
      rw [hstep] at hr1 hr2 hms2 hlen2
      dsimp only at hr1 hr2 hms2 hlen2
      have hpk := pick_take (vs := vs') (n := jn) (by omega)
      have hpd := pick_drop (vs := vs') (n := jn) (by omega)
      walk_at "go"
      rw [hpk]
      rename_i sa hsa D1 hD1 _ _ T hT L1 hL1
      rw [hpk] at hT hL1
      have s58 : Sub σ5 (upd (upd (upd (upd σ5 sa (.raw (sliceO .none (.int jn tv)))) D1 (.xlist (vs'.take jn))) T (.tuple [.int g tg, .int p.2 t2])) L1 (.xlist [.ref T])) := ((((Sub.refl σ5).new hsa).new hD1).new hT).new hL1
      have eL : (upd (upd (upd (upd σ5 sa (.raw (sliceO .none (.int jn tv)))) D1 (.xlist (vs'.take jn))) T (.tuple [.int g tg, .int p.2 t2])) L1 (.xlist [.ref T])) L1 = some (.xlist [.ref T]) := upd_same _ _ _
      have eT : (upd (upd (upd (upd σ5 sa (.raw (sliceO .none (.int jn tv)))) D1 (.xlist (vs'.take jn))) T (.tuple [.int g tg, .int p.2 t2])) L1 (.xlist [.ref T])) T = some (.tuple [.int g tg, .int p.2 t2]) := upd_ne (ne_of_none hL1 (upd_same _ _ _)) (upd_same _ _ _)
      have eD : (upd (upd (upd (upd σ5 sa (.raw (sliceO .none (.int jn tv)))) D1 (.xlist (vs'.take jn))) T (.tuple [.int g tg, .int p.2 t2])) L1 (.xlist [.ref T])) D1 = some (.xlist (vs'.take jn)) := by
        have w1 : D1 ≠ T := ne_of_none hT (upd_same _ _ _)
        exact upd_ne (ne_of_none hL1 (upd_ne w1 (upd_same _ _ _))) (upd_ne w1 (upd_same _ _ _))
      generalize upd (upd (upd (upd σ5 sa (.raw (sliceO .none (.int jn tv)))) D1 (.xlist (vs'.take jn))) T (.tuple [.int g tg, .int p.2 t2])) L1 (.xlist [.ref T]) = σ8 at s58 eL eT eD ⊢
      clear hsa hD1 hT hL1
      have hrw8 := s58 _ _ hrw5
      have hat8 := s58 _ _ hat5
      have hit8 := s58 _ _ hit5
      refine op_cat (vs := vs'.take jn) (ws := [.ref T]) (.inr eD) (.inr eL) (by rw [sizeLine_eq, List.length_take]; simp only [List.length_cons, List.length_nil]; omega) fun r1 hr1' => ?_
      walk_at "go"
      rw [hpd]
      rename_i tsl sa hsa D3 hD3
      have s89 : Sub σ8 (upd (upd (upd σ8 r1 (.xlist (vs'.take jn ++ [.ref T]))) sa (.raw (sliceO (.int ((jn : Int) + 1) tsl) .none))) D3 (.xlist (vs'.drop (jn + 1)))) := (((Sub.refl σ8).new hr1').new hsa).new hD3
      have e1 : (upd (upd (upd σ8 r1 (.xlist (vs'.take jn ++ [.ref T]))) sa (.raw (sliceO (.int ((jn : Int) + 1) tsl) .none))) D3 (.xlist (vs'.drop (jn + 1)))) r1 = some (.xlist (vs'.take jn ++ [.ref T])) := by
        have w1 := upd_ne (A := .raw (sliceO (.int ((jn : Int) + 1) tsl) .none)) (ne_of_none hsa (upd_same σ8 r1 (.xlist (vs'.take jn ++ [.ref T])))) (upd_same σ8 r1 (.xlist (vs'.take jn ++ [.ref T])))
        exact upd_ne (ne_of_none hD3 w1) w1
      have e3 : (upd (upd (upd σ8 r1 (.xlist (vs'.take jn ++ [.ref T]))) sa (.raw (sliceO (.int ((jn : Int) + 1) tsl) .none))) D3 (.xlist (vs'.drop (jn + 1)))) D3 = some (.xlist (vs'.drop (jn + 1))) := upd_same _ _ _
      generalize upd (upd (upd σ8 r1 (.xlist (vs'.take jn ++ [.ref T]))) sa (.raw (sliceO (.int ((jn : Int) + 1) tsl) .none))) D3 (.xlist (vs'.drop (jn + 1))) = σ9 at s89 e1 e3 ⊢
      clear hr1' hsa hD3
      refine op_cat (vs := vs'.take jn ++ [.ref T]) (ws := vs'.drop (jn + 1)) (.inr e1) (.inr e3) (by rw [sizeLine_eq]; simp only [List.length_append, List.length_take, List.length_drop, List.length_cons, List.length_nil]; omega) fun r2 hr2 => ?_
      have hrw9 := s89 _ _ hrw8
      have hat9 := s89 _ _ hat8
      have hit9 := s89 _ _ hit8
      have w2 : L' + 1 ≠ r2 := ne_of_none hr2 hrw9
      refine sg_cell E'.eg (by with_unfolding_all rfl) (by with_unfolding_all rfl) (upd_ne w2 hrw9) (ws_nil (ws_nil ?_))
      have hitf : (upd (upd σ9 r2 (.xlist (vs'.take jn ++ [.ref T] ++ vs'.drop (jn + 1)))) (L' + 1) (.cell (some (.ref r2)))) it = some J := upd_ne hnr (upd_ne (ne_of_none hr2 hit9) hit9)
      obtain ⟨σc, nc, uc, kc⟩ := close1 hitf
      have kk9 : ∀ {a : Addr} {A : AO}, σ9 a = some A → a ≠ L' + 1 → a ≠ it → σc a = some A := fun e n1 n2 => kc _ _ n2 (upd_ne n1 (upd_ne (ne_of_none hr2 e) e))
      have kt : ∀ a vs, σ8 a = some (.tuple vs) → σc a = some (.tuple vs) := fun a vs e => kk9 (s89 _ _ e) (fun q => by rw [q, hrw8] at e; cases e) (fun q => by rw [q, hit8] at e; exact hJ _ (Option.some.inj e))
      have hvv8 := hvv5.keep (fun a ws e => s58 _ _ e)
      have hnew := ((hvv8.take jn).append (PairsV.one (p := (g, p.2)) eT)).append (hvv8.drop (jn + 1))
      refine ⟨σc, ⟨by walk_at "lk", by walk_at "lk", cnt + 1, _, r2, splice l' jn [g] p.2, _, by walk_at "lk", kc _ _ hnr.symm (upd_same _ _ _), kk9 hat9 a12 hna.symm, (hnew.keep kt).at_ (.inr (kc _ _ ?_ (upd_ne w2.symm (upd_same _ _ _)))), hlen2.trans hll', hms2, by rw [hni']; exact hr1, by rw [hni']; omega, fun a A e => kk9 (s89 _ _ (s58 _ _ (srr5 _ _ e))) (ne_of_none hrow0 e) (ne_of_none hi0 e), .inl ((s14.trans (s5.trans (s58.trans s89))).none_of hr2)⟩, nc, uc⟩
      exact (ne_of_none hr2 hit9).symm
  · rintro m' τ ⟨l1, l2, cnt, tcn, rl', l', u, l3, hrw, hat, hP', hll', hms', hr1, hr2, s, hfr⟩
    rw [Nat.sub_self] at hr1 hr2
    have hr1' : l' = (runB "reverse" fl mk tabs l.length l).1 := hr1
    have hr2' : cnt = (runB "reverse" fl mk tabs l.length l).2 := by
      have : cnt + 0 = _ := hr2
      omega
    walk_at "go"
    intro D hD
    have sD := (Sub.refl τ).upd hD (A := .tuple [.ref rl', .int cnt tcn])
    refine h rl' D _ tcn (sbr.trans (s.trans sD)) (by rw [← hr2']; exact upd_same _ _ _) ?_ hfr
    rw [← hr1']
    exact hP'.sub sD
end
section
variable {c : Cf} {k : Nat} {m : Fields} {σ ρ : Gh} {Φ : Value → Fields → Gh → Prop} {env : Env}
theorem sp_law_run {rl la : Addr} {l : List (Int × Int)} {d : Lk} {mk : Int} {tm : Tok} (C : Cx c (k + 5)) (hP : PairsAt σ rl l) (hL : LLk σ la d) (hm : MkOk mk) (hms : ∀ p ∈ l, 0 ≤ Builtin.bitAnd p.2 mk ∧ Builtin.bitAnd p.2 mk ≤ 7) (hll : l.length < 900)
    (h : ∀ ro D σ' t, Sub σ σ' → σ' D = some (.tuple [.ref ro, .int (resRun d.kind d.fl mk d.tabs l).2 t]) → PairsAt σ' ro (resRun d.kind d.fl mk d.tabs l).1 → (σ ro = none ∨ ro = rl) → Φ (.ref D) m σ') :
    WP c (call (.ref 854) [.ref rl, .ref la, .int mk tm]) Φ m σ := by
  unfold resRun at h
  by_cases hk : d.kind = "reverse"
  · simp only [if_pos hk] at h
    exact sp_law_run_rev C hP hL hk hm hms hll h
  · simp only [if_neg hk] at h
    exact sp_law_run_fwd C hP hL hk hm hms hll fun ro D σ' t a b d' e => h ro D σ' t a b d' (.inl e)
end
end
section
section
variable {c : Cf} {k : Nat} {m : Fields} {σ ρ : Gh} {Φ : Value → Fields → Gh → Prop}
theorem nest_def3 {N : Fields → Gh → Prop} {R : Value → Fields → Gh → Prop} {cn : Str} {cs : Scope} {a cc P : Addr} {cl : List (Str × Addr)} (clos : List (Str × Addr)) {name : Str} {params : Arguments} {body : List Stmt} {scope : Scope} {pos : Pos} {ps : Array Value} (C : Cx c k) (hcd : codeHdIn (hd.heap_39 c.w.params) cc P = true) (hP : σ P = some (.raw (tabObj ps))) (ht : TriplesOk ps.toList) (hnf : codeAmong pos ps.toList = none)
    (hcl : closureFor scope (envX cn cs c.L a (.ref cc) cl) = pure clos) (hd0 : params.defaults = []) (hk0 : params.kw_defaults = []) (ha : annTrees params none (envX cn cs c.L a (.ref cc) cl) = [])
    (h : ∀ f c' σ' ps' A₂ A₃, σ f = none → σ c' = none → f ≠ c' → σ' = upd (upd (upd σ P (.raw (tabObj ps'))) c' A₂) f A₃ → (∀ F : Gh, F f = σ' f → F c' = σ' c' → FnIn F f name (qualnameIn (envX cn cs c.L a (.ref cc) cl) name name) params body scope clos) →
      WP c (storeName (envX cn cs c.L a (.ref cc) cl) name (.ref f)) (fun _ m σ => N m σ) m σ') :
    WE c (.FunctionDef name params body [] none [] scope none name pos) (envX cn cs c.L a (.ref cc) cl) N R m σ :=
  nest_def C hcd hP ht hnf hcl hd0 hk0 ha fun f c' oc vs t ctv doc pm hf hc hfc ho hq => h f c' _ _ _ _ hf hc hfc rfl fun F e1 e2 => by
    rw [upd_same] at e1
    rw [upd_ne hfc.symm (upd_same _ _ _)] at e2
    exact ⟨_, _, _, _, _, _, _, e1, e2, ho, hq⟩
theorem TakeS.grow {w : World} {f pl : Addr} {F G : Gh} (T : TakeS w f pl F) (s : Sub F G) : TakeS w f pl G :=
  ⟨let ⟨a, b, d, e, g, i, x⟩ := T.fn; ⟨a, b, d, e, g, i, x.sub s⟩, fun c k m σ kk limit t tl Φ h1 h2 h3 h4 h5 h6 h7 h8 => T.call c k m σ kk limit t tl Φ h1 h2 (s.trans h3) h4 h5 h6 h7 h8⟩
theorem sp_taker2 {sl : Addr} {svs : List Value} {sns : List Int} (C : Cx c (k + 4)) (hs : c.h₀.IsList sl svs.toArray) (hsi : IntsAre svs sns) (hss : svs.length ≤ 16384) (hP : σ 806 = some (.raw (tabObj #[])))
    (h : ∀ f pl F σ' t, TakeS c.w f pl F → Sub F σ' → LstAt σ' pl [.int 0 t] → (∀ a A, σ a = some A → a ≠ 806 → σ' a = some A) → (∀ a A, σ a = some A → F a = none ∧ a ≠ pl) → F pl = none → (∃ ps, σ' 806 = some (.raw (tabObj ps))) → Φ (.ref f) m σ') :
    WP c (call (.ref 811) [.ref sl]) Φ m σ := by
  refine wp_call ?_
  refine' enterC2 [(Str.ofString "script", .ref sl)] [(Str.ofString "script", .ref sl)] C ?ho ?hcd ?hb ?hloc ?hnd ?hm ?_ ?hco ?hgen ?hk
  case ho => k_is
  case hcd => k_is
  case hb => exact fun s X => BindsTo.of_eq rfl
  case hloc => with_unfolding_all rfl
  case hnd => decide +kernel
  case hm => intro L'; funext y; with_unfolding_all rfl
  case hco => with_unfolding_all rfl
  case hgen => with_unfolding_all rfl
  case hk => with_unfolding_all rfl
  intro A' h₀' L' C' E' hfree hbase
  with_unfolding_all change WS _ _ _ _ _ _ (upd (upd σ (L' + 1) (.cell none)) (L' + 1 + 1) (.cell none))
  have a12 := adn12 L'
  have f1 : σ (L' + 1) = none := hfree _ (adr1 _)
  have f2 : (upd σ (L' + 1) (.cell none)) (L' + 1 + 1) = none := upd_none (hfree _ (adr2 _)) (adn12 _)
  have f2' : σ (L' + 1 + 1) = none := hfree _ (adr2 _)
  have hsl : h₀'.IsList sl svs.toArray := let ⟨o', ho', r⟩ := hs; ⟨o', hbase _ _ ho', r⟩
  have hpl := pick_len svs none (some 63)
  refine ws_then (fun m' σ' => m' = [(Str.ofString "script", .ref sl)] ∧ ∃ D, σ' (L' + 1) = some (.cell (some (.ref D))) ∧ σ' (L' + 1 + 1) = some (.cell none) ∧ σ' D = some (.xlist (svs.take 63)) ∧ σ D = none ∧ Sub σ σ') ?_ ?_
  · walk_at "go"
    rename_i t63 sa hsa
    refine sub_sliceB hsl (upd_same _ _ _) .none (.int _ _) (by rw [sizeLine_eq]; omega) (fun D hD => ?_) (by with_unfolding_all rfl)
    walk_at "go"
    have ek : kms_pick svs none (some 63) = svs.take 63 := by
      unfold kms_pick
      simp only [kms_lo, kms_hi]
      rw [if_neg (by decide), List.drop_zero, Nat.sub_zero]
      exact kmk_take_min svs 63
    rw [ek] at *
    have hsa1 : (upd (upd (upd (upd σ (L' + 1) (.cell none)) (L' + 1 + 1) (.cell none)) sa (.raw (sliceO .none (.int 63 t63)))) D (.xlist (svs.take 63))) (L' + 1) = some (.cell none) := by walk_at "sig"
    have hL1 : D ≠ L' + 1 := fun e => by rw [e, upd_same] at hsa1; cases hsa1
    have hc2 : (upd (upd (upd (upd σ (L' + 1) (.cell none)) (L' + 1 + 1) (.cell none)) sa (.raw (sliceO .none (.int 63 t63)))) D (.xlist (svs.take 63))) (L' + 1 + 1) = some (.cell none) := by walk_at "sig"
    have hσD : σ D = none := (none_of_upd (none_of_upd (none_of_upd hD).2).2).2
    refine ⟨rfl, D, upd_same _ _ _, ?_, ?_, hσD, ?_⟩
    · exact upd_ne a12 hc2
    · exact upd_ne hL1 (upd_same _ _ _)
    · exact (((((Sub.refl σ).new f1).new f2).new hsa).new hD).upd f1
  rintro _ σ1 ⟨rfl, D, e1, e2, e3, e4, s1⟩
  have hI := hsi.take 63
  refine ws_then (fun m' σ' => m' = [(Str.ofString "script", .ref sl)] ∧ ∃ D vs ns, σ' (L' + 1) = some (.cell (some (.ref D))) ∧ σ' (L' + 1 + 1) = some (.cell none) ∧ σ' D = some (.xlist vs) ∧ σ D = none ∧ Sub σ σ' ∧ IntsAre vs ns ∧ 0 < ns.length ∧ ns.length ≤ 63) ?_ ?_
  · have hL1 : D ≠ L' + 1 := fun e => by rw [e, e1] at e3; cases e3
    walk_at "go"
    rename_i n1 hn1
    refine cp_eq_ints C' (.inr (by walk_at "sig")) hI (.inr (upd_same _ _ _)) .nil ?_
    walk_at "go"
    · rename_i hb t1 n2 hn2
      obtain ⟨g1, g2⟩ := none_of_upd hn2
      refine ⟨rfl, n2, [.int 1 t1], [1], upd_same _ _ _, ?_, ?_, s1.none_of g2, ?_, ints_one, by decide, by decide⟩
      · refine upd_ne a12 ?_
        walk_at "sig"
      · refine upd_ne ?_ (upd_same _ _ _)
        exact (ne_of_none g2 e1).symm
      · exact ((s1.new hn1).new hn2).upd f1
    · rename_i hb
      refine ⟨rfl, D, svs.take 63, sns.take 63, ?_, ?_, ?_, e4, s1.new hn1, hI, ?_, ?_⟩
      · walk_at "sig"
      · walk_at "sig"
      · walk_at "sig"
      · exact List.length_pos_iff.mpr hb
      · rw [List.length_take]; omega
  clear e1 e2 e3 e4 s1 hI
  rintro _ σ2 ⟨rfl, D, vs, ns, e1, e2, e3, e4, s1, hI, hn0, hn63⟩
  refine ws_then (fun m' σ' => m' = [(Str.ofString "script", .ref sl)] ∧ ∃ pl t, σ' (L' + 1) = some (.cell (some (.ref D))) ∧ σ' (L' + 1 + 1) = some (.cell (some (.ref pl))) ∧ σ' D = some (.xlist vs) ∧ σ' pl = some (.xlist [.int 0 t]) ∧ σ pl = none ∧ pl ≠ D ∧ Sub σ σ') ?_ ?_
  · walk_at "go"
    rename_i t1 n2 hn2
    have hL1 : D ≠ L' + 1 + 1 := fun e => by rw [e, e2] at e3; cases e3
    refine ⟨rfl, n2, t1, ?_, upd_same _ _ _, ?_, ?_, s1.none_of hn2, (ne_of_none hn2 e3).symm, (s1.new hn2).upd f2'⟩
    · refine upd_ne a12.symm ?_
      walk_at "sig"
    · refine upd_ne hL1 ?_
      walk_at "sig"
    · refine upd_ne ?_ (upd_same _ _ _)
      exact (ne_of_none hn2 e2).symm
  clear e1 e2 e3 s1
  rintro _ σ3 ⟨rfl, pl, t0, e1, e2, e3, e5, e6, e7, s1⟩
  have hP' : σ3 806 = some (.raw (tabObj #[])) := s1 _ _ hP
  refine ws_then (fun m' σ' => ∃ f F, m' = [(Str.ofString "script", .ref sl), (Str.ofString "take", .ref f)] ∧ TakeS c.w f pl F ∧ Sub F σ' ∧ LstAt σ' pl [.int 0 t0] ∧ (∀ a A, σ a = some A → a ≠ 806 → σ' a = some A) ∧ (∀ a A, σ a = some A → F a = none) ∧ F pl = none ∧ ∃ ps, σ' 806 = some (.raw (tabObj ps))) ?_ ?_
  · with_unfolding_all refine nest_def3 (cc := 810) (P := 806) (ps := #[]) [(Str.ofString "place", L' + 1 + 1), (Str.ofString "cells", L' + 1)] C' ?q1 hP' ?q2 ?q3 ?q4 ?q5 ?q6 ?q7 ?_
    case q1 => kernel_rfl
    case q2 => exact True.intro
    case q3 => rfl
    case q4 => with_unfolding_all rfl
    case q5 => rfl
    case q6 => rfl
    case q7 => with_unfolding_all rfl
    intro f c2 σ4 ps8 A₂ A₃ hf hc2 hfc hσ4 hFn
    have h8 : σ4 806 = some (.raw (tabObj ps8)) := by
      rw [hσ4]
      exact upd_ne (ne_of_none hf hP') (upd_ne (ne_of_none hc2 hP') (upd_same _ _ _))
    with_unfolding_all refine wp_store E' ?_ ?_
    · with_unfolding_all rfl
    have hpf : f ≠ pl := ne_of_none_r hf e5
    have hne : ∀ {a : Addr} {A : AO}, σ3 a = some A → a ≠ 806 → σ4 a = some A := fun {a A} e hn => by
      rw [hσ4]
      exact upd_ne (ne_of_none hf e) (upd_ne (ne_of_none hc2 e) (upd_ne hn e))
    have hLP : L' + 1 ≠ 806 := fun q => by rw [q, hP'] at e1; cases e1
    have hLP2 : L' + 1 + 1 ≠ 806 := fun q => by rw [q, hP'] at e2; cases e2
    have hDP : D ≠ 806 := fun q => by rw [q, hP'] at e3; cases e3
    have hpP : pl ≠ 806 := fun q => by rw [q, hP'] at e5; cases e5
    have hcl1 : L' + 1 ≠ pl := fun q => by rw [q, e5] at e1; cases e1
    have hcl2 : L' + 1 + 1 ≠ pl := fun q => by rw [q, e5] at e2; cases e2
    obtain ⟨F, hF⟩ : ∃ F : Gh, F = fun a => if a = pl ∨ (σ a).isSome then none else σ4 a := ⟨_, rfl⟩
    have hFe : ∀ {a : Addr}, a ≠ pl → σ a = none → F a = σ4 a := fun {a} h1 h2 => by
      rw [hF]; show (if a = pl ∨ (σ a).isSome then none else σ4 a) = _
      rw [if_neg]; rintro (h | h)
      · exact h1 h
      · rw [h2] at h; cases h
    have hFs : Sub F σ4 := fun a A e => by
      rw [hF] at e
      dsimp only at e
      split at e
      · cases e
      · exact e
    have hFf := hFn F (hFe hpf (s1.none_of hf)) (hFe (ne_of_none_r hc2 e5) (s1.none_of hc2))
    have q1 : F (L' + 1) = some (.cell (some (.ref D))) := (hFe hcl1 f1).trans (hne e1 hLP)
    have q2 : F (L' + 1 + 1) = some (.cell (some (.ref pl))) := (hFe hcl2 f2').trans (hne e2 hLP2)
    have q3 : F D = some (.xlist vs) := (hFe e7.symm e4).trans (hne e3 hDP)
    refine ⟨f, F, rfl, ⟨⟨_, _, _, _, _, _, hFf⟩, ?_⟩, hFs, .inr (hne e5 hpP), fun a A e hn => hne (s1 _ _ e) hn, (fun a A e => by rw [hF]; dsimp only; rw [if_pos (.inr (by rw [e]; rfl))]), (by rw [hF]; dsimp only; rw [if_pos (.inl rfl)]), ps8, h8⟩
    clear hFn hFe hne hσ4 hf hc2 hfc hpf hF
    intro c5 k5 m5 σ5 kk limit t tl Φ5 hw C5 hF5 hp5 h0 h300 hlim hΦ5
    have r1 := hF5 _ _ q1
    have r2 := hF5 _ _ q2
    have r3 := hF5 _ _ q3
    clear hP' e1 e2 e3 e5 s1 h q1 q2 q3
    refine wp_call (enterN [(Str.ofString "limit", .int limit tl)] C5 (hFf.sub hF5) (fun _ _ _ _ _ => BindsTo.of_eq rfl) ?hloc ?_ ?hco ?hgen ?hk ?hcell)
    case hloc => with_unfolding_all rfl
    case hco => with_unfolding_all rfl
    case hgen => with_unfolding_all rfl
    case hk => with_unfolding_all rfl
    case hcell => decide
    intro A6 h6 L6 c6 C6 E6
    walk_at "go"
    refine set_list hp5 (by decide) (by decide) (by simp) ?_
    with_unfolding_all change WS _ _ _ _ _ _ (upd σ5 pl (.list [.int (kk + 1) _]))
    have hvl : vs.length = ns.length := hI.length
    have hb0 : (vs.length : Int) ≠ 0 := by omega
    have hpy : Builtin.divisionGoesByPylong kk (vs.length : Int) = false := PyProof.noPylong_small (by omega)
    walk_at "go"
    refine op_div hb0 hpy fun t' => ?_
    obtain ⟨lev, hlev⟩ : ∃ lev, lev = kk.fdiv (vs.length : Int) := ⟨_, rfl⟩
    rw [← hlev]
    have hl0 : 0 ≤ lev := hlev ▸ Int.fdiv_nonneg h0 (by omega)
    have hl3 : lev ≤ 300 := by
      rw [hlev, Int.fdiv_eq_ediv_of_nonneg _ (by omega)]
      exact Int.le_trans (Int.ediv_le_self _ h0) h300
    obtain ⟨ix, hix⟩ : ∃ ix, ix = kk.fmod (vs.length : Int) := ⟨_, rfl⟩
    have hi0 : 0 ≤ ix := hix ▸ Int.fmod_nonneg_of_pos _ (by omega)
    have hi1 : ix < (vs.length : Int) := hix ▸ Int.fmod_lt_of_pos _ (by omega)
    walk_at "go"
    rw [← hix]
    obtain ⟨v, hv⟩ : ∃ v, vs[ix.toNat]? = some v := ⟨_, List.getElem?_eq_getElem (by omega)⟩
    obtain ⟨n, tn, rfl, _⟩ := ints_get hI hv
    walk_at "go"
    have hib : Builtin.Int.intBits 720720 = 20 := by decide +kernel
    refine op_pow hl0 (by rw [hib]; omega) fun tp => ?_
    refine op_div (Int.ne_of_gt (Int.pow_pos (by decide))) (noPy _ _ (by omega)) fun td => ?_
    walk_at "go"
    refine op_mul (IntMulOk.of_left (PySem.intBits_le_64 (by omega) (by omega))) fun tm => ?_
    walk_at "go"
    refine op_mul (IntMulOk.of_left (PySem.intBits_le_64 (by omega) (by omega))) fun tm2 => ?_
    walk_at "go"
    refine hΦ5 _ _ _ ?_ ?_
    · exact Int.fmod_nonneg_of_pos _ (by omega)
    · exact Int.fmod_lt_of_pos _ (by omega)
  rintro m4 σ4 ⟨f, F, rfl, g1, g2, g3, g4, g5, g6, g7⟩
  walk_at "go"
  exact h f pl F σ4 t0 g1 g2 g3 g4 (fun a A e => ⟨g5 a A e, fun q => by rw [q, e6] at e; cases e⟩) g6 g7
end
end
section
/-- a thing of the program's, not of a loop's -/
def AO.dat : AO → Bool
  | .list _ => true
  | .xlist _ => true
  | .tuple _ => true
  | .inst _ _ => true
  | .attrs _ => true
  | .idict _ => true
  | _ => false
/-- keeps the program's things -/
def Nr (σ σ' : Gh) : Prop := ∀ a A, A.dat = true → σ a = some A → σ' a = some A
section
variable {σ σ' ρ ρ' : Gh} {kind : Str} {ta ga la tl ll : Addr} {bh fl : Int} {mp : Int → Option (List Int)}
theorem InstF.nr {x cl : Addr} {fs : Fields} (h : InstF σ x cl fs) (hs : Nr σ σ') : InstF σ' x cl fs := let ⟨d, h1, h2⟩ := h; ⟨d, hs _ _ rfl h1, hs _ _ rfl h2⟩
theorem LstAt.nr {l : Addr} {vs : List Value} (h : LstAt σ l vs) (hs : Nr σ σ') : LstAt σ' l vs := h.elim (fun e => .inl (hs _ _ rfl e)) fun e => .inr (hs _ _ rfl e)
theorem GdefOk.nr {g : Addr} (h : GdefOk σ g) (hs : Nr σ σ') : GdefOk σ' g := by
  obtain ⟨cd, ad, sl, p, q, kd, kvs, h1, h2, h3, h4⟩ := h.ex
  exact ⟨cd, ad, sl, p, q, kd, kvs, h1.nr hs, h2.nr hs, hs _ _ rfl h3, h4⟩
theorem CovOk.nr {cv : Addr} {bh : Int} (h : CovOk σ cv bh) (hs : Nr σ σ') : CovOk σ' cv bh := let ⟨gt, t, h1, h2⟩ := h; ⟨gt, t, h1.nr hs, hs _ _ rfl h2⟩
theorem MapTup.nr {kvs : List (Int × Value)} (h : MapTup ρ kvs mp) (hs : Nr ρ ρ') : MapTup ρ' kvs mp := fun g => by
  rcases h g with h | ⟨a, vs, ps, g1, g2, g3, g4⟩
  · exact .inl h
  · exact .inr ⟨a, vs, ps, g1, g2, hs _ _ rfl g3, g4⟩
theorem TabOk.nr (h : TabOk ρ kind ta mp bh) (hs : Nr ρ ρ') : TabOk ρ' kind ta mp bh := by
  rcases h with ⟨e, da, kvs, h1, h2, h3⟩ | ⟨e, da, kvs, h1, h2, h3⟩ | ⟨e, da, kvs, h1, h2, h3⟩ | ⟨e, da, kvs, h1, h2, h3⟩ | ⟨e, da, kvs, ba, aa, ws, h1, h2, h3, h4, h5, h6⟩
  · exact .inl ⟨e, da, kvs, h1.nr hs, hs _ _ rfl h2, h3⟩
  · exact .inr (.inl ⟨e, da, kvs, h1.nr hs, hs _ _ rfl h2, h3.nr hs⟩)
  · exact .inr (.inr (.inl ⟨e, da, kvs, h1.nr hs, hs _ _ rfl h2, h3.nr hs⟩))
  · refine .inr (.inr (.inr (.inl ⟨e, da, kvs, h1.nr hs, hs _ _ rfl h2, fun g => ?_⟩)))
    rcases h3 g with h | ⟨l, tp, e, z, t, g1, g2, g3, g4, g5⟩
    · exact .inl h
    · exact .inr ⟨l, tp, e, z, t, g1, g2, g3.nr hs, hs _ _ rfl g4, hs _ _ rfl g5⟩
  · refine .inr (.inr (.inr (.inr ⟨e, da, kvs, ba, aa, ws, h1.nr hs, hs _ _ rfl h2, h3, hs _ _ rfl h4, hs _ _ rfl h5, ?_⟩)))
    rcases h6 with h | ⟨q1, cv, q2, q3⟩
    · exact .inl h
    · exact .inr ⟨q1, cv, q2, q3.nr hs⟩
theorem TabsOk.nr {tabs : List Tab} (h : TabsOk ρ kind tl tabs) (hs : Nr ρ ρ') : TabsOk ρ' kind tl tabs := by
  obtain ⟨tvs, h1, h2, h3⟩ := h
  refine ⟨tvs, h1.nr hs, h2, fun j v hv => ?_⟩
  obtain ⟨ta, t, e1, e2, e3⟩ := h3 j v hv
  exact ⟨ta, t, e1, e2, e3.nr hs⟩
/-- the lookups, without the gdef -/
def LkLst (ρ : Gh) (ll : Addr) (lds : List Lk) : Prop := ∃ lvs, LstAt ρ ll lvs ∧ lvs.length = lds.length ∧ ∀ (j : Nat) (d : Lk), lds[j]? = some d → d.Fine ∧ (d.fl = 0 ∨ d.fl = 2 ∨ d.fl = 8) ∧ ∃ la tl, lvs[j]? = some (.ref la) ∧ (∃ tk tf tm, InstF ρ la 43 [("kind", .str d.kind tk), ("flag", .int d.fl tf), ("mark_set", .int 0 tm), ("tables", .ref tl)]) ∧ TabsOk ρ d.kind tl d.tabs
theorem LkLst.nr {lds : List Lk} (h : LkLst ρ ll lds) (hs : Nr ρ ρ') : LkLst ρ' ll lds := by
  obtain ⟨lvs, h1, h2, h4⟩ := h
  refine ⟨lvs, h1.nr hs, h2, fun j d e => ?_⟩
  obtain ⟨f, hf, la, tl, e1, ⟨a, b, d', e2⟩, e3⟩ := h4 j d e
  exact ⟨f, hf, la, tl, e1, ⟨a, b, d', e2.nr hs⟩, e3.nr hs⟩
theorem LkLst.ok {lds : List Lk} (h : LkLst ρ ll lds) (hg : GdefOk ρ ga) (hl : lds.length < 100) : LksOk ρ ga ll lds := by
  obtain ⟨lvs, h1, h2, h4⟩ := h
  refine ⟨lvs, h1, h2, hl, fun j d e => ?_⟩
  obtain ⟨f, hf, la, tl, e1, e2, e3⟩ := h4 j d e
  exact ⟨f, la, tl, e1, ⟨hg, e2, hf⟩, e3⟩
theorem Nr.of (hs : Sub σ σ') : Nr σ σ' := fun a A _ e => hs a A e
theorem dat_ne {a b : Addr} {A B : AO} (h : σ a = some A) (hA : A.dat = false) (e : σ b = some B) (hB : B.dat = true) : b ≠ a := fun q => by
  rw [q, h] at e
  cases e
  rw [hA] at hB; cases hB
theorem Nr.without {a : Addr} {A : AO} (h : σ a = some A) (hA : A.dat = false) : Nr σ (Mine.without σ a) := fun x B hn e => by
  rw [without_ne (dat_ne h hA e hn)]; exact e
theorem Nr.upd {a : Addr} {A B : AO} (h : σ a = some A) (hA : A.dat = false) : Nr σ (Mine.upd σ a B) := fun x D hn e => upd_ne (dat_ne h hA e hn) e
theorem Nr.trans {σ2 : Gh} (h : Nr σ σ') (h' : Nr σ' σ2) : Nr σ σ2 := fun a A hn e => h' a A hn (h a A hn e)
theorem LMap.nr {kvs : List (Int × Value)} (h : LMap ρ kind kvs mp) (hs : Nr ρ ρ') : LMap ρ' kind kvs mp := h.keep fun a vs e => hs _ _ rfl e
theorem LLk.nr {tp : Addr} {d : Lk} (h : LLk ρ tp d) (hs : Nr ρ ρ') : LLk ρ' tp d := by
  obtain ⟨tk, tf, rl, vs, h1, h2, h3⟩ := h.at_
  exact ⟨⟨tk, tf, rl, vs, hs _ _ rfl h1, hs _ _ rfl h2, h3.keep fun v t q => q.keep (fun a vs e => hs _ _ rfl e) (fun a vs e => hs _ _ rfl e)⟩, h.kd, h.fl, h.few⟩
theorem PairsAt.nr {l : Addr} {ps : List (Int × Int)} (h : PairsAt σ l ps) (hs : Nr σ σ') : PairsAt σ' l ps := by
  obtain ⟨vs, h1, h2⟩ := h.v
  exact (h2.keep fun a ws e => hs _ _ rfl e).at_ (h1.nr hs)
end
section
variable {c : Cf} {k : Nat} {m : Fields} {σ ρ : Gh} {Φ : Value → Fields → Gh → Prop} {env : Env}
/-- hide a thing, as it stands -/
theorem WP.hide {α : Type} {t : Sem α} {Φ : α → Fields → Gh → Prop} {a : Addr} {A : AO} (e : σ a = some A) (h : ∀ o, WP c t (fun v m' σ' => σ' a = some (.raw o) ∧ Φ v m' (upd σ' a A)) m (upd σ a (.raw o))) : WP c t Φ m σ := fun hp g d tk os S => by
  obtain ⟨⟨o, ho, hA⟩, h1, h2⟩ := S.led a A e
  have S' : St c.w c.h₀ c.L hp m (upd σ a (.raw o)) := by
    refine ⟨S.fr, fun b D q => ?_⟩
    unfold upd at q
    by_cases hb : b = a
    · rw [if_pos hb] at q; cases q; subst hb; exact ⟨⟨o, ho, rfl⟩, h1, h2⟩
    · rw [if_neg hb] at q; exact S.led b D q
  refine WP.use (h o) S' fun v h' tk' m' σ' S2 q => ?_
  exact ⟨h', tk', m', _, rfl, S2.retag q.1 (fun o' ho' => by have : o' = o := ho'; rw [this]; exact hA), q.2⟩
theorem close4 {it D Cn Kc : Addr} {J : AO} {ys : List Value} {mc : Fields} {kv : Option Value} (s : Sub (Fr4 ρ it J D ys Cn mc Kc kv) σ) (h1 : ρ it = none) (h2 : ρ D = none) (h3 : ρ Cn = none) (h4 : ρ Kc = none) (d1 : it ≠ D) (d2 : it ≠ Cn) (d3 : D ≠ Cn) (b1 : it ≠ Kc) (b2 : D ≠ Kc) (b3 : Cn ≠ Kc) :
    ∃ σ', Sub ρ σ' ∧ σ' it = none ∧ σ' D = none ∧ σ' Cn = none ∧ σ' Kc = none ∧ Sub (Fr4 σ' it J D ys Cn mc Kc kv) σ ∧ ∀ a A, a ≠ it → a ≠ D → a ≠ Cn → a ≠ Kc → σ a = some A → σ' a = some A := by
  obtain ⟨s0, e1, e2, e3, e4⟩ := Fr4.core s h1 h2 h3 h4 d1 d2 d3 b1 b2 b3
  refine ⟨without (without (without (without σ Kc) Cn) D) it, fun a A e => ?_, without_self, ?_, ?_, ?_, Fr4.of (fun x A e => ?_) e1 e2 e3 e4, fun a A n1 n2 n3 n4 e => ?_⟩
  · rw [without_ne (ne_of_none h1 e), without_ne (ne_of_none h2 e), without_ne (ne_of_none h3 e), without_ne (ne_of_none h4 e)]
    exact s0 _ _ e
  · rw [without_ne d1.symm]; exact without_self
  · rw [without_ne d2.symm, without_ne d3.symm]; exact without_self
  · rw [without_ne b1.symm, without_ne b2.symm, without_ne b3.symm]; exact without_self
  · unfold Mine.without at e
    split at e
    · cases e
    · split at e
      · cases e
      · split at e
        · cases e
        · split at e
          · cases e
          · exact e
  · rw [without_ne n1, without_ne n2, without_ne n3, without_ne n4]; exact e
/-- an element of a comprehension, seen without the three -/
theorem elt_hide {t : Sem Value} {τ : Gh} {it D Cn : Addr} {J : AO} {ys : List Value} {mc : Fields} {K' : Value → Gh → Prop} (h1 : τ it = none) (h2 : τ D = none) (h3 : τ Cn = none) (d1 : it ≠ D) (d2 : it ≠ Cn) (d3 : D ≠ Cn) (hJ : J.dat = false)
    (h : ∀ σ8 o, Sub τ σ8 → σ8 it = some J → σ8 D = some (.raw o) → σ8 Cn = some (.ns mc) → WP c t (fun y m' σ' => m' = m ∧ Sub σ8 σ' ∧ ∀ τ', Sub τ τ' → Nr σ' τ' → K' y τ') m σ8) :
    WP c t (fun y m' σ' => m' = m ∧ ∃ τ', K' y τ' ∧ τ' it = none ∧ τ' D = none ∧ τ' Cn = none ∧ Sub (Fr3 τ' it J D ys Cn mc) σ') m (Fr3 τ it J D ys Cn mc) := by
  have q1 : (Fr3 τ it J D ys Cn mc) it = some J := upd_ne d2 (upd_ne d1 (upd_same _ _ _))
  have q2 : (Fr3 τ it J D ys Cn mc) D = some (.xlist ys) := upd_ne d3 (upd_same _ _ _)
  have q3 : (Fr3 τ it J D ys Cn mc) Cn = some (.ns mc) := upd_same _ _ _
  have s9 : Sub τ (Fr3 τ it J D ys Cn mc) := sub_fr3 h1 h2 h3
  refine WP.hide q2 fun o => ?_
  have sτ : Sub τ (upd (Fr3 τ it J D ys Cn mc) D (.raw o)) := fun a A e => upd_ne (ne_of_none h2 e) (s9 _ _ e)
  refine (h _ o sτ (upd_ne d1 q1) (upd_same _ _ _) (upd_ne d3.symm q3)).mono fun y m' σ' q => ?_
  obtain ⟨rfl, s', hK⟩ := q
  have e1 := s' _ _ (upd_ne d1 q1)
  have e2 := s' _ _ (upd_same (Fr3 τ it J D ys Cn mc) D (.raw o))
  have e3 := s' _ _ (upd_ne d3.symm q3)
  refine ⟨e2, rfl, ?_⟩
  have sF : Sub (Fr3 τ it J D ys Cn mc) (upd σ' D (.xlist ys)) := Fr3.of (fun a A e => upd_ne (ne_of_none h2 e) (s' _ _ (sτ _ _ e))) (upd_ne d1 e1) (upd_same _ _ _) (upd_ne d3.symm e3)
  obtain ⟨σa, sa, n1, n2, n3, sf, ka⟩ := close3 sF h1 h2 h3 d1 d2 d3
  refine ⟨σa, hK σa sa (fun a A hA e => ?_), n1, n2, n3, sf⟩
  have w1 : a ≠ it := dat_ne e1 hJ e hA
  have w2 : a ≠ D := dat_ne e2 rfl e hA
  have w3 : a ≠ Cn := dat_ne e3 rfl e hA
  exact ka a A w1 w2 w3 (upd_ne w2 e)
theorem elt_hide4 {t : Sem Value} {τ : Gh} {it D Cn Kc : Addr} {J : AO} {ys : List Value} {mc : Fields} {kv : Option Value} {K' : Value → Gh → Prop} (h1 : τ it = none) (h2 : τ D = none) (h3 : τ Cn = none) (h4 : τ Kc = none) (d1 : it ≠ D) (d2 : it ≠ Cn) (d3 : D ≠ Cn) (b1 : it ≠ Kc) (b2 : D ≠ Kc) (b3 : Cn ≠ Kc) (hJ : J.dat = false)
    (h : ∀ σ8 o, Sub τ σ8 → σ8 it = some J → σ8 D = some (.raw o) → σ8 Cn = some (.ns mc) → σ8 Kc = some (.cell kv) → WP c t (fun y m' σ' => m' = m ∧ Sub σ8 σ' ∧ ∀ τ', Sub τ τ' → Nr σ' τ' → K' y τ') m σ8) :
    WP c t (fun y m' σ' => m' = m ∧ ∃ τ', K' y τ' ∧ τ' it = none ∧ τ' D = none ∧ τ' Cn = none ∧ τ' Kc = none ∧ Sub (Fr4 τ' it J D ys Cn mc Kc kv) σ') m (Fr4 τ it J D ys Cn mc Kc kv) := by
  obtain ⟨s9, q1, q2, q3, q4⟩ := Fr4.core (Sub.refl (Fr4 τ it J D ys Cn mc Kc kv)) h1 h2 h3 h4 d1 d2 d3 b1 b2 b3
  refine WP.hide q2 fun o => ?_
  have sτ : Sub τ (upd (Fr4 τ it J D ys Cn mc Kc kv) D (.raw o)) := fun a A e => upd_ne (ne_of_none h2 e) (s9 _ _ e)
  refine (h _ o sτ (upd_ne d1 q1) (upd_same _ _ _) (upd_ne d3.symm q3) (upd_ne b2.symm q4)).mono fun y m' σ' q => ?_
  obtain ⟨rfl, s', hK⟩ := q
  have e1 := s' _ _ (upd_ne d1 q1)
  have e2 := s' _ _ (upd_same (Fr4 τ it J D ys Cn mc Kc kv) D (.raw o))
  have e3 := s' _ _ (upd_ne d3.symm q3)
  have e4 := s' _ _ (upd_ne b2.symm q4)
  refine ⟨e2, rfl, ?_⟩
  have sF : Sub (Fr4 τ it J D ys Cn mc Kc kv) (upd σ' D (.xlist ys)) := Fr4.of (fun a A e => upd_ne (ne_of_none h2 e) (s' _ _ (sτ _ _ e))) (upd_ne d1 e1) (upd_same _ _ _) (upd_ne d3.symm e3) (upd_ne b2.symm e4)
  obtain ⟨σa, sa, n1, n2, n3, n4, sf, ka⟩ := close4 sF h1 h2 h3 h4 d1 d2 d3 b1 b2 b3
  refine ⟨σa, hK σa sa (fun a A hA e => ?_), n1, n2, n3, n4, sf⟩
  have w1 : a ≠ it := dat_ne e1 hJ e hA
  have w2 : a ≠ D := dat_ne e2 rfl e hA
  have w3 : a ≠ Cn := dat_ne e3 rfl e hA
  have w4 : a ≠ Kc := dat_ne e4 rfl e hA
  exact ka a A w1 w2 w3 w4 (upd_ne w2 e)
end
end
section
section
variable {c : Cf} {k : Nat} {m : Fields} {σ ρ : Gh} {Φ : Value → Fields → Gh → Prop} {env : Env}
theorem sp_gdef_new {a b s : Addr} (C : Cx c (k + 2)) (h : ∀ x p q σ', Sub σ σ' → InstF σ' x 793 [("classes", .ref a), ("attach", .ref b), ("sets", .ref s), ("points", .ref p), ("carets", .ref q)] → Φ (.ref x) m σ') : WC c (.ref 793) [.ref a, .ref b, .ref s] Φ m σ := by
  refine' wp_new C ?q1 ?q2 ?q3 ?_
  case q1 => k_is
  case q2 => k_is
  case q3 => k_is
  intro x d A' C' hx hd hxd
  have hx' : (upd σ d (.attrs [])) x = none := upd_none hx hxd
  refine' enter [(Str.ofString "self", .ref x), (Str.ofString "classes", .ref a), (Str.ofString "attach", .ref b), (Str.ofString "sets", .ref s), (Str.ofString "points", .none), (Str.ofString "carets", .none)] C' ?ho ?hcd ?hb ?hloc ?_ ?hco ?hgen ?hk ?hcell
  walk_at "enter"
  case hb => exact fun s X => binds_K X rfl (by k_is) rfl rfl rfl
  intro A2 h2 L2 C2 E2
  walk_at "go"
  rename_i _ p hp
  obtain ⟨p1, p2⟩ := none_of_upd hp
  obtain ⟨p3, p4⟩ := none_of_upd p2
  generalize hfs : setF (setF (setF [] _ _) _ _) _ _ = fs
  refine sa_inst (cl := 793) (d := d) (fs := fs) C2 (upd_ne p1.symm (upd_same _ _ _)) (upd_ne p3.symm (upd_ne hxd.symm (upd_same _ _ _))) (by kernel_rfl) (by rw [← hfs]; exact lt_of_ble (by with_unfolding_all rfl)) ?_
  have hx2 : (upd (upd (upd (upd σ d (.attrs fs)) x (.inst 793 d)) p (.idict [])) d (.attrs (setF fs (Str.ofString "points") (.ref p)))) x = some (.inst 793 d) := upd_ne hxd (upd_ne p1.symm (upd_same _ _ _))
  have hd2 : (upd (upd (upd (upd σ d (.attrs fs)) x (.inst 793 d)) p (.idict [])) d (.attrs (setF fs (Str.ofString "points") (.ref p)))) d = some (.attrs (setF fs (Str.ofString "points") (.ref p))) := upd_same _ _ _
  have s2 : Sub σ (upd (upd (upd (upd σ d (.attrs fs)) x (.inst 793 d)) p (.idict [])) d (.attrs (setF fs (Str.ofString "points") (.ref p)))) := ((((Sub.refl σ).upd hd).upd (none_of_upd hx').2).upd p4).upd hd
  generalize upd (upd (upd (upd σ d (.attrs fs)) x (.inst 793 d)) p (.idict [])) d (.attrs (setF fs (Str.ofString "points") (.ref p))) = σ2 at hx2 hd2 s2 ⊢
  walk_at "go"
  rename_i _ q hq
  refine sa_inst (cl := 793) (d := d) C2 (upd_ne (ne_of_none hq hx2) hx2) (upd_ne (ne_of_none hq hd2) hd2) (by kernel_rfl) (by rw [← hfs]; exact lt_of_ble (by with_unfolding_all rfl)) ?_
  walk_at "go"
  refine ⟨rfl, h x p q _ ((s2.new hq).upd hd) ⟨d, upd_ne hxd (upd_ne (ne_of_none hq hx2) hx2), ?_⟩⟩
  rw [upd_same, ← hfs]
  rfl
/-- the law's own infos -/
structure Inf (ρ σ : Gh) (il : Addr) (cs : List Gy) : Prop where
  sub : Sub ρ σ
  lst : LstAt σ il (cs.map fun q => .ref q.x)
  cells : ∀ q ∈ cs, q.At σ
  dis : ∀ q ∈ cs, ρ q.d = none
  disl : ρ il = none
  nodup : (cs.map (·.d)).Nodup
variable {il : Addr} {cs : List Gy} {i : Nat} {q : Gy}
theorem Inf.less {ρ' : Gh} (W : Inf ρ σ il cs) (h : Sub ρ' ρ) : Inf ρ' σ il cs := ⟨h.trans W.sub, W.lst, W.cells, fun q hq => h.none_of (W.dis q hq), h.none_of W.disl, W.nodup⟩
theorem Inf.more {σ' : Gh} (W : Inf ρ σ il cs) (h : Sub σ σ') : Inf ρ σ' il cs := ⟨W.sub.trans h, W.lst.sub h, fun q hq => ⟨h _ _ (W.cells q hq).1, h _ _ (W.cells q hq).2⟩, W.dis, W.disl, W.nodup⟩
theorem Inf.new {a : Addr} {A : AO} (W : Inf ρ σ il cs) (ha : σ a = none) : Inf (upd ρ a A) (upd σ a A) il cs := by
  have hs : Sub σ (upd σ a A) := (Sub.refl _).upd ha
  exact ⟨sub_upd W.sub, W.lst.sub hs, fun q hq => ⟨hs _ _ (W.cells q hq).1, hs _ _ (W.cells q hq).2⟩, fun q hq => upd_none (W.dis q hq) (ne_of_none ha (W.cells q hq).2), upd_none W.disl (by
    obtain ⟨A, hA⟩ := W.lst.some
    exact ne_of_none ha hA), W.nodup⟩
theorem Inf.without {a : Addr} {A : AO} (W : Inf ρ σ il cs) (h : σ a = some A) (hA : A.dat = false) : Inf (Mine.without ρ a) (Mine.without σ a) il cs := by
  have kp : ∀ {x : Addr} {B : AO}, σ x = some B → B.dat = true → Mine.without σ a x = some B := fun e hB => by rw [without_ne (dat_ne h hA e hB)]; exact e
  refine ⟨fun x B e => ?_, W.lst.elim (fun e => .inl (kp e rfl)) (fun e => .inr (kp e rfl)), fun q hq => ⟨kp (W.cells q hq).1 rfl, kp (W.cells q hq).2 rfl⟩, fun q hq => ?_, ?_, W.nodup⟩
  · have hx : x ≠ a := fun q => by rw [q, without_self] at e; cases e
    rw [without_ne hx] at e ⊢; exact W.sub _ _ e
  · rw [without_ne (dat_ne h hA (W.cells q hq).2 rfl)]; exact W.dis q hq
  · obtain ⟨A, hA'⟩ := W.lst.some
    have : A.dat = true := by
      rcases W.lst with e | e
      · rw [e] at hA'; cases hA'; rfl
      · rw [e] at hA'; cases hA'; rfl
    rw [without_ne (dat_ne h hA hA' this)]; exact W.disl
theorem Inf.setv (W : Inf ρ σ il cs) (hi : cs[i]? = some q) (v' : IV) : Inf ρ (upd σ q.d (.attrs v'.fs)) il (cs.set i { q with v := v' }) := by
  obtain ⟨hlt, hq⟩ := List.getElem?_eq_some_iff.mp hi
  have hmem := List.mem_of_getElem? hi
  have hat := W.cells q hmem
  have hm : ∀ (β : Type) (f : Gy → β), (f { q with v := v' } = f q) → (cs.set i { q with v := v' }).map f = cs.map f := by
    intro β f hf
    rw [List.map_set, hf]
    apply List.ext_getElem?
    intro j
    rw [List.getElem?_set]
    split
    · rename_i e
      subst e
      split
      · rw [List.getElem?_map, hi]; rfl
      · rename_i h; exact absurd (by simpa using hlt) h
    · rfl
  refine ⟨W.sub.upd (W.dis q hmem), ?_, ?_, ?_, W.disl, ?_⟩
  · rw [hm _ (fun q => Value.ref q.x) rfl]
    exact W.lst.upd (W.lst.ne hat.2 (by simp))
  · intro q' hq'
    obtain ⟨j, hj⟩ := List.getElem?_of_mem hq'
    rw [List.getElem?_set] at hj
    split at hj
    · try rw [if_pos hlt] at hj
      cases hj
      exact ⟨upd_ne (attrs_ne hat.1 hat.2 (by simp)) hat.1, upd_same _ _ _⟩
    · rename_i hne
      have hm' := List.mem_of_getElem? hj
      have h' := W.cells q' hm'
      have hdd : q'.d ≠ q.d := by
        intro e
        have hn := W.nodup
        have e1 : (cs.map (·.d))[j]? = some q'.d := by rw [List.getElem?_map, hj]; rfl
        have e2 : (cs.map (·.d))[i]? = some q.d := by rw [List.getElem?_map, hi]; rfl
        obtain ⟨l1, e1⟩ := List.getElem?_eq_some_iff.mp e1
        obtain ⟨l2, e2⟩ := List.getElem?_eq_some_iff.mp e2
        have hp := List.pairwise_iff_getElem.mp hn
        rcases Nat.lt_or_gt_of_ne hne with hlt' | hlt'
        · exact hp i j l2 l1 hlt' (e2.trans (e.symm.trans e1.symm))
        · exact hp j i l1 l2 hlt' (e1.trans (e.trans e2.symm))
      exact ⟨upd_ne (attrs_ne h'.1 hat.2 (by simp)) h'.1, upd_ne hdd h'.2⟩
  · intro q' hq'
    have : q'.d ∈ (cs.set i { q with v := v' }).map (·.d) := List.mem_map.mpr ⟨q', hq', rfl⟩
    rw [hm _ (·.d) rfl] at this
    obtain ⟨q2, h2, e⟩ := List.mem_map.mp this
    rw [← e]; exact W.dis q2 h2
  · rw [hm _ (·.d) rfl]; exact W.nodup
end
end
section
section
variable {c : Cf} {k : Nat} {m : Fields} {σ ρ : Gh} {Φ : Value → Fields → Gh → Prop} {env : Env}
theorem comp_gm {scope : Scope} {cl : List (Str × Addr)} {p1 p2 p3 p4 p5 p6 : Pos} {rl : Addr} {cs : List Gy} (C : Cx c k) (E : Ev c env) (hk : scope.kind = .function) (hl : ∀ Cn, (compEnvC scope cl Cn env).kindOf "info" = some .local) (hrl : LstAt σ rl (cs.map fun q => .ref q.x)) (hat : ∀ q ∈ cs, q.At σ) (hsz : cs.length < 1000)
    (h : ∀ D σ', Sub σ σ' → PairsAt σ' D (cs.map gm) → Φ (.ref D) m σ') :
    CompAll c env scope cl (.Name (Str.ofString "info") p1) (.Tuple [.Attribute (.Name (Str.ofString "info") p2) (Str.ofString "glyph") p3, .Attribute (.Name (Str.ofString "info") p4) (Str.ofString "mask") p5] 0 p6) [] Φ (.ref rl) m σ := by
  refine ⟨fun i => .listIter rl i, cs.length, fun i v => (cs.map fun q => Value.ref q.x)[i]? = some v, fun i ys τ => Sub σ τ ∧ PairsV τ ys ((cs.map gm).take i), fun _ v => [("info", v)], by rw [sizeLine_eq]; omega, ⟨Sub.refl _, .nil⟩,
    fun i ys τ hK => .inl ⟨rl, _, rfl, hrl.sub hK.1, List.length_map _, rfl, fun i v e => e⟩, fun it D Cn f1 f2 f3 d1 d2 d3 => ⟨asg_name E hk (hl Cn), ?_⟩, ?_⟩
  · rintro i v ys τ hi hv ⟨s, hps⟩ h1 h2 h3
    obtain ⟨q, hq⟩ : ∃ q, cs[i]? = some q := ⟨_, List.getElem?_eq_getElem hi⟩
    rw [List.getElem?_map, hq] at hv
    cases hv
    have htk : (cs.map gm).take (i + 1) = (cs.map gm).take i ++ [gm q] := by
      rw [List.take_succ, List.getElem?_map, hq]; rfl
    refine wt_nil ⟨fun _ => ?_, fun h => by cases h⟩
    refine elt_hide (J := .listIter rl (i + 1)) (K' := fun y τ' => Sub σ τ' ∧ PairsV τ' (ys ++ [y]) ((cs.map gm).take (i + 1))) h1 h2 h3 d1 d2 d3 rfl fun σ8 oD sτ r1 rD r3 => ?_
    have hqi := (show q.At σ8 from ⟨(s.trans sτ) _ _ (hat q (List.mem_of_getElem? hq)).1, (s.trans sτ) _ _ (hat q (List.mem_of_getElem? hq)).2⟩).inst
    walk_at "go"
    refine nc_local E hk (hl Cn) r3 (by with_unfolding_all rfl) ?_
    walk_at "go"
    refine nc_local E hk (hl Cn) r3 (by with_unfolding_all rfl) ?_
    walk_at "go"
    intro T hT
    refine ⟨rfl, (Sub.refl _).upd hT, fun τ' st nt => ⟨s.trans st, ?_⟩⟩
    rw [htk]
    exact (hps.keep fun a ws e => st _ _ e).append (PairsV.one (p := gm q) (nt _ _ rfl (upd_same _ _ _)))
  · rintro ys τ ⟨s, hps⟩ hy D hD
    refine h D _ (s.trans ((Sub.refl τ).upd hD)) ?_
    rw [List.take_of_length_le (by rw [List.length_map]; exact Nat.le_refl _)] at hps
    exact (hps.keep fun a ws e => upd_ne (ne_of_none hD e) e).at_ (.inr (upd_same _ _ _))
end
end
section
section
variable {c : Cf} {k : Nat} {m : Fields} {σ ρ : Gh} {Φ : Value → Fields → Gh → Prop} {env : Env}
def LksL (ρ : Gh) (ys : List Value) (ds : List Lk) : Prop := ys.length = ds.length ∧ ∀ (j : Nat) v d, ys[j]? = some v → ds[j]? = some d → ∃ tp, v = .ref tp ∧ LLk ρ tp d
theorem LksL.snoc {ys : List Value} {ds : List Lk} {tp : Addr} {d : Lk} (h : LksL ρ ys ds) (hv : LLk ρ tp d) : LksL ρ (ys ++ [.ref tp]) (ds ++ [d]) := by
  refine ⟨by simp [h.1], fun j w u e1 e2 => ?_⟩
  by_cases hj : j < ys.length
  · rw [List.getElem?_append_left hj] at e1
    rw [List.getElem?_append_left (h.1 ▸ hj)] at e2
    exact h.2 j w u e1 e2
  · rw [List.getElem?_append_right (by omega)] at e1
    rw [List.getElem?_append_right (by have := h.1; omega)] at e2
    have e1' := List.mem_of_getElem? e1
    have e2' := List.mem_of_getElem? e2
    rw [List.mem_singleton] at e1' e2'
    rw [e1', e2']; exact ⟨tp, rfl, hv⟩
theorem LksL.sub {ρ' : Gh} {ys : List Value} {ds : List Lk} (h : LksL ρ ys ds) (hs : Sub ρ ρ') : LksL ρ' ys ds := ⟨h.1, fun j v d e1 e2 => let ⟨tp, q1, q2⟩ := h.2 j v d e1 e2; ⟨tp, q1, q2.sub hs⟩⟩
theorem LksL.nr {ρ' : Gh} {ys : List Value} {ds : List Lk} (h : LksL ρ ys ds) (hs : Nr ρ ρ') : LksL ρ' ys ds := ⟨h.1, fun j v d e1 e2 => let ⟨tp, q1, q2⟩ := h.2 j v d e1 e2; ⟨tp, q1, q2.nr hs⟩⟩
theorem LLk.keepR {ρ' : Gh} {tp rl : Addr} {d : Lk} {tk tf : Tok} (h : LLk ρ tp d) (hr : ρ tp = some (.tuple [.str d.kind tk, .int d.fl tf, .ref rl])) (k1 : ∀ a vs, ρ a = some (.tuple vs) → ρ' a = some (.tuple vs)) (k2 : ∀ a vs, ρ a = some (.idict vs) → ρ' a = some (.idict vs)) (k3 : ∀ vs, ρ rl = some (.xlist vs) → ρ' rl = some (.xlist vs)) : LLk ρ' tp d := by
  obtain ⟨tk', tf', rl', vs, h1, h2, h3⟩ := h.at_
  rw [hr] at h1
  cases h1
  exact ⟨⟨tk, tf, rl, vs, k1 _ _ hr, k3 _ h2, h3.keep fun v t q => q.keep k1 k2⟩, h.kd, h.fl, h.few⟩
theorem LLk.keep {ρ' : Gh} {tp : Addr} {d : Lk} (h : LLk ρ tp d) (k1 : ∀ a vs, ρ a = some (.tuple vs) → ρ' a = some (.tuple vs)) (k2 : ∀ a vs, ρ a = some (.idict vs) → ρ' a = some (.idict vs)) (k3 : ∀ a vs, ρ a = some (.xlist vs) → ρ' a = some (.xlist vs)) : LLk ρ' tp d := by
  obtain ⟨tk, tf, rl, vs, h1, h2, h3⟩ := h.at_
  exact ⟨⟨tk, tf, rl, vs, k1 _ _ h1, k3 _ _ h2, h3.keep fun v t q => q.keep k1 k2⟩, h.kd, h.fl, h.few⟩
/-- the names of a turn over the lookups -/
def lkNs (ρ : Gh) (v : Value) : Fields := match v with
  | .ref tp => match ρ tp with
    | some (.tuple [_, x, y]) => [(Str.ofString "flag", x), (Str.ofString "tables", y)]
    | _ => []
  | _ => []
def lkKd (ρ : Gh) (v : Value) : Value := match v with
  | .ref tp => match ρ tp with
    | some (.tuple [k, _, _]) => k
    | _ => .none
  | _ => .none
theorem lkNs_eq {tp : Addr} {k x y : Value} (e : ρ tp = some (.tuple [k, x, y])) : lkNs ρ (.ref tp) = [(Str.ofString "flag", x), (Str.ofString "tables", y)] ∧ lkKd ρ (.ref tp) = k := by simp [lkNs, lkKd, e]
theorem lkNs_cases (ρ : Gh) (v : Value) : lkNs ρ v = [] ∨ ∃ x y, lkNs ρ v = [(Str.ofString "flag", x), (Str.ofString "tables", y)] := by
  unfold lkNs
  split
  · split
    · exact .inr ⟨_, _, rfl⟩
    · exact .inl rfl
  · exact .inl rfl
/-- the row of the law: glyphs and masks -/
def RowOk (l : List (Int × Int)) : Prop := l.length ≤ 7 ∧ ∀ p ∈ l, 1 ≤ p.2 ∧ p.2 ≤ 7
theorem mask_bd {a mk : Int} (h1 : 1 ≤ a) (h7 : a ≤ 7) (hm : MkOk mk) : 0 ≤ Builtin.bitAnd a mk ∧ Builtin.bitAnd a mk ≤ 7 := by
  have : a = 1 ∨ a = 2 ∨ a = 3 ∨ a = 4 ∨ a = 5 ∨ a = 6 ∨ a = 7 := by omega
  rcases hm with rfl | rfl | rfl | rfl | rfl <;> rcases this with rfl | rfl | rfl | rfl | rfl | rfl | rfl <;> decide +kernel
theorem Wd.rest_pairs {b rl ro : Addr} {cs : List Gy} {ps : List (Int × Int)} (W : Wd ρ σ b rl cs) (h : PairsAt σ ro ps) (hne : ro ≠ rl) : PairsAt (rest σ rl cs) ro ps := by
  obtain ⟨vs, h1, h2, h3⟩ := h
  have hro : rest σ rl cs ro = σ ro := by
    unfold rest
    rw [if_neg]
    rintro (q | q)
    · exact hne q
    · obtain ⟨g, hg, e⟩ := List.mem_map.mp q
      have := (W.buf.cells g hg).2
      rw [e] at this
      rcases h1 with h1 | h1 <;> (rw [h1] at this; cases this)
  refine ⟨vs, ?_, h2, fun j v e => ?_⟩
  · unfold LstAt; rw [hro]; exact h1
  · obtain ⟨tp, t1, t2, p, e1, e2, e3⟩ := h3 j v e
    exact ⟨tp, t1, t2, p, e1, W.rest_get e2 (fun vs => ⟨by simp, by simp⟩) (fun v => by simp), e3⟩
def idxOf (kind : Str) (i : Nat) (r : Option (List Int)) : Int := match r with
  | none => -1
  | some ps => if kind == "reverse" then (i : Int) else (i : Int) + ps.length
theorem ints_len {vs : List Value} {ns : List Int} (h : IntsAre vs ns) : vs.length = ns.length := by
  induction h with
  | nil => rfl
  | cons n u _ ih => simp [ih]
theorem Wd.updc {F : Addr} {v : Option Value} {A : AO} {b rl : Addr} {cs : List Gy} (W : Wd ρ σ b rl cs) (hF : σ F = some (.cell v)) (hρ : ρ F = none) : Wd ρ (upd σ F A) b rl cs := by
  have ne : ∀ {a : Addr} {B : AO}, σ a = some B → B ≠ .cell v → a ≠ F := fun h1 h2 e => by rw [e, hF] at h1; exact h2 (Option.some.inj h1).symm
  have hrl : rl ≠ F := W.buf.row.elim (fun e => ne e (by simp)) (fun e => ne e (by simp))
  refine ⟨W.sub.upd hρ, ⟨?_, W.buf.row.upd hrl, fun q hq => ?_, W.buf.nodup⟩, W.dis, W.disl, W.size⟩
  · obtain ⟨t, d, h1, h2⟩ := W.buf.buf
    exact ⟨t, d, upd_ne (ne h1 (by simp)) h1, upd_ne (ne h2 (by simp)) h2⟩
  · have := W.buf.cells q hq
    exact ⟨upd_ne (ne this.1 (by simp)) this.1, upd_ne (ne this.2 (by simp)) this.2⟩
set_option maxHeartbeats 0 in
theorem law_ok (w : World) : ∃ oc od name qual params body scope dV kV doc pm an cdv ct osl, (hd.heap_39 w.params).lookup 859 = some ⟨oc, od, .func (fnOf name qual params body scope dV kV doc pm an cdv ct), osl⟩ ∧
    ∀ (A : Around) (h₀ : Heap) (L : Addr) (k : Nat) (f : Addr) (cdv' : Value) (σ : Gh) (sl : Addr) (svs : List Value) (sns : List Int), Cx ⟨w, A, h₀, L⟩ (k + 16) → Ev ⟨w, A, h₀, L⟩ (envOfC qual scope L f cdv') → h₀.IsList sl svs.toArray → IntsAre svs sns → svs.length ≤ 63 →
      σ 806 = some (.raw (tabObj #[])) → σ (L + 1) = some (.cell none) → σ (L + 1 + 1) = some (.cell none) → σ (L + 1 + 1 + 1) = some (.cell none) →
      WS ⟨w, A, h₀, L⟩ body (envOfC qual scope L f cdv') (fun _ _ => False) (fun v _ σ' => v = .bool true ∧ ∃ ps, σ' 806 = some (.raw (tabObj ps))) [(Str.ofString "script", .ref sl)] σ := by
  refine ⟨_, _, _, _, _, _, _, _, _, _, _, _, _, _, _, by k_is, ?_⟩
  intro A h₀ L k f0 cdv σ sl svs sns C E hbl hsi hss hP hc1 hc2 hc3
  refine ws_then (fun m' σ' => ∃ f pl F ρ, TakeS w f pl F ∧ Sub F ρ ∧ TkW ρ σ' pl 0 ∧ ρ (L + 1) = some (.cell (some (.ref f))) ∧ ρ (L + 1 + 1) = some (.cell none) ∧ ρ (L + 1 + 1 + 1) = some (.cell none) ∧ F (L + 1 + 1) = none ∧ F (L + 1 + 1 + 1) = none ∧ ∃ pst, F 806 = some (.raw (tabObj pst))) ?_ ?_
  · have hn1 : L + 1 ≠ 806 := fun q => by rw [q, hP] at hc1; cases hc1
    have hn2 : L + 1 + 1 ≠ 806 := fun q => by rw [q, hP] at hc2; cases hc2
    have hn3 : L + 1 + 1 + 1 ≠ 806 := fun q => by rw [q, hP] at hc3; cases hc3
    walk_at "go"
    refine sp_taker2 C hbl hsi (by omega) hP fun f pl F σ1 t T hF1 hpl hkeep hfree hFp ⟨pst, h8⟩ => ?_
    have e1 := hkeep _ _ hc1 hn1
    have e2 := hkeep _ _ hc2 hn2
    have e3 := hkeep _ _ hc3 hn3
    walk_at "go"
    obtain ⟨F1, n1⟩ := hfree _ _ hc1
    obtain ⟨F2, n2⟩ := hfree _ _ hc2
    obtain ⟨F3, n3⟩ := hfree _ _ hc3
    have hn8 := hfree 806 _ hP
    obtain ⟨G, hG1, hG2, hG3⟩ : ∃ G : Gh, Sub F G ∧ (∀ a, a ≠ 806 → G a = F a) ∧ G 806 = some (.raw (tabObj pst)) := ⟨upd F 806 (.raw (tabObj pst)), (Sub.refl F).upd hn8.1, fun a ha => if_neg ha, upd_same _ _ _⟩
    have hGs : Sub G σ1 := fun a A e => by
      by_cases ha : a = 806
      · rw [ha, hG3] at e; cases e; rw [ha]; exact h8
      · rw [hG2 a ha] at e; exact hF1 _ _ e
    have hGp : G pl = none := (hG2 pl hn8.2.symm).trans hFp
    have G1 : G (L + 1) = none := (hG2 _ hn1).trans F1
    have G2 : G (L + 1 + 1) = none := (hG2 _ hn2).trans F2
    have G3 : G (L + 1 + 1 + 1) = none := (hG2 _ hn3).trans F3
    refine ⟨f, pl, G, without (upd σ1 (L + 1) (.cell (some (.ref f)))) pl, T.grow hG1, fun a A e => ?_, ⟨fun a A e => ?_, without_self, 0, t, hpl.upd n1.symm, Int.le_refl _, Int.le_refl _⟩, ?_, ?_, ?_, G2, G3, pst, hG3⟩
    · rw [without_ne (ne_of_none hGp e)]
      exact upd_ne (ne_of_none G1 e) (hGs _ _ e)
    · unfold Mine.without at e
      split at e
      · cases e
      · exact e
    · rw [without_ne n1]; exact upd_same _ _ _
    · rw [without_ne n2]; exact upd_ne (adn12 L) e2
    · rw [without_ne n3]; exact upd_ne (adn13 L) e3
  clear hc1 hc2 hc3 hP hbl hsi hss
  rintro m1 σ1 ⟨f, pl, F, ρ1, T, hF1, W1, hct, hcr, hcl, hFr, hFl, pst, hF8⟩
  refine ws_then (fun m' σ' => ∃ ρ' rl l, RowOk l ∧ PairsAt ρ' rl l ∧ TkW ρ' σ' pl 15 ∧ Sub F ρ' ∧ ρ' (L + 1) = some (.cell (some (.ref f))) ∧ ρ' (L + 1 + 1) = some (.cell (some (.ref rl))) ∧ ρ' (L + 1 + 1 + 1) = some (.cell none)) ?_ ?_
  · walk_at "w"
    refine wp_compS C [(Str.ofString "take", L + 1)] ?_ ?hcl ?hce ?hki ?hna ?hfo
    case hcl => with_unfolding_all rfl
    case hce => decide
    case hki => with_unfolding_all rfl
    case hna => decide
    case hfo => intro x; with_unfolding_all rfl
    walk_at "go"
    rename_i n8 tn σ2 n0 n1 W2 r q1 q2 q3 hr
    have hn : n8 = (n8.toNat : Int) := by omega
    rw [hn]
    have hn7 : n8.toNat ≤ 7 := by omega
    generalize n8.toNat = n at hn7 ⊢
    obtain ⟨ρ3, W3, s3, e3, f3⟩ := W2.bump (.raw (rangeO 0 n 1 q1 q2 q3)) hr
    refine ⟨rI n, n, rItem, fun i ys τ => ∃ ρ' ps, Sub ρ3 ρ' ∧ TkW ρ' τ pl (1 + 2 * i) ∧ PairsV ρ' ys ps ∧ ps.length = i ∧ ∀ p ∈ ps, 1 ≤ p.2 ∧ p.2 ≤ 7, fun _ v => [(Str.ofString "spot", v)], by rw [sizeLine_eq]; omega,
      ⟨ρ3, [], Sub.refl _, W3.le (by omega), .nil, rfl, fun p hp => by cases hp⟩, fun i ys τ hK => ?_, fun it D Cn g1 g2 g3 d1 d2 d3 => ⟨by walk_at "asg", ?_⟩, ?_⟩
    · obtain ⟨ρ', ps, s, Wi, _⟩ := hK
      exact Src.up (Wi.sub _ _ (s _ _ e3)) (by omega)
    · rintro i v ys τ hi hv ⟨ρ', ps, s, Wi, hps, hl, hm7⟩ h1 h2 h3
      obtain ⟨tv, rfl⟩ := hv
      have k1 := Wi.sub.none_of h1
      have k2 := Wi.sub.none_of h2
      have k3 := Wi.sub.none_of h3
      have W8 := Wi.fr3 (J := rI n (i + 1)) (ys := ys) (mc := [(Str.ofString "spot", .int (i : Nat) tv)]) h1 h2 h3 d1 d2 d3
      have s8 : Sub ρ3 (Fr3 ρ' it (rI n (i + 1)) D ys Cn [(Str.ofString "spot", .int (i : Nat) tv)]) := s.trans (sub_fr3 k1 k2 k3)
      have hF8 : Sub F (Fr3 ρ' it (rI n (i + 1)) D ys Cn [(Str.ofString "spot", .int (i : Nat) tv)]) := hF1.trans (s3.trans s8)
      have hc8 : (Fr3 ρ' it (rI n (i + 1)) D ys Cn [(Str.ofString "spot", .int (i : Nat) tv)]) (L + 1) = some (.cell (some (.ref f))) := s8 _ _ (s3 _ _ hct)
      generalize Fr3 τ it (rI n (i + 1)) D ys Cn [(Str.ofString "spot", .int (i : Nat) tv)] = σ8 at W8 ⊢
      generalize hρ8 : Fr3 ρ' it (rI n (i + 1)) D ys Cn [(Str.ofString "spot", .int (i : Nat) tv)] = ρ8 at W8 s8 hF8 hc8
      walk_at "go"
      rename_i tc1 g trg σ9 g0 g1' W9 tg1 tc2 b trb σ10 b0 b1 W10 tb1
      intro Tn hTn
      obtain ⟨ρ11, W11, s11, e11, f11⟩ := W10.bump (.tuple [.int (1 + g) tg1, .int (1 + b) tb1]) hTn
      obtain ⟨ρa, σa, sa, Wa, m1', m2', m3', sf, ka⟩ := W11.close3 (ρ := ρ') (by rw [hρ8]; exact s11) k1 k2 k3 d1 d2 d3
      have hTne : Tn ≠ it ∧ Tn ≠ D ∧ Tn ≠ Cn := by
        have w1 : ρ8 it = some (rI n (i + 1)) := by rw [← hρ8]; exact upd_ne d2 (upd_ne d1 (upd_same _ _ _))
        have w2 : ρ8 D = some (.xlist ys) := by rw [← hρ8]; exact upd_ne d3 (upd_same _ _ _)
        have w3 : ρ8 Cn = some (.ns [(Str.ofString "spot", .int (i : Nat) tv)]) := by rw [← hρ8]; exact upd_same _ _ _
        exact ⟨(ne_of_none f11 w1).symm, (ne_of_none f11 w2).symm, (ne_of_none f11 w3).symm⟩
      refine ⟨rfl, σa, ⟨ρa, ps ++ [(1 + g, 1 + b)], s.trans sa, Wa.le (by omega), (hps.keep fun a vs e => sa _ _ e).append (PairsV.one (p := (1 + g, 1 + b)) (ka _ _ hTne.1 hTne.2.1 hTne.2.2 e11)), by simp; omega, fun p hp => ?_⟩, m1', m2', m3', sf⟩
      rcases List.mem_append.mp hp with hp | hp
      · exact hm7 p hp
      · rw [List.mem_singleton] at hp; subst hp; exact ⟨by dsimp only; omega, by dsimp only; omega⟩
    · rintro ys τ ⟨ρ', ps, s, Wi, hps, hl, hm7⟩ hy D hD
      obtain ⟨ρ4, W4, s4, e4, f4⟩ := Wi.bump (.xlist ys) hD
      have s14 := s3.trans (s.trans s4)
      have hcr4 := s14 _ _ hcr
      have hct4 := s14 _ _ hct
      have hcl4 := s14 _ _ hcl
      generalize upd τ D (.xlist ys) = σ4 at W4 ⊢
      walk_at "go"
      have W5 := W4.set (A' := .cell (some (.ref D))) hcr4
      have keep : ∀ {a : Addr} {A : AO}, ρ4 a = some A → a ≠ L + 1 + 1 → (upd ρ4 (L + 1 + 1) (.cell (some (.ref D)))) a = some A := fun e hn => upd_ne hn e
      refine ⟨_, D, ps, ⟨by omega, hm7⟩, ((hps.keep fun a vs e => s4 _ _ e).keep fun a vs e => keep e (fun q => by rw [q, hcr4] at e; cases e)).at_ (.inr (keep e4 (fun q => by rw [q, hcr4] at e4; cases e4))), W5.le (by omega), fun a A e => ?_, keep hct4 (adn12 L).symm, upd_same _ _ _, keep hcl4 (adn23 L)⟩
      exact keep (s14 _ _ (hF1 _ _ e)) (fun q => by rw [q, hFr] at e; cases e)
  clear hcr hcl hct hF1 W1
  rintro m2 σ2 ⟨ρ2, rl, l, hl, hrow, W2, hF2, hct, hcr, hcl⟩
  refine ws_then (fun m' σ' => ∃ ρ' rwl ys ds, lk m' "rows" = some (.ref rwl) ∧ ρ' rwl = some (.xlist ys) ∧ LksL ρ' ys ds ∧ 1 ≤ ds.length ∧ ds.length ≤ 3 ∧ PairsAt ρ' rl l ∧ TkW ρ' σ' pl 190 ∧ Sub F ρ' ∧ ρ' (L + 1) = some (.cell (some (.ref f))) ∧ ρ' (L + 1 + 1) = some (.cell (some (.ref rl))) ∧ ρ' (L + 1 + 1 + 1) = some (.cell none)) ?_ ?_
  · refine we_compS C E [(Str.ofString "take", L + 1)] ?_ ?hl ?hsw ?hcl ?hce ?hki ?hna ?hfo
    case hl => with_unfolding_all rfl
    case hsw => with_unfolding_all rfl
    case hcl => with_unfolding_all rfl
    case hce => decide
    case hki => with_unfolding_all rfl
    case hna => decide
    case hfo => intro x; with_unfolding_all rfl
    walk_at "go"
    rename_i n8 tn σ3 n0 n1 W3 tc r q1 q2 q3 hr
    have hn : 1 + n8 = ((1 + n8).toNat : Int) := by omega
    rw [hn]
    have hn7 : (1 + n8).toNat ≤ 3 := by omega
    have hn1 : 1 ≤ (1 + n8).toNat := by omega
    generalize (1 + n8).toNat = n at hn7 hn1 ⊢
    obtain ⟨ρ4, W4, s4, e4, f4⟩ := W3.bump (.raw (rangeO 0 n 1 q1 q2 q3)) hr
    refine ⟨rI n, n, rItem, fun i ys τ => ∃ ρ' ds, Sub ρ4 ρ' ∧ TkW ρ' τ pl (16 + 57 * i) ∧ LksL ρ' ys ds ∧ ds.length = i, fun _ v => [(Str.ofString "turn", v)], by rw [sizeLine_eq]; omega,
      ⟨ρ4, [], Sub.refl _, W4.le (by omega), ⟨rfl, fun j v d e => by cases e⟩, rfl⟩, fun i ys τ hK => ?_, fun it D Cn g1 g2 g3 d1 d2 d3 => ⟨by walk_at "asg", ?_⟩, ?_⟩
    · obtain ⟨ρ', ds, s, Wi, _⟩ := hK
      exact Src.up (Wi.sub _ _ (s _ _ e4)) (by omega)
    · rintro i v ys τ hi hv ⟨ρ', ds, s, Wi, hds, hdl⟩ h1 h2 h3
      obtain ⟨tv, rfl⟩ := hv
      have k1 := Wi.sub.none_of h1
      have k2 := Wi.sub.none_of h2
      have k3 := Wi.sub.none_of h3
      have W8 := Wi.fr3 (J := rI n (i + 1)) (ys := ys) (mc := [(Str.ofString "turn", .int (i : Nat) tv)]) h1 h2 h3 d1 d2 d3
      have s8 : Sub ρ4 (Fr3 ρ' it (rI n (i + 1)) D ys Cn [(Str.ofString "turn", .int (i : Nat) tv)]) := s.trans (sub_fr3 k1 k2 k3)
      have hF8 : Sub F (Fr3 ρ' it (rI n (i + 1)) D ys Cn [(Str.ofString "turn", .int (i : Nat) tv)]) := hF2.trans (s4.trans s8)
      have hc8 : (Fr3 ρ' it (rI n (i + 1)) D ys Cn [(Str.ofString "turn", .int (i : Nat) tv)]) (L + 1) = some (.cell (some (.ref f))) := s8 _ _ (s4 _ _ hct)
      have w1 : (Fr3 ρ' it (rI n (i + 1)) D ys Cn [(Str.ofString "turn", .int (i : Nat) tv)]) it = some (rI n (i + 1)) := upd_ne d2 (upd_ne d1 (upd_same _ _ _))
      have w2 : (Fr3 ρ' it (rI n (i + 1)) D ys Cn [(Str.ofString "turn", .int (i : Nat) tv)]) D = some (.xlist ys) := upd_ne d3 (upd_same _ _ _)
      have w3 : (Fr3 ρ' it (rI n (i + 1)) D ys Cn [(Str.ofString "turn", .int (i : Nat) tv)]) Cn = some (.ns [(Str.ofString "turn", .int (i : Nat) tv)]) := upd_same _ _ _
      generalize Fr3 τ it (rI n (i + 1)) D ys Cn [(Str.ofString "turn", .int (i : Nat) tv)] = σ8 at W8 ⊢
      generalize hρ8 : Fr3 ρ' it (rI n (i + 1)) D ys Cn [(Str.ofString "turn", .int (i : Nat) tv)] = ρ8 at W8 s8 hF8 hc8 w1 w2 w3
      walk_at "go"
      refine sp_law_lookup C W8 T hF8 (by omega) fun ρ9 σ9 tp d s9 W9 htp hL9 hrl9 => ?_
      obtain ⟨tk, tf, rl9, er9, fr9⟩ := hrl9
      walk_at "go"
      obtain ⟨ρa, σa, sa, Wa, m1', m2', m3', sf, ka⟩ := W9.close3 (ρ := ρ') (by rw [hρ8]; exact s9) k1 k2 k3 d1 d2 d3
      have v1 := s9 _ _ w1
      have v2 := s9 _ _ w2
      have v3 := s9 _ _ w3
      have kt : ∀ a A, ρ9 a = some A → A ≠ rI n (i + 1) → A ≠ .xlist ys → A ≠ .ns [(Str.ofString "turn", .int (i : Nat) tv)] → ρa a = some A := fun a A e a1 a2 a3 =>
        ka _ _ (fun q => by rw [q, v1] at e; exact a1 (Option.some.inj e).symm) (fun q => by rw [q, v2] at e; exact a2 (Option.some.inj e).symm) (fun q => by rw [q, v3] at e; exact a3 (Option.some.inj e).symm) e
      refine ⟨rfl, σa, ⟨ρa, ds ++ [d], s.trans sa, Wa.le (by omega), (hds.sub sa).snoc (hL9.keepR er9 (fun a vs e => kt _ _ e (fun q => by cases q) (fun q => by cases q) (fun q => by cases q)) (fun a vs e => kt _ _ e (fun q => by cases q) (fun q => by cases q) (fun q => by cases q)) fun vs e => ka _ _ (ne_of_none fr9 w1).symm (ne_of_none fr9 w2).symm (ne_of_none fr9 w3).symm e), by simp; omega⟩, m1', m2', m3', sf⟩
    · rintro ys τ ⟨ρ', ds, s, Wi, hds, hdl⟩ hy D hD
      obtain ⟨ρ5, W5, s5, e5, f5⟩ := Wi.bump (.xlist ys) hD
      have s15 := s4.trans (s.trans s5)
      exact ⟨ρ5, D, ys, ds, by walk_at "lk", e5, hds.sub s5, by omega, by omega, hrow.sub s15, W5.le (by omega), hF2.trans s15, s15 _ _ hct, s15 _ _ hcr, s15 _ _ hcl⟩
  clear hF2 hct hcr hcl hrow W2
  rintro m3 σ3 ⟨ρ3, rwl, ys, ds, l1, hrwl, hds, hd1, hd3, hrow, W3, hF3, hct, hcr, hcl⟩
  obtain ⟨kk, tpl, hplst, hk0, hkB⟩ := W3.at_
  obtain ⟨Apl, hApl, hAl⟩ : ∃ A, σ3 pl = some A ∧ ∀ τ : Gh, τ pl = some A → LstAt τ pl [.int kk tpl] := by
    rcases hplst with e | e
    · exact ⟨_, e, fun τ h => .inl h⟩
    · exact ⟨_, e, fun τ h => .inr h⟩
  refine WP.obj hApl fun opl hopl => ?_
  have hplr : (upd σ3 pl (.raw opl)) pl = some (.raw opl) := upd_same _ _ _
  have hρpl := W3.free
  have sβ : Sub (without ρ3 (L + 1 + 1 + 1)) (upd σ3 pl (.raw opl)) := fun a A e => by
    have h1 : a ≠ L + 1 + 1 + 1 := fun q => by rw [q, without_self] at e; cases e
    rw [without_ne h1] at e
    exact upd_ne (ne_of_none hρpl e) (W3.sub _ _ e)
  have hcl' : (upd σ3 pl (.raw opl)) (L + 1 + 1 + 1) = some (.cell none) := upd_ne (ne_of_none hρpl hcl) (W3.sub _ _ hcl)
  have nβ : Nr ρ3 (without ρ3 (L + 1 + 1 + 1)) := Nr.without hcl rfl
  have hβpl : (without ρ3 (L + 1 + 1 + 1)) pl = none := by rw [without_ne (ne_of_none hρpl hcl).symm]; exact hρpl
  have hβl : (without ρ3 (L + 1 + 1 + 1)) (L + 1 + 1 + 1) = none := without_self
  have hrwl' := nβ _ _ rfl hrwl
  have hds' := hds.nr nβ
  have hrow' := hrow.nr nβ
  have hct' : (without ρ3 (L + 1 + 1 + 1)) (L + 1) = some (.cell (some (.ref f))) := by rw [without_ne (adn13 L).symm]; exact hct
  have hcr' : (without ρ3 (L + 1 + 1 + 1)) (L + 1 + 1) = some (.cell (some (.ref rl))) := by rw [without_ne (adn23 L).symm]; exact hcr
  have hFβ : Sub F (without ρ3 (L + 1 + 1 + 1)) := fun a A e => by rw [without_ne (ne_of_none hFl e)]; exact hF3 _ _ e
  clear hrwl hds hrow hct hcr hcl hF3 nβ hρpl W3 hplst hApl
  generalize without ρ3 (L + 1 + 1 + 1) = β at sβ hβpl hβl hrwl' hds' hrow' hct' hcr' hFβ
  generalize upd σ3 pl (.raw opl) = σ4 at hplr sβ hcl' ⊢
  refine ws_then (fun m' σ' => ∃ ll, LkLst σ' ll ds ∧ lk m' "rows" = some (.ref rwl) ∧ σ' (L + 1 + 1 + 1) = some (.cell (some (.ref ll))) ∧ Sub β σ' ∧ σ' pl = some (.raw opl)) ?_ ?_
  · walk_at "w"
    refine wp_compK (kn := Str.ofString "kind") C [] ?hpc ?hcf ?_ ?hcl ?hki ?hna ?hfo
    case hpc => intro h; with_unfolding_all rfl
    case hcf => intro lo; with_unfolding_all rfl
    case hcl => with_unfolding_all rfl
    case hki => with_unfolding_all rfl
    case hna => decide
    case hfo => intro x; with_unfolding_all rfl
    walk_at "go"
    refine ⟨fun i => .listIter rwl i, ds.length, fun i v => ys[i]? = some v, fun i zs τ => Sub σ4 τ ∧ zs.length = i ∧ ∀ (j : Nat) d, j < i → ds[j]? = some d → ∃ la tl, zs[j]? = some (.ref la) ∧ (∃ tk tf tm, InstF τ la 43 [("kind", .str d.kind tk), ("flag", .int d.fl tf), ("mark_set", .int 0 tm), ("tables", .ref tl)]) ∧ TabsOk τ d.kind tl d.tabs,
      fun _ v => lkNs σ4 v, fun _ v => lkKd σ4 v, by rw [sizeLine_eq]; omega, ⟨Sub.refl _, rfl, fun j d h => absurd h (Nat.not_lt_zero _)⟩, fun i zs τ hK => ?_, fun it D Cn g1 g2 g3 g4 d1 d2 d3 b1 b2 => ⟨?_, ?_⟩, ?_⟩
    · exact .inl ⟨rwl, ys, rfl, .inr (hK.1 _ _ (sβ _ _ hrwl')), hds'.1, rfl, fun i v e => e⟩
    · intro i v zs τ old oldk σ' Φ hi hv hK hs ho hc hk hCK h'
      obtain ⟨d, hd⟩ : ∃ d, ds[i]? = some d := ⟨_, List.getElem?_eq_getElem hi⟩
      obtain ⟨tp, rfl, hL⟩ := hds'.2 i v d hv hd
      obtain ⟨tk, tf, rl9, vs9, etp, _⟩ := hL.at_
      obtain ⟨en, ek⟩ := lkNs_eq (sβ _ _ etp)
      have etp' := hs _ _ (hK.1 _ _ (sβ _ _ etp))
      have ho2 : setF (setF old (Str.ofString "flag") (.int d.fl tf)) (Str.ofString "tables") (.ref rl9) = [(Str.ofString "flag", .int d.fl tf), (Str.ofString "tables", .ref rl9)] := by
        rcases ho with rfl | ⟨j, u, rfl⟩
        · rfl
        · rcases lkNs_cases σ4 u with e | ⟨x, y, e⟩
          · simp only [e]; rfl
          · simp only [e]; rfl
      refine as_tuple C etp' (by with_unfolding_all rfl) (by with_unfolding_all rfl) ?_
      with_unfolding_all refine ao_cons ?_
      with_unfolding_all refine as_store ?_
      refine sg_cell (E.eg.comp rfl) (by with_unfolding_all rfl) (by with_unfolding_all rfl) hk ?_
      with_unfolding_all refine ao_cons ?_
      with_unfolding_all refine as_store ?_
      refine sg_local (E.eg.comp rfl) (by with_unfolding_all rfl) rfl (upd_ne hCK hc) ?_
      with_unfolding_all refine ao_cons ?_
      with_unfolding_all refine as_store ?_
      refine sg_local (E.eg.comp rfl) (by with_unfolding_all rfl) rfl (upd_same _ _ _) ?_
      with_unfolding_all refine ao_nil ?_
      rw [upd_upd, ho2]
      simp only [en, ek] at h'
      exact h'
    · rintro i v zs τ hi hv ⟨s, hzl, hz⟩ h1 h2 h3 h4
      have b3 : Cn ≠ Cn + 1 := Nat.ne_of_lt (Nat.lt_succ_self _)
      obtain ⟨d, hd⟩ : ∃ d, ds[i]? = some d := ⟨_, List.getElem?_eq_getElem hi⟩
      obtain ⟨tp, rfl, hL⟩ := hds'.2 i v d hv hd
      obtain ⟨tk, tf, rl9, vs9, etp, erl, hrw⟩ := hL.at_
      obtain ⟨en, ek⟩ := lkNs_eq (sβ _ _ etp)
      simp only [en, ek]
      refine elt_hide4 (K' := fun y τ' => Sub σ4 τ' ∧ (zs ++ [y]).length = i + 1 ∧ ∀ (j : Nat) d, j < i + 1 → ds[j]? = some d → ∃ la tl, (zs ++ [y])[j]? = some (.ref la) ∧ (∃ tk tf tm, InstF τ' la 43 [("kind", .str d.kind tk), ("flag", .int d.fl tf), ("mark_set", .int 0 tm), ("tables", .ref tl)]) ∧ TabsOk τ' d.kind tl d.tabs) h1 h2 h3 h4 d1 d2 d3 b1 b2 b3 rfl fun σ10 oD sτD p1 pD p3 p4 => ?_
      have sβ9 := sβ.trans (s.trans sτD)
      have erl10 := sβ9 _ _ erl
      walk_at "go"
      refine wp_compS C [(Str.ofString "kind", Cn + 1)] ?_ ?hcl ?hce ?hki ?hna ?hfo
      case hcl => with_unfolding_all rfl
      case hce => decide
      case hki => with_unfolding_all rfl
      case hna => decide
      case hfo => intro x; with_unfolding_all rfl
      walk_at "go"
      refine ⟨fun j => .listIter rl9 j, vs9.length, fun j v => vs9[j]? = some v, fun j ws τ2 => Sub σ10 τ2 ∧ ws.length = j ∧ ∀ (j' : Nat) v, ws[j']? = some v → ∃ ta t, v = .ref ta ∧ d.tabs[j']? = some t ∧ TabOk τ2 d.kind ta t.1 t.2, fun _ v => [(Str.ofString "one", v)], by have := hrw.1; have := hL.few; rw [sizeLine_eq]; omega, ⟨Sub.refl _, rfl, fun j v e => by cases e⟩, fun j ws τ2 hK => ?_, fun it2 D2 C2 k1 k2 k3 e1 e2 e3 => ⟨?_, ?_⟩, ?_⟩
      · exact .inl ⟨rl9, vs9, rfl, .inr (hK.1 _ _ erl10), rfl, rfl, fun i v e => e⟩
      · intro i v ws τ2 old σ' Φ' hi hv hK hs ho hc h'
        refine as_store (sg_local ((E.eg.comp rfl).comp rfl) (by with_unfolding_all rfl) rfl hc ?_)
        rcases ho with rfl | ⟨j, u, rfl⟩
        · exact h'
        · have e : setF [(Str.ofString "one", u)] (Str.ofString "one") v = [(Str.ofString "one", v)] := by rw [setF_cons]; simp
          show Φ' () _ (upd σ' C2 (.ns (setF [(Str.ofString "one", u)] (Str.ofString "one") v)))
          rw [e]; exact h'
      · rintro j v ws τ2 hj hv ⟨s2, hwl, hw⟩ m1' m2' m3'
        refine wt_nil ⟨fun _ => ?_, fun h => by cases h⟩
        obtain ⟨t, ht⟩ : ∃ t, d.tabs[j]? = some t := ⟨_, List.getElem?_eq_getElem (by have := hrw.1; omega)⟩
        have hR := hrw.2 j v t hv ht
        refine elt_hide (K' := fun y τ' => Sub σ10 τ' ∧ (ws ++ [y]).length = j + 1 ∧ ∀ (j' : Nat) v, (ws ++ [y])[j']? = some v → ∃ ta t, v = .ref ta ∧ d.tabs[j']? = some t ∧ TabOk τ' d.kind ta t.1 t.2) m1' m2' m3' e1 e2 e3 rfl fun σ11 o2 sτ2 r1 rD r3 => ?_
        have p4' := sτ2 _ _ (s2 _ _ p4)
        have sβ11 := sβ9.trans (s2.trans sτ2)
        have hR11 := hR.sub sβ11
        obtain ⟨ta0, _, _, _, rfl, _⟩ := hR
        walk_at "go"
        refine sp_law_table C hL.kd hR11 fun σ12 ta s12 hT => ?_
        walk_at "go"
        refine ⟨rfl, s12, fun τ' st nt => ⟨s2.trans st, by simp [hwl], fun j' v ev => ?_⟩⟩
        by_cases hj' : j' < ws.length
        · rw [List.getElem?_append_left hj'] at ev
          obtain ⟨ta', t', q1, q2, q3⟩ := hw j' v ev
          exact ⟨ta', t', q1, q2, q3.sub st⟩
        · have hlt := (List.getElem?_eq_some_iff.mp ev).1
          rw [List.length_append, List.length_singleton] at hlt
          have : j' = j := by omega
          subst this
          rw [List.getElem?_append_right (by omega), hwl, Nat.sub_self] at ev
          cases ev
          exact ⟨ta, t, rfl, ht, hT.nr nt⟩
      · rintro ws τ2 ⟨s2, hwl, hw⟩ hwy D2 hD2
        have sD := (Sub.refl τ2).upd hD2 (A := .xlist ws)
        have s10D := s2.trans sD
        have hTabs : TabsOk (upd τ2 D2 (.xlist ws)) d.kind D2 d.tabs := ⟨ws, .inr (upd_same _ _ _), by rw [hwl]; exact hrw.1, fun j v e => let ⟨ta, t, q1, q2, q3⟩ := hw j v e; ⟨ta, t, q1, q2, q3.sub sD⟩⟩
        generalize upd τ2 D2 (.xlist ws) = σ11 at s10D hTabs ⊢
        walk_at "go"
        rename_i t0
        refine wp_call (sp_lookup_new C fun x dd hx hd hxd => ?_)
        have s12 := new2 (A := .attrs [("kind", .str d.kind tk), ("flag", .int d.fl tf), ("mark_set", .int 0 t0), ("tables", .ref D2)]) (B := .inst 43 dd) hd hx hxd
        refine ⟨rfl, s10D.trans s12, fun τ' st nt => ⟨s.trans st, by simp [hzl], fun j d' hj hd' => ?_⟩⟩
        by_cases hji : j < i
        · obtain ⟨la, tl, q1, ⟨a1, a2, a3, q2⟩, q3⟩ := hz j d' hji hd'
          exact ⟨la, tl, by rw [List.getElem?_append_left (by omega)]; exact q1, ⟨a1, a2, a3, q2.sub st⟩, q3.sub st⟩
        · have : j = i := by omega
          subst this
          rw [hd] at hd'
          cases hd'
          refine ⟨x, D2, by rw [List.getElem?_append_right (by omega), hzl, Nat.sub_self]; rfl, ⟨tk, tf, _, InstF.nr ⟨dd, upd_same _ _ _, upd_ne hxd.symm (upd_same _ _ _)⟩ nt⟩, (hTabs.sub s12).nr nt⟩
    · rintro zs τ ⟨s, hzl, hz⟩ hy D hD
      have sD := (Sub.refl τ).upd hD (A := .xlist zs)
      have s4D := s.trans sD
      have hLk : LkLst (upd τ D (.xlist zs)) D ds := ⟨zs, .inr (upd_same _ _ _), hzl, fun j d hd => by
        have hj := (List.getElem?_eq_some_iff.mp hd).1
        obtain ⟨la, tl, q1, ⟨a1, a2, a3, q2⟩, q3⟩ := hz j d hj hd
        obtain ⟨v, ev⟩ : ∃ v, ys[j]? = some v := ⟨_, List.getElem?_eq_getElem (by rw [hds'.1]; exact hj)⟩
        obtain ⟨tp, _, hL⟩ := hds'.2 j v d ev hd
        exact ⟨hL.fine, hL.fl, la, tl, q1, ⟨a1, a2, a3, q2.sub sD⟩, q3.sub sD⟩⟩
      generalize upd τ D (.xlist zs) = σ6 at s4D hLk ⊢
      have hcl6 := s4D _ _ hcl'
      have hpl6 := s4D _ _ hplr
      have sβ6 := sβ.trans s4D
      walk_at "go"
      have hpl3 : pl ≠ L + 1 + 1 + 1 := fun q => by rw [q, hcl6] at hpl6; cases hpl6
      exact ⟨D, hLk.nr (Nr.upd hcl6 rfl), l1, upd_same _ _ _, sβ6.upd hβl, upd_ne hpl3 hpl6⟩
  clear hcl' sβ hplr l1
  rintro m4 σ5 ⟨ll, hll, l1, hcl, sβ, hplr⟩
  refine ws_then (fun m' σ' => ∃ ga, GdefOk σ' ga ∧ lk m' "rows" = some (.ref rwl) ∧ lk m' "gdef" = some (.ref ga) ∧ Sub σ5 σ') ?_ ?_
  · walk_at "go"
    refine sp_law_classes C fun D0 kvs hD0 hcl0 hk4 => ?_
    walk_at "go"
    refine dc_dict C (upd_same _ _ _) (by omega) fun D1 hD1 => ?_
    have e1 : (upd (upd σ5 D0 (.idict kvs)) D1 (.idict kvs)) D1 = some (.idict kvs) := upd_same _ _ _
    have s6 := ((Sub.refl σ5).new hD0 (A := .idict kvs)).new hD1 (A := .idict kvs)
    generalize upd (upd σ5 D0 (.idict kvs)) D1 (.idict kvs) = σ6 at e1 s6 ⊢
    walk_at "go"
    refine wp_call (sp_classdef_new C fun x1 d1 hd1 hx1 hxd1 => ?_)
    have s7 := new2 (A := .attrs [("classes", .ref D1)]) (B := .inst 696 d1) hx1 hd1 hxd1
    have i7 : InstF (upd (upd σ6 d1 (.attrs [("classes", .ref D1)])) x1 (.inst 696 d1)) x1 696 [("classes", .ref D1)] := ⟨d1, upd_same _ _ _, upd_ne hxd1.symm (upd_same _ _ _)⟩
    generalize upd (upd σ6 d1 (.attrs [("classes", .ref D1)])) x1 (.inst 696 d1) = σ7 at s7 i7 ⊢
    walk_at "go"
    rename_i D2 hD2
    refine wp_call (sp_classdef_new C fun x2 d2 hd2 hx2 hxd2 => ?_)
    have s8 := ((Sub.refl σ7).new hD2 (A := .idict [])).trans (new2 (A := .attrs [("classes", .ref D2)]) (B := .inst 696 d2) hx2 hd2 hxd2)
    generalize upd (upd (upd σ7 D2 (.idict [])) d2 (.attrs [("classes", .ref D2)])) x2 (.inst 696 d2) = σ8 at s8 ⊢
    walk_at "go"
    rename_i D3 hD3
    refine wp_call (sp_gdef_new C fun x3 p3 q3 σ9 s9 i9 => ?_)
    have s89 := ((Sub.refl σ8).new hD3 (A := .xlist [])).trans s9
    walk_at "go"
    have s79 := s8.trans s89
    exact ⟨x3, ⟨x1, x2, D3, p3, q3, D1, kvs, i9, i7.sub s79, (s7.trans s79) _ _ e1, hcl0⟩, by walk_at "lk", by walk_at "lk", (s6.trans s7).trans s79⟩
  rintro m5 σ6 ⟨ga, hga, l1', l2, s56⟩
  replace hll := hll.nr (Nr.of s56)
  replace hcl := s56 _ _ hcl
  replace sβ := sβ.trans s56
  replace hplr := s56 _ _ hplr
  clear l1 s56
  refine ws_then (fun m' σ' => ∃ il cs, lk m' "rows" = some (.ref rwl) ∧ lk m' "gdef" = some (.ref ga) ∧ lk m' "infos" = some (.ref il) ∧ Inf σ6 σ' il cs ∧ cs.length = l.length ∧ ∀ (j : Nat) q p, cs[j]? = some q → l[j]? = some p → q.v.g = p.1) ?_ ?_
  · obtain ⟨rvs, hrvs, hrvv⟩ := (hrow'.sub sβ).v
    have hcr6 := sβ _ _ hcr'
    refine we_compS C E [(Str.ofString "row", L + 1 + 1)] ?_ ?hl ?hsw ?hcl ?hce ?hki ?hna ?hfo
    case hl => with_unfolding_all rfl
    case hsw => with_unfolding_all rfl
    case hcl => with_unfolding_all rfl
    case hce => decide
    case hki => with_unfolding_all rfl
    case hna => decide
    case hfo => intro x; with_unfolding_all rfl
    have hrl7 : rvs.length < 2 ^ 63 := by have := hrvv.1; have := hl.1; omega
    have hl7 := hl.1
    walk_at "go"
    rename_i r q1 q2 q3 hr
    rw [hrvv.1]
    have sr := (Sub.refl σ6).upd hr (A := .raw (rangeO 0 l.length 1 q1 q2 q3))
    have er : (upd σ6 r (.raw (rangeO 0 l.length 1 q1 q2 q3))) r = some (.raw (rangeO 0 l.length 1 q1 q2 q3)) := upd_same _ _ _
    change CompAll _ _ _ _ _ _ _ _ _ _ (upd σ6 r (.raw (rangeO 0 l.length 1 q1 q2 q3)))
    generalize upd σ6 r (.raw (rangeO 0 l.length 1 q1 q2 q3)) = σr at sr er ⊢
    refine ⟨rI l.length, l.length, rItem, fun i zs τ => Sub σr τ ∧ ∃ cs : List Gy, zs = cs.map (fun q => .ref q.x) ∧ cs.length = i ∧ (∀ q ∈ cs, q.At τ ∧ σr q.d = none) ∧ (cs.map (·.d)).Nodup ∧ ∀ (j : Nat) q p, cs[j]? = some q → l[j]? = some p → q.v.g = p.1, fun _ v => [(Str.ofString "spot", v)], by rw [sizeLine_eq]; omega,
      ⟨Sub.refl _, [], rfl, rfl, (fun q hq => (by cases hq)), List.nodup_nil, (fun j q p e => (by cases e))⟩, fun i zs τ hK => ?_, fun it D Cn g1 g2 g3 d1 d2 d3 => ⟨by walk_at "asg", ?_⟩, ?_⟩
    · exact Src.up (hK.1 _ _ er) (by omega)
    · rintro i v zs τ hi hv ⟨s, cs, rfl, hcl, hat, hnd, hgl⟩ h1 h2 h3
      obtain ⟨tv, rfl⟩ := hv
      obtain ⟨p, hp⟩ : ∃ p, l[i]? = some p := ⟨_, List.getElem?_eq_getElem hi⟩
      obtain ⟨tp, t1, t2, ep, etp⟩ := hrvv.get i p hp
      have epi : rvs[((i : Nat) : Int).toNat]? = some (.ref tp) := by rw [Int.toNat_natCast]; exact ep
      refine wt_nil ⟨fun _ => ?_, fun h => by cases h⟩
      refine elt_hide (J := rI l.length (i + 1)) (K' := fun y τ' => Sub σr τ' ∧ ∃ cs' : List Gy, cs.map (fun q => .ref q.x) ++ [y] = cs'.map (fun q => .ref q.x) ∧ cs'.length = i + 1 ∧ (∀ q ∈ cs', q.At τ' ∧ σr q.d = none) ∧ (cs'.map (·.d)).Nodup ∧ ∀ (j : Nat) q p, cs'[j]? = some q → l[j]? = some p → q.v.g = p.1) h1 h2 h3 d1 d2 d3 rfl fun σ8 oD sτ r1 rD r3 => ?_
      have s68 := sr.trans (s.trans sτ)
      have hcr8 := s68 _ _ hcr6
      have hrvs8 := hrvs.sub s68
      have etp8 := s68 _ _ etp
      walk_at "go"
      refine wp_call (sp_info_new C fun x d v hx hd hxd hv => ?_)
      have s9 := new2 (A := .attrs v.fs) (B := .inst 142 d) hd hx hxd
      refine ⟨rfl, s9, fun τ' st nt => ⟨s.trans st, cs ++ [⟨x, d, v⟩], by simp, by simp [hcl], fun q hq => ?_, ?_, fun j q p' ej ep' => ?_⟩⟩
      · rcases List.mem_append.mp hq with hq | hq
        · exact ⟨⟨st _ _ (hat q hq).1.1, st _ _ (hat q hq).1.2⟩, (hat q hq).2⟩
        · rw [List.mem_singleton] at hq
          subst hq
          exact ⟨⟨nt _ _ rfl (upd_same _ _ _), nt _ _ rfl (upd_ne hxd.symm (upd_same _ _ _))⟩, (s.trans sτ).none_of hd⟩
      · rw [List.map_append, List.nodup_append]
        refine ⟨hnd, by simp, fun a ha b hb e => ?_⟩
        simp only [List.map_cons, List.map_nil, List.mem_singleton] at hb
        obtain ⟨q, hq, rfl⟩ := List.mem_map.mp ha
        have := sτ _ _ (hat q hq).1.2
        rw [e, hb, hd] at this
        cases this
      · by_cases hj : j < cs.length
        · rw [List.getElem?_append_left hj] at ej
          exact hgl j q p' ej ep'
        · have hlt := (List.getElem?_eq_some_iff.mp ej).1
          rw [List.length_append, List.length_singleton] at hlt
          have : j = i := by omega
          subst this
          rw [List.getElem?_append_right (by omega), hcl, Nat.sub_self] at ej
          cases ej
          rw [hp] at ep'
          cases ep'
          exact hv.1
    · rintro zs τ ⟨s, cs, rfl, hcl, hat, hnd, hgl⟩ hy D hD
      have sD := (Sub.refl τ).upd hD (A := .xlist (cs.map fun q => .ref q.x))
      have s6τ := sr.trans s
      exact ⟨D, cs, by walk_at "lk", by walk_at "lk", by walk_at "lk", ⟨s6τ.trans sD, .inr (upd_same _ _ _), fun q hq => ⟨sD _ _ (hat q hq).1.1, sD _ _ (hat q hq).1.2⟩, fun q hq => sr.none_of (hat q hq).2, s6τ.none_of hD, hnd⟩, hcl, hgl⟩
  rintro m6 σ7 ⟨il, cs0, l1, l2, l3, I7, hcs0, hcg0⟩
  clear l1'
  refine ws_then (fun m' σ' => ∃ cs, lk m' "rows" = some (.ref rwl) ∧ lk m' "gdef" = some (.ref ga) ∧ lk m' "infos" = some (.ref il) ∧ Inf σ6 σ' il cs ∧ cs.map gm = l) ?_ ?_
  · obtain ⟨rvs, hrvs, hrvv⟩ := (hrow'.sub (sβ.trans I7.sub)).v
    have hcr7 := I7.sub _ _ (sβ _ _ hcr')
    have hl7 := hl.1
    have hrl7 : rvs.length < 2 ^ 63 := by have := hrvv.1; omega
    walk_at "go"
    rename_i r q1 q2 q3 hr
    rw [hrvv.1]
    have I8 := I7.new (A := .raw (rangeO 0 l.length 1 q1 q2 q3)) hr
    have er : (upd σ6 r (.raw (rangeO 0 l.length 1 q1 q2 q3))) r = some (.raw (rangeO 0 l.length 1 q1 q2 q3)) := upd_same _ _ _
    have s6r : Sub σ6 (upd σ6 r (.raw (rangeO 0 l.length 1 q1 q2 q3))) := (Sub.refl σ6).upd (I7.sub.none_of hr)
    generalize upd σ6 r (.raw (rangeO 0 l.length 1 q1 q2 q3)) = σr at I8 er s6r
    obtain ⟨rvs6, hrvs6, hrvv6⟩ := (hrow'.sub (sβ.trans s6r)).v
    have hcrr := s6r _ _ (sβ _ _ hcr')
    clear hrvs hrvv hcr7 hrl7
    refine ⟨rI l.length, l.length, rItem, fun i m' τ => lk m' "rows" = some (.ref rwl) ∧ lk m' "gdef" = some (.ref ga) ∧ lk m' "infos" = some (.ref il) ∧ ∃ cs', Inf σr τ il cs' ∧ cs'.length = l.length ∧ ∀ (j : Nat) q p, cs'[j]? = some q → l[j]? = some p → q.v.g = p.1 ∧ (j < i → q.v.ms = p.2), ?_, ?_, ?_, ?_⟩
    · exact ⟨l1, l2, l3, cs0, I8, hcs0, fun j q p e1 e2 => ⟨hcg0 j q p e1 e2, fun h => absurd h (Nat.not_lt_zero _)⟩⟩
    · rintro i m' τ ⟨_, _, _, cs', I, _⟩
      exact Src.up (I.sub _ _ er) (by omega)
    · rintro it hit i v m' τ hi hv ⟨g1, g2, g3, cs', I, hcl, hcg⟩ hτ
      obtain ⟨tv, rfl⟩ := hv
      have I9 := I.new (A := rI l.length (i + 1)) hτ
      have hri : σr it = none := I.sub.none_of hτ
      have hJ : (rI l.length (i + 1)).dat = false := rfl
      have sσ : Sub σr (upd τ it (rI l.length (i + 1))) := I.sub.trans ((Sub.refl τ).upd hτ)
      have hit9 : (upd τ it (rI l.length (i + 1))) it = some (rI l.length (i + 1)) := upd_same _ _ _
      generalize rI l.length (i + 1) = J at I9 hJ sσ hit9 ⊢
      generalize upd τ it J = σ9 at I9 sσ hit9 ⊢
      obtain ⟨p, hp⟩ : ∃ p, l[i]? = some p := ⟨_, List.getElem?_eq_getElem hi⟩
      obtain ⟨q, hq⟩ : ∃ q, cs'[i]? = some q := ⟨_, List.getElem?_eq_getElem (by omega)⟩
      obtain ⟨tp, t1, t2, ep, etp⟩ := hrvv6.get i p hp
      have epi : rvs6[((i : Nat) : Int).toNat]? = some (.ref tp) := by rw [Int.toNat_natCast]; exact ep
      have eqi := gy_at hq
      have hcr9 := sσ _ _ hcrr
      have hrvs9 := hrvs6.sub sσ
      have etp9 := sσ _ _ etp
      have hil9 := I9.lst
      have hqat := I9.cells q (List.mem_of_getElem? hq)
      walk_at "go"
      refine sa_gy C hqat { q.v with ms := p.2, tm := t2 } rfl (by kernel_rfl) ?_
      have I10 := I9.setv hq { q.v with ms := p.2, tm := t2 }
      have hit10 : (upd σ9 q.d (.attrs ({ q.v with ms := p.2, tm := t2 } : IV).fs)) it = some J := upd_ne (fun e => by rw [e, hqat.2] at hit9; cases hit9; cases hJ) hit9
      refine ws_nil ⟨without (upd σ9 q.d (.attrs ({ q.v with ms := p.2, tm := t2 } : IV).fs)) it, ⟨by walk_at "lk", by walk_at "lk", by walk_at "lk", _, (I10.without hit10 hJ).less (fun a A e => ?_), by rw [List.length_set]; exact hcl, fun j q' p' e1 e2 => ?_⟩, without_self, without_sub hit10⟩
      · have hn := ne_of_none hri e
        rw [without_ne hn]; exact upd_ne hn e
      · rw [List.getElem?_set] at e1
        split at e1
        · rename_i hij
          subst hij
          rw [if_pos (by omega)] at e1
          cases e1
          rw [hp] at e2; cases e2
          exact ⟨(hcg i q p hq hp).1, fun _ => rfl⟩
        · rename_i hij
          obtain ⟨w1, w2⟩ := hcg j q' p' e1 e2
          exact ⟨w1, fun hj => w2 (by omega)⟩
    · rintro m' τ ⟨g1, g2, g3, cs', I, hcl, hcg⟩
      refine ⟨cs', g1, g2, g3, I.less s6r, ?_⟩
      apply List.ext_getElem?
      intro j
      rw [List.getElem?_map]
      by_cases hj : j < l.length
      · have e1 : cs'[j]? = some (cs'[j]'(by omega)) := List.getElem?_eq_getElem _
        have e2 : l[j]? = some l[j] := List.getElem?_eq_getElem hj
        obtain ⟨w1, w2⟩ := hcg j _ _ e1 e2
        rw [e1, e2]
        exact congrArg some (Prod.ext w1 (w2 hj))
      · rw [List.getElem?_eq_none (by omega), List.getElem?_eq_none (by omega)]; rfl
  clear hcs0 hcg0 I7 l1 l2 l3
  rintro m7 σ8 ⟨cs, l1, l2, l3, I8, hcs⟩
  have hpl8 := I8.sub _ _ hplr
  refine WP.retag (B := Apl) hpl8 (fun o ho => by have : o = opl := ho; rw [this]; exact hopl) ?_
  have n8 : Nr σ8 (without σ8 pl) := Nr.without hpl8 rfl
  have W9 : TkW (without σ8 pl) (upd σ8 pl Apl) pl 190 := by
    refine ⟨fun a A e => ?_, without_self, kk, tpl, hAl _ (upd_same _ _ _), hk0, hkB⟩
    have hn : a ≠ pl := fun q => by rw [q, without_self] at e; cases e
    rw [without_ne hn] at e
    exact upd_ne hn e
  have sβ8 : Sub β (without σ8 pl) := fun a A e => by
    rw [without_ne (ne_of_none hβpl e)]; exact I8.sub _ _ (sβ _ _ e)
  have hF9 := hFβ.trans sβ8
  have hcl9 : (without σ8 pl) (L + 1 + 1 + 1) = some (.cell (some (.ref ll))) := by
    have := I8.sub _ _ hcl
    rw [without_ne (fun q => by rw [q, hpl8] at this; cases this)]; exact this
  have hct9 := sβ8 _ _ hct'
  have hcr9 := sβ8 _ _ hcr'
  have hll9 := hll.nr ((Nr.of I8.sub).trans n8)
  have hil9 := I8.lst.nr n8
  have hat9 : ∀ q ∈ cs, q.At (without σ8 pl) := fun q hq => ⟨n8 _ _ rfl (I8.cells q hq).1, n8 _ _ rfl (I8.cells q hq).2⟩
  have n69 : Nr σ6 (without σ8 pl) := (Nr.of I8.sub).trans n8
  have hdis := I8.dis
  have hdisl := I8.disl
  have hnodup := I8.nodup
  clear n8 hplr hpl8 hopl I8 hAl hk0 hkB hcl
  generalize upd σ8 pl Apl = σ9 at W9 ⊢
  generalize without σ8 pl = ρ9 at W9 sβ8 hF9 hcl9 hct9 hcr9 hll9 hil9 hat9 n69
  refine ws_then (fun m' σ' => ∃ ρ' sl2 sv st, lk m' "rows" = some (.ref rwl) ∧ lk m' "gdef" = some (.ref ga) ∧ lk m' "infos" = some (.ref il) ∧ lk m' "steps" = some (.ref sl2) ∧ ρ' sl2 = some (.xlist sv) ∧ PairsV ρ' sv st ∧ 1 ≤ st.length ∧ st.length ≤ 4 ∧ (∀ p ∈ st, 0 ≤ p.1 ∧ p.1 < ds.length ∧ MkOk p.2) ∧ Sub ρ9 ρ' ∧ Sub ρ' σ' ∧ ρ9 sl2 = none) ?_ ?_
  · obtain ⟨lvs, hlvs, hlvl, _⟩ := hll9
    refine we_compS C E [(Str.ofString "take", L + 1), (Str.ofString "lookups", L + 1 + 1 + 1)] ?_ ?hl ?hsw ?hcl ?hce ?hki ?hna ?hfo
    case hl => with_unfolding_all rfl
    case hsw => with_unfolding_all rfl
    case hcl => with_unfolding_all rfl
    case hce => decide
    case hki => with_unfolding_all rfl
    case hna => decide
    case hfo => intro x; with_unfolding_all rfl
    walk_at "go"
    rename_i n8 tn σ3 n0 n1 W3 tc r q1 q2 q3 hr
    have hn : 1 + n8 = ((1 + n8).toNat : Int) := by omega
    rw [hn]
    have hn7 : (1 + n8).toNat ≤ 4 := by omega
    have hn1 : 1 ≤ (1 + n8).toNat := by omega
    generalize (1 + n8).toNat = n at hn7 hn1 ⊢
    obtain ⟨ρ4, W4, s4, e4, f4⟩ := W3.bump (.raw (rangeO 0 n 1 q1 q2 q3)) hr
    refine ⟨rI n, n, rItem, fun i zs τ => ∃ ρ' ps, Sub ρ4 ρ' ∧ TkW ρ' τ pl (191 + 2 * i) ∧ PairsV ρ' zs ps ∧ ps.length = i ∧ ∀ p ∈ ps, 0 ≤ p.1 ∧ p.1 < ds.length ∧ MkOk p.2, fun _ v => [(Str.ofString "turn", v)], by rw [sizeLine_eq]; omega,
      ⟨ρ4, [], Sub.refl _, W4.le (by omega), .nil, rfl, (fun p hp => (by cases hp))⟩, fun i zs τ hK => ?_, fun it D Cn g1 g2 g3 d1 d2 d3 => ⟨by walk_at "asg", ?_⟩, ?_⟩
    · obtain ⟨ρ', ps, s, Wi, _⟩ := hK
      exact Src.up (Wi.sub _ _ (s _ _ e4)) (by omega)
    · rintro i v zs τ hi hv ⟨ρ', ps, s, Wi, hps, hpl', hpm⟩ h1 h2 h3
      obtain ⟨tv, rfl⟩ := hv
      have k1 := Wi.sub.none_of h1
      have k2 := Wi.sub.none_of h2
      have k3 := Wi.sub.none_of h3
      have W8 := Wi.fr3 (J := rI n (i + 1)) (ys := zs) (mc := [(Str.ofString "turn", .int (i : Nat) tv)]) h1 h2 h3 d1 d2 d3
      have s8 : Sub ρ9 (Fr3 ρ' it (rI n (i + 1)) D zs Cn [(Str.ofString "turn", .int (i : Nat) tv)]) := s4.trans (s.trans (sub_fr3 k1 k2 k3))
      have hF8 := hF9.trans s8
      have hc8 := s8 _ _ hct9
      have hl8 := s8 _ _ hcl9
      have w1 : (Fr3 ρ' it (rI n (i + 1)) D zs Cn [(Str.ofString "turn", .int (i : Nat) tv)]) it = some (rI n (i + 1)) := upd_ne d2 (upd_ne d1 (upd_same _ _ _))
      have w2 : (Fr3 ρ' it (rI n (i + 1)) D zs Cn [(Str.ofString "turn", .int (i : Nat) tv)]) D = some (.xlist zs) := upd_ne d3 (upd_same _ _ _)
      have w3 : (Fr3 ρ' it (rI n (i + 1)) D zs Cn [(Str.ofString "turn", .int (i : Nat) tv)]) Cn = some (.ns [(Str.ofString "turn", .int (i : Nat) tv)]) := upd_same _ _ _
      generalize Fr3 τ it (rI n (i + 1)) D zs Cn [(Str.ofString "turn", .int (i : Nat) tv)] = σ8 at W8 ⊢
      generalize hρ8 : Fr3 ρ' it (rI n (i + 1)) D zs Cn [(Str.ofString "turn", .int (i : Nat) tv)] = ρ8 at W8 s8 hF8 hc8 hl8 w1 w2 w3
      have hlvs8 := hlvs.sub (s8.trans W8.sub)
      have hlz : lvs.length < 2 ^ 63 := by omega
      walk_at "go"
      refine ⟨hF8.trans W8.sub, sp_take W8 T hF8 C (by omega) (by omega) fun nn tnn σa n0' n1' Wa => ?_⟩
      walk_at "go"
      rename_i c1 c2 c3 c4 c5
      intro T1 hT1
      obtain ⟨ρb, Wb, sb, eb, fb⟩ := Wa.bump (.tuple [.int 1 c1, .int 2 c2, .int 3 c3, .int 6 c4, .int 4 c5]) hT1
      have hFb := hF8.trans sb
      have hcb := sb _ _ hc8
      generalize upd σa T1 _ = σb at Wb ⊢
      walk_at "go"
      rename_i rr trr σc r0 r1 Wc
      obtain ⟨mk, tm, hx, hmk⟩ := pick5i (a := 1) (b := 2) (d := 3) (e := 6) (g := 4) (t1 := c1) (t2 := c2) (t3 := c3) (t4 := c4) (t5 := c5) r0 r1
      walk_at "go"
      intro Tn hTn
      obtain ⟨ρe, We, se, ee, fe⟩ := Wc.bump (.tuple [.int nn tnn, .int mk tm]) hTn
      obtain ⟨ρg, σg, sg, Wg, m1', m2', m3', sf, kg⟩ := We.close3 (ρ := ρ') (by rw [hρ8]; exact sb.trans se) k1 k2 k3 d1 d2 d3
      have hTne : Tn ≠ it ∧ Tn ≠ D ∧ Tn ≠ Cn := ⟨(ne_of_none fe (sb _ _ w1)).symm, (ne_of_none fe (sb _ _ w2)).symm, (ne_of_none fe (sb _ _ w3)).symm⟩
      refine ⟨rfl, σg, ⟨ρg, ps ++ [(nn, mk)], s.trans sg, Wg.le (by omega), (hps.keep fun a vs e => sg _ _ e).append (PairsV.one (p := (nn, mk)) (kg _ _ hTne.1 hTne.2.1 hTne.2.2 ee)), by simp; omega, fun p hp => ?_⟩, m1', m2', m3', sf⟩
      rcases List.mem_append.mp hp with hp | hp
      · exact hpm p hp
      · rw [List.mem_singleton] at hp; subst hp; exact ⟨n0', by dsimp only; omega, hmk⟩
    · rintro zs τ ⟨ρ', ps, s, Wi, hps, hpl', hpm⟩ hy D hD
      obtain ⟨ρ5, W5, s5, e5, f5⟩ := Wi.bump (.xlist zs) hD
      exact ⟨ρ5, D, zs, ps, by walk_at "lk", by walk_at "lk", by walk_at "lk", by walk_at "lk", e5, hps.keep fun a vs e => s5 _ _ e, by omega, by omega, hpm, s4.trans (s.trans s5), W5.sub, (s4.trans s).none_of f5⟩
  have hP9 := hF9 _ _ hF8
  clear W9 hF9 hct9 sβ8 l1 l2 l3 hll9
  rintro m8 σ10 ⟨ρ10, sl2, sv, st, l1, l2, l3, l4, hsl2, hst, hst1, hst4, hstm, s9, s10, hslf⟩
  have hcl10 := s9 _ _ hcl9
  have hcr10 := s9 _ _ hcr9
  have hil10 := hil9.sub s9
  have hat10 : ∀ q ∈ cs, q.At ρ10 := fun q hq => ⟨s9 _ _ (hat9 q hq).1, s9 _ _ (hat9 q hq).2⟩
  have n610 : Nr σ6 ρ10 := n69.trans (Nr.of s9)
  obtain ⟨ρA, hρA⟩ : ∃ ρA : Gh, ρA = fun a => if a = il ∨ a ∈ cs.map (·.d) ∨ a = L + 1 + 1 then none else ρ10 a := ⟨_, rfl⟩
  have hAil : ρA il = none := by rw [hρA]; exact if_pos (.inl rfl)
  have hAd : ∀ q ∈ cs, ρA q.d = none := fun q hq => by rw [hρA]; exact if_pos (.inr (.inl (List.mem_map.mpr ⟨q, hq, rfl⟩)))
  have hAr : ρA (L + 1 + 1) = none := by rw [hρA]; exact if_pos (.inr (.inr rfl))
  have hAe : ∀ {a : Addr}, a ≠ il → a ∉ cs.map (·.d) → a ≠ L + 1 + 1 → ρA a = ρ10 a := fun {a} h1 h2 h3 => by
    rw [hρA]; exact if_neg (fun h => h.elim h1 (fun h => h.elim h2 h3))
  have sA : Sub ρA ρ10 := fun a A e => by
    rw [hρA] at e
    dsimp only at e
    split at e
    · cases e
    · exact e
  have hd_mem : ∀ {a : Addr}, a ∈ cs.map (·.d) → ∃ v : IV, ρ10 a = some (.attrs v.fs) := fun h => by
    obtain ⟨q, hq, rfl⟩ := List.mem_map.mp h
    exact ⟨q.v, (hat10 q hq).2⟩
  have nA : Nr σ6 ρA := fun a A hA e => by
    rw [hAe (fun q => by rw [q, hdisl] at e; cases e) (fun h => by
      obtain ⟨q, hq, rfl⟩ := List.mem_map.mp h
      rw [hdis q hq] at e; cases e) (fun q => by rw [q, sβ _ _ hcr'] at e; cases e; cases hA)]
    exact n610 a A hA e
  have hAl : ρA (L + 1 + 1 + 1) = some (.cell (some (.ref ll))) := by
    rw [hAe (fun q => by
      rw [q] at hcl10
      rcases hil10 with h | h <;> (rw [h] at hcl10; cases hcl10)) (fun h => by
      obtain ⟨v, hv⟩ := hd_mem h
      rw [hv] at hcl10; cases hcl10) (adn23 L)]
    exact hcl10
  have hP10 := s9 _ _ hP9
  have hA8 : ρA 806 = some (.raw (tabObj pst)) := by
    rw [hAe (fun q => by
      rw [q] at hP10
      rcases hil10 with h | h <;> (rw [h] at hP10; cases hP10)) (fun h => by
      obtain ⟨v, hv⟩ := hd_mem h
      rw [hv] at hP10; cases hP10) (fun q => by rw [q, hcr10] at hP10; cases hP10)]
    exact hP10
  have hLks : LksOk ρA ga ll ds := (hll.nr nA).ok (hga.nr nA) (by omega)
  have hRwl : ρA rwl = some (.xlist ys) := nA _ _ rfl (sβ _ _ hrwl')
  have hRows : LksL ρA ys ds := hds'.nr ((Nr.of sβ).trans nA)
  have hRow : PairsAt ρA rl l := hrow'.nr ((Nr.of sβ).trans nA)
  have tupA : ∀ a vs, ρ10 a = some (.tuple vs) → ρA a = some (.tuple vs) := fun a vs e => by
    rw [hAe (fun q => by
      rw [q] at e
      rcases hil10 with h | h <;> (rw [h] at e; cases e)) (fun h => by
      obtain ⟨v, hv⟩ := hd_mem h
      rw [hv] at e; cases e) (fun q => by rw [q, hcr10] at e; cases e)]
    exact e
  have hSt : PairsV ρA sv st := hst.keep tupA
  have hSl : ρA sl2 = some (.xlist sv) := by
    rw [hAe (fun q => by
      rw [q] at hslf
      rcases hil9 with h | h <;> (rw [h] at hslf; cases hslf)) (fun h => by
      obtain ⟨q, hq, e⟩ := List.mem_map.mp h
      have := (hat9 q hq).2
      rw [e, hslf] at this; cases this) (fun q => by rw [q, hcr10] at hsl2; cases hsl2)]
    exact hsl2
  have hcsl : cs.length = l.length := by rw [← hcs, List.length_map]
  have hl7 := hl.1
  clear hil9 hat9 n69 hll hga hds' hrow' hrwl' hst hslf hsl2 hcl9 hcr9 n610 nA s9 tupA hd_mem hAe hρA
  refine ws_then (fun m' σ' => ∃ b rl1 cs1, lk m' "rows" = some (.ref rwl) ∧ lk m' "gdef" = some (.ref ga) ∧ lk m' "infos" = some (.ref il) ∧ lk m' "steps" = some (.ref sl2) ∧ lk m' "buffer" = some (.ref b) ∧ Wd σ10 σ' b rl1 cs1 ∧ cs1.map gm = l) ?_ ?_
  · have hilB := hil10.sub s10
    have hatB : ∀ q ∈ cs, q.At σ10 := fun q hq => ⟨s10 _ _ (hat10 q hq).1, s10 _ _ (hat10 q hq).2⟩
    walk_at "go"
    refine ⟨fun i => .listIter il i, cs.length, fun i v => (cs.map fun q => Value.ref q.x)[i]? = some v, fun i zs τ => Sub σ10 τ ∧ ∃ cs1 : List Gy, zs = cs1.map (fun q => .ref q.x) ∧ cs1.length = i ∧ (∀ q ∈ cs1, q.At τ ∧ σ10 q.d = none) ∧ (cs1.map (·.d)).Nodup ∧ ∀ (j : Nat) q q0, cs1[j]? = some q → cs[j]? = some q0 → gm q = gm q0, fun _ v => [(Str.ofString "info", v)], by rw [sizeLine_eq]; omega,
      ⟨Sub.refl _, [], rfl, rfl, (fun q hq => (by cases hq)), List.nodup_nil, (fun j q p e => (by cases e))⟩, fun i zs τ hK => ?_, fun it D Cn g1 g2 g3 d1 d2 d3 => ⟨by walk_at "asg", ?_⟩, ?_⟩
    · exact .inl ⟨il, _, rfl, hilB.sub hK.1, List.length_map _, rfl, fun i v e => e⟩
    · rintro i v zs τ hi hv ⟨s, cs1, rfl, hcl1, hat1, hnd1, hgl1⟩ h1 h2 h3
      obtain ⟨q, hq⟩ : ∃ q, cs[i]? = some q := ⟨_, List.getElem?_eq_getElem hi⟩
      rw [List.getElem?_map, hq] at hv
      cases hv
      refine wt_nil ⟨fun _ => ?_, fun h => by cases h⟩
      refine elt_hide (J := .listIter il (i + 1)) (K' := fun y τ' => Sub σ10 τ' ∧ ∃ cs' : List Gy, cs1.map (fun q => .ref q.x) ++ [y] = cs'.map (fun q => .ref q.x) ∧ cs'.length = i + 1 ∧ (∀ q ∈ cs', q.At τ' ∧ σ10 q.d = none) ∧ (cs'.map (·.d)).Nodup ∧ ∀ (j : Nat) q q0, cs'[j]? = some q → cs[j]? = some q0 → gm q = gm q0) h1 h2 h3 d1 d2 d3 rfl fun σ8 oD sτ r1 rD r3 => ?_
      have hqat : q.At σ8 := ⟨(s.trans sτ) _ _ (hatB q (List.mem_of_getElem? hq)).1, (s.trans sτ) _ _ (hatB q (List.mem_of_getElem? hq)).2⟩
      have hqi := hqat.inst
      walk_at "go"
      refine sp_copied C hqat fun x d hx hd hxd => ?_
      have s9 := new2 (A := .attrs q.v.fs) (B := .inst 142 d) hd hx hxd
      refine ⟨rfl, s9, fun τ' st nt => ⟨s.trans st, cs1 ++ [⟨x, d, q.v⟩], by simp, by simp [hcl1], fun q' hq' => ?_, ?_, fun j q' q0 ej ep' => ?_⟩⟩
      · rcases List.mem_append.mp hq' with hq' | hq'
        · exact ⟨⟨st _ _ (hat1 q' hq').1.1, st _ _ (hat1 q' hq').1.2⟩, (hat1 q' hq').2⟩
        · rw [List.mem_singleton] at hq'
          subst hq'
          exact ⟨⟨nt _ _ rfl (upd_same _ _ _), nt _ _ rfl (upd_ne hxd.symm (upd_same _ _ _))⟩, (s.trans sτ).none_of hd⟩
      · rw [List.map_append, List.nodup_append]
        refine ⟨hnd1, by simp, fun a ha b hb e => ?_⟩
        simp only [List.map_cons, List.map_nil, List.mem_singleton] at hb
        obtain ⟨q', hq', rfl⟩ := List.mem_map.mp ha
        have := sτ _ _ (hat1 q' hq').1.2
        rw [e, hb, hd] at this
        cases this
      · by_cases hj : j < cs1.length
        · rw [List.getElem?_append_left hj] at ej
          exact hgl1 j q' q0 ej ep'
        · have hlt := (List.getElem?_eq_some_iff.mp ej).1
          rw [List.length_append, List.length_singleton] at hlt
          have : j = i := by omega
          subst this
          rw [List.getElem?_append_right (by omega), hcl1, Nat.sub_self] at ej
          cases ej
          rw [hq] at ep'
          cases ep'
          rfl
    rintro zs τ ⟨s, cs1, rfl, hcl1, hat1, hnd1, hgl1⟩ hy D hD
    have hDB : σ10 D = none := s.none_of hD
    have sD := (Sub.refl τ).upd hD (A := .xlist (cs1.map fun q => .ref q.x))
    have sBD := s.trans sD
    have eD : (upd τ D (.xlist (cs1.map fun q => .ref q.x))) D = some (.xlist (cs1.map fun q => .ref q.x)) := upd_same _ _ _
    have hatD : ∀ q ∈ cs1, q.At (upd τ D (.xlist (cs1.map fun q => .ref q.x))) := fun q hq => ⟨sD _ _ (hat1 q hq).1.1, sD _ _ (hat1 q hq).1.2⟩
    have hgm1 : cs1.map gm = l := by
      rw [← hcs]
      apply List.ext_getElem?
      intro j
      rw [List.getElem?_map, List.getElem?_map]
      by_cases hj : j < cs.length
      · have w1 : cs1[j]? = some (cs1[j]'(by omega)) := List.getElem?_eq_getElem _
        have w2 : cs[j]? = some cs[j] := List.getElem?_eq_getElem hj
        rw [w1, w2]
        exact congrArg some (hgl1 j _ _ w1 w2)
      · rw [List.getElem?_eq_none (by omega), List.getElem?_eq_none (by omega)]
    generalize upd τ D (.xlist (cs1.map fun q => .ref q.x)) = σD at sBD eD hatD ⊢
    walk_at "go"
    refine wp_call (sp_buffer_new C fun b db tb hb hdb hbd => ?_)
    have sb := new2 (A := .attrs [("row", .ref D), ("is_backward", .bool false), ("last_lig", .int 0 tb)]) (B := .inst 186 db) hdb hb hbd
    have WB : Wd σ10 (upd (upd σD db (.attrs [("row", .ref D), ("is_backward", .bool false), ("last_lig", .int 0 tb)])) b (.inst 186 db)) b D cs1 :=
      ⟨sBD.trans sb, ⟨⟨tb, db, upd_same _ _ _, upd_ne hbd.symm (upd_same _ _ _)⟩, .inr (sb _ _ eD), fun q hq => ⟨sb _ _ (hatD q hq).1, sb _ _ (hatD q hq).2⟩, hnd1⟩, fun q hq => (hat1 q hq).2, hDB, by omega⟩
    generalize upd (upd σD db (.attrs [("row", .ref D), ("is_backward", .bool false), ("last_lig", .int 0 tb)])) b (.inst 186 db) = σE at WB ⊢
    walk_at "go"
    exact ⟨b, D, cs1, by walk_at "lk", by walk_at "lk", by walk_at "lk", by walk_at "lk", by walk_at "lk", WB, hgm1⟩
  clear l1 l2 l3 l4
  rintro m9 σ11 ⟨b1, rl1, cs1, l1, l2, l3, l4, l5, WB, hgm1⟩
  obtain ⟨⟨nn, mk0⟩, hp0⟩ : ∃ p0, st[0]? = some p0 := ⟨_, List.getElem?_eq_getElem (by omega)⟩
  obtain ⟨hn0, hn1, hmk0⟩ := hstm _ (List.mem_of_getElem? hp0)
  obtain ⟨tp0, tn0, tm0, ep0, etp0⟩ := hSt.get 0 _ hp0
  dsimp only at hn0 hn1 hmk0 etp0
  obtain ⟨n0, rfl⟩ : ∃ n0 : Nat, nn = (n0 : Int) := ⟨nn.toNat, by omega⟩
  have hn0l : n0 < ds.length := by omega
  obtain ⟨d0, hd0⟩ : ∃ d0, ds[n0]? = some d0 := ⟨_, List.getElem?_eq_getElem hn0l⟩
  obtain ⟨la0, ela0, hL0⟩ : ∃ la0, ys[n0]? = some (.ref la0) ∧ LLk ρA la0 d0 := by
    obtain ⟨v, ev⟩ : ∃ v, ys[n0]? = some v := ⟨_, List.getElem?_eq_getElem (by have := hRows.1; omega)⟩
    obtain ⟨tp, rfl, h⟩ := hRows.2 _ _ _ ev hd0
    exact ⟨tp, ev, h⟩
  have ela0' : ys[((n0 : Nat) : Int).toNat]? = some (.ref la0) := by rw [Int.toNat_natCast]; exact ela0
  refine ws_then (fun m' σ' => lk m' "rows" = some (.ref rwl) ∧ lk m' "gdef" = some (.ref ga) ∧ lk m' "infos" = some (.ref il) ∧ lk m' "steps" = some (.ref sl2) ∧ lk m' "buffer" = some (.ref b1) ∧ lk m' "number" = some (.int n0 tn0) ∧ lk m' "mask" = some (.int mk0 tm0) ∧ σ11 = σ') ?_ ?_
  · have sA11 : Sub ρA σ11 := sA.trans (s10.trans WB.sub)
    have hsl11 : LstAt σ11 sl2 sv := .inr (sA11 _ _ hSl)
    have etp11 := sA11 _ _ etp0
    have ep00 : sv[((0 : Int)).toNat]? = some (.ref tp0) := ep0
    walk_at "go"
    exact ⟨by walk_at "lk", by walk_at "lk", by walk_at "lk", by walk_at "lk", by walk_at "lk", by walk_at "lk", by walk_at "lk", rfl⟩
  clear l1 l2 l3 l4 l5
  rintro m10 _ ⟨l1, l2, l3, l4, l5, l6, l7, rfl⟩
  have hmb : ∀ p ∈ l, ∀ mk, MkOk mk → 0 ≤ Builtin.bitAnd p.2 mk ∧ Builtin.bitAnd p.2 mk ≤ 7 := fun p hp mk hmk => mask_bd (hl.2 p hp).1 (hl.2 p hp).2 hmk
  refine ws_then (fun m' σ' => ∃ ro D t, lk m' "rows" = some (.ref rwl) ∧ lk m' "gdef" = some (.ref ga) ∧ lk m' "infos" = some (.ref il) ∧ lk m' "steps" = some (.ref sl2) ∧ lk m' "buffer" = some (.ref b1) ∧ lk m' "number" = some (.int n0 tn0) ∧ lk m' "mask" = some (.int mk0 tm0) ∧ lk m' "due" = some (.ref D) ∧
    Wd σ10 σ' b1 rl1 cs1 ∧ σ' D = some (.tuple [.ref ro, .int (resRun d0.kind d0.fl mk0 d0.tabs l).2 t]) ∧ PairsAt σ' ro (resRun d0.kind d0.fl mk0 d0.tabs l).1 ∧ ro ≠ rl1) ?_ ?_
  · have sA11 : Sub ρA σ11 := sA.trans (s10.trans WB.sub)
    have hrw11 : LstAt σ11 rwl ys := .inr (sA11 _ _ hRwl)
    have hcr11 := WB.sub _ _ (s10 _ _ hcr10)
    have hR11 := hRow.sub sA11
    have hL11 := hL0.sub sA11
    have hys : ys.length < 2 ^ 63 := by have := hRows.1; omega
    walk_at "go"
    refine sp_law_run C hR11 hL11 hmk0 (fun p hp => hmb p hp _ hmk0) (by omega) fun ro D σ' t s e1 e2 e3 => ?_
    walk_at "go"
    refine ⟨ro, D, t, by walk_at "lk", by walk_at "lk", by walk_at "lk", by walk_at "lk", by walk_at "lk", by walk_at "lk", by walk_at "lk", by walk_at "lk", WB.more s, e1, e2, fun q => ?_⟩
    rcases e3 with e3 | e3
    · obtain ⟨A, hA⟩ := WB.buf.row.some
      rw [← q, e3] at hA
      cases hA
    · have hrl : ∃ A, ρA rl = some A := let ⟨vs, h1, _⟩ := hRow; h1.some
      obtain ⟨A, hA⟩ := hrl
      have := (sA.trans s10) _ _ hA
      rw [← e3, q, WB.disl] at this
      cases this
  clear l1 l2 l3 l4 l5 l6 l7 WB
  rintro m11 σ12 ⟨ro, D0, td, l1, l2, l3, l4, l5, l6, l7, l8, WB, hD0, hro, hrone⟩
  refine ws_then (fun m' σ' => ∃ cs2, lk m' "rows" = some (.ref rwl) ∧ lk m' "gdef" = some (.ref ga) ∧ lk m' "infos" = some (.ref il) ∧ lk m' "steps" = some (.ref sl2) ∧ lk m' "buffer" = some (.ref b1) ∧ lk m' "number" = some (.int n0 tn0) ∧ lk m' "mask" = some (.int mk0 tm0) ∧ lk m' "due" = some (.ref D0) ∧
    Wd σ10 σ' b1 rl1 cs2 ∧ σ' D0 = some (.tuple [.ref ro, .int (resRun d0.kind d0.fl mk0 d0.tabs l).2 td]) ∧ PairsAt σ' ro (resRun d0.kind d0.fl mk0 d0.tabs l).1 ∧ cs2.map gm = (resRun d0.kind d0.fl mk0 d0.tabs l).1) ?_ ?_
  · obtain ⟨WM, sM⟩ := WB.max
    have hcl12 := WB.sub _ _ (s10 _ _ hcl10)
    have hcs1 : cs1.length = l.length := by rw [← hgm1, List.length_map]
    have hrM := WB.rest_pairs hro hrone
    have hDM := WB.rest_get hD0 (fun vs => ⟨by simp, by simp⟩) (fun v => by simp)
    have hrun : runK ds n0 mk0 (cs1.map gm) = resRun d0.kind d0.fl mk0 d0.tabs l := by rw [hgm1]; unfold runK; rw [hd0]
    walk_at "go"
    refine sp_run_sub C (hLks.sub ((sA.trans s10).trans sM)) hn0l WM hmk0 (fun p hp => ?_) (by omega) fun σ' cs' t W' hg => ?_
    · rw [hgm1] at hp
      have := hmb p hp _ hmk0
      omega
    rw [hrun] at hg ⊢
    have hD' := W'.sub _ _ hDM
    walk_at "go"
    exact ⟨cs', by walk_at "lk", by walk_at "lk", by walk_at "lk", by walk_at "lk", by walk_at "lk", by walk_at "lk", by walk_at "lk", by walk_at "lk", W'.less sM, hD', hrM.sub W'.sub, hg⟩
  clear l1 l2 l3 l4 l5 l6 l7 l8 WB hD0 hro
  rintro m12 σ13 ⟨cs2, l1, l2, l3, l4, l5, l6, l7, l8, WB, hD0, hro, hgm2⟩
  refine ws_then (fun m' σ' => lk m' "rows" = some (.ref rwl) ∧ lk m' "gdef" = some (.ref ga) ∧ lk m' "infos" = some (.ref il) ∧ lk m' "steps" = some (.ref sl2) ∧ lk m' "number" = some (.int n0 tn0) ∧ lk m' "mask" = some (.int mk0 tm0) ∧ Sub σ10 σ') ?_ ?_
  · obtain ⟨tb2, dI2⟩ := WB.buf.buf
    have hrow2 := WB.buf.row
    walk_at "go"
    refine comp_gm C E rfl (fun Cn => rfl) hrow2 WB.buf.cells WB.size fun D σ' s hD => ?_
    rw [hgm2] at hD
    have hD0' := s _ _ hD0
    have hro' := hro.sub s
    walk_at "go"
    refine cp_ne_pairs C hD hro' ?_
    rw [decide_eq_true rfl]
    walk_at "go"
    exact ⟨by walk_at "lk", by walk_at "lk", by walk_at "lk", by walk_at "lk", by walk_at "lk", by walk_at "lk", WB.sub.trans s⟩
  clear l1 l2 l3 l4 l5 l6 l7 l8 WB hD0 hro hrone hgm2
  rintro m13 σ14 ⟨l1, l2, l3, l4, l5, l6, s14⟩
  refine ws_then (fun m' σ' => lk m' "rows" = some (.ref rwl) ∧ lk m' "gdef" = some (.ref ga) ∧ lk m' "infos" = some (.ref il) ∧ lk m' "steps" = some (.ref sl2) ∧ Sub σ10 σ') ?_ ?_
  · have sA14 : Sub ρA σ14 := sA.trans (s10.trans s14)
    obtain ⟨rvs0, hrvs0, hrvv0⟩ := (hRow.sub sA14).v
    have hcr14 := s14 _ _ (s10 _ _ hcr10)
    have hrl7 : rvs0.length < 2 ^ 63 := by have := hrvv0.1; omega
    walk_at "go"
    rename_i r q1 q2 q3 hr
    rw [hrvv0.1]
    obtain ⟨σr, er, s14r, hK0⟩ : ∃ σr : Gh, σr r = some (.raw (rangeO 0 l.length 1 q1 q2 q3)) ∧ Sub σ14 σr ∧ Sub σr (upd σ14 r (.raw (rangeO 0 l.length 1 q1 q2 q3))) := ⟨_, upd_same _ _ _, (Sub.refl _).upd hr, Sub.refl _⟩
    clear hrvs0 hrvv0 hcr14 hrl7
    refine ⟨rI l.length, l.length, rItem, fun i m' τ => lk m' "rows" = some (.ref rwl) ∧ lk m' "gdef" = some (.ref ga) ∧ lk m' "infos" = some (.ref il) ∧ lk m' "steps" = some (.ref sl2) ∧ lk m' "number" = some (.int n0 tn0) ∧ lk m' "mask" = some (.int mk0 tm0) ∧ Sub σr τ, ?_, ?_, ?_, ?_⟩
    · exact ⟨l1, l2, l3, l4, l5, l6, hK0⟩
    · rintro i m' τ ⟨_, _, _, _, _, _, s⟩
      exact Src.up (s _ _ er) (by omega)
    · clear l1 l2 l3 l4 l5 l6
      rintro it hit i v m' τ hi hv ⟨l1, l2, l3, l4, l5, l6, s⟩ hτ
      obtain ⟨tv, rfl⟩ := hv
      have s10r := s14.trans s14r
      have sB10 : Sub σ10 (upd τ it (rI l.length (i + 1))) := s10r.trans (s.trans ((Sub.refl τ).upd hτ))
      generalize hσB : upd τ it (rI l.length (i + 1)) = σB at sB10 ⊢
      have sAB : Sub ρA σB := sA.trans (s10.trans sB10)
      have hilB : LstAt σB il (cs.map fun q => .ref q.x) := hil10.sub (s10.trans sB10)
      have hatB : ∀ q ∈ cs, q.At σB := fun q hq => ⟨(s10.trans sB10) _ _ (hat10 q hq).1, (s10.trans sB10) _ _ (hat10 q hq).2⟩
      obtain ⟨p, hp⟩ : ∃ p, l[i]? = some p := ⟨_, List.getElem?_eq_getElem hi⟩
      refine as_name E (by with_unfolding_all rfl) ?_
      refine ws_then (fun m' σ' => ∃ b D cs1, lk m' "rows" = some (.ref rwl) ∧ lk m' "gdef" = some (.ref ga) ∧ lk m' "infos" = some (.ref il) ∧ lk m' "steps" = some (.ref sl2) ∧ lk m' "number" = some (.int n0 tn0) ∧ lk m' "mask" = some (.int mk0 tm0) ∧ lk m' "at" = some (.int i tv) ∧ lk m' "buffer" = some (.ref b) ∧ Wd σB σ' b D cs1 ∧ cs1.map gm = l) ?_ ?_
      · walk_at "go"
        refine ⟨fun i => .listIter il i, cs.length, fun i v => (cs.map fun q => Value.ref q.x)[i]? = some v, fun i zs τ => Sub σB τ ∧ ∃ cs1 : List Gy, zs = cs1.map (fun q => .ref q.x) ∧ cs1.length = i ∧ (∀ q ∈ cs1, q.At τ ∧ σB q.d = none) ∧ (cs1.map (·.d)).Nodup ∧ ∀ (j : Nat) q q0, cs1[j]? = some q → cs[j]? = some q0 → gm q = gm q0, fun _ v => [(Str.ofString "info", v)], by rw [sizeLine_eq]; omega,
          ⟨Sub.refl _, [], rfl, rfl, (fun q hq => (by cases hq)), List.nodup_nil, (fun j q p e => (by cases e))⟩, fun i zs τ hK => ?_, fun it D Cn g1 g2 g3 d1 d2 d3 => ⟨by walk_at "asg", ?_⟩, ?_⟩
        · exact .inl ⟨il, _, rfl, hilB.sub hK.1, List.length_map _, rfl, fun i v e => e⟩
        · rintro i v zs τ hi hv ⟨s, cs1, rfl, hcl1, hat1, hnd1, hgl1⟩ h1 h2 h3
          obtain ⟨q, hq⟩ : ∃ q, cs[i]? = some q := ⟨_, List.getElem?_eq_getElem hi⟩
          rw [List.getElem?_map, hq] at hv
          cases hv
          refine wt_nil ⟨fun _ => ?_, fun h => by cases h⟩
          refine elt_hide (J := .listIter il (i + 1)) (K' := fun y τ' => Sub σB τ' ∧ ∃ cs' : List Gy, cs1.map (fun q => .ref q.x) ++ [y] = cs'.map (fun q => .ref q.x) ∧ cs'.length = i + 1 ∧ (∀ q ∈ cs', q.At τ' ∧ σB q.d = none) ∧ (cs'.map (·.d)).Nodup ∧ ∀ (j : Nat) q q0, cs'[j]? = some q → cs[j]? = some q0 → gm q = gm q0) h1 h2 h3 d1 d2 d3 rfl fun σ8 oD sτ r1 rD r3 => ?_
          have hqat : q.At σ8 := ⟨(s.trans sτ) _ _ (hatB q (List.mem_of_getElem? hq)).1, (s.trans sτ) _ _ (hatB q (List.mem_of_getElem? hq)).2⟩
          have hqi := hqat.inst
          walk_at "go"
          refine sp_copied C hqat fun x d hx hd hxd => ?_
          have s9 := new2 (A := .attrs q.v.fs) (B := .inst 142 d) hd hx hxd
          refine ⟨rfl, s9, fun τ' st nt => ⟨s.trans st, cs1 ++ [⟨x, d, q.v⟩], by simp, by simp [hcl1], fun q' hq' => ?_, ?_, fun j q' q0 ej ep' => ?_⟩⟩
          · rcases List.mem_append.mp hq' with hq' | hq'
            · exact ⟨⟨st _ _ (hat1 q' hq').1.1, st _ _ (hat1 q' hq').1.2⟩, (hat1 q' hq').2⟩
            · rw [List.mem_singleton] at hq'
              subst hq'
              exact ⟨⟨nt _ _ rfl (upd_same _ _ _), nt _ _ rfl (upd_ne hxd.symm (upd_same _ _ _))⟩, (s.trans sτ).none_of hd⟩
          · rw [List.map_append, List.nodup_append]
            refine ⟨hnd1, by simp, fun a ha b hb e => ?_⟩
            simp only [List.map_cons, List.map_nil, List.mem_singleton] at hb
            obtain ⟨q', hq', rfl⟩ := List.mem_map.mp ha
            have := sτ _ _ (hat1 q' hq').1.2
            rw [e, hb, hd] at this
            cases this
          · by_cases hj : j < cs1.length
            · rw [List.getElem?_append_left hj] at ej
              exact hgl1 j q' q0 ej ep'
            · have hlt := (List.getElem?_eq_some_iff.mp ej).1
              rw [List.length_append, List.length_singleton] at hlt
              have : j = i := by omega
              subst this
              rw [List.getElem?_append_right (by omega), hcl1, Nat.sub_self] at ej
              cases ej
              rw [hq] at ep'
              cases ep'
              rfl
        rintro zs τ ⟨s, cs1, rfl, hcl1, hat1, hnd1, hgl1⟩ hy D hD
        have hDB : σB D = none := s.none_of hD
        have sD := (Sub.refl τ).upd hD (A := .xlist (cs1.map fun q => .ref q.x))
        have sBD := s.trans sD
        have eD : (upd τ D (.xlist (cs1.map fun q => .ref q.x))) D = some (.xlist (cs1.map fun q => .ref q.x)) := upd_same _ _ _
        have hatD : ∀ q ∈ cs1, q.At (upd τ D (.xlist (cs1.map fun q => .ref q.x))) := fun q hq => ⟨sD _ _ (hat1 q hq).1.1, sD _ _ (hat1 q hq).1.2⟩
        have hgm1 : cs1.map gm = l := by
          rw [← hcs]
          apply List.ext_getElem?
          intro j
          rw [List.getElem?_map, List.getElem?_map]
          by_cases hj : j < cs.length
          · have w1 : cs1[j]? = some (cs1[j]'(by omega)) := List.getElem?_eq_getElem _
            have w2 : cs[j]? = some cs[j] := List.getElem?_eq_getElem hj
            rw [w1, w2]
            exact congrArg some (hgl1 j _ _ w1 w2)
          · rw [List.getElem?_eq_none (by omega), List.getElem?_eq_none (by omega)]
        generalize upd τ D (.xlist (cs1.map fun q => .ref q.x)) = σD at sBD eD hatD ⊢
        walk_at "go"
        refine wp_call (sp_buffer_new C fun b db tb hb hdb hbd => ?_)
        have sb := new2 (A := .attrs [("row", .ref D), ("is_backward", .bool false), ("last_lig", .int 0 tb)]) (B := .inst 186 db) hdb hb hbd
        have WB : Wd σB (upd (upd σD db (.attrs [("row", .ref D), ("is_backward", .bool false), ("last_lig", .int 0 tb)])) b (.inst 186 db)) b D cs1 :=
          ⟨sBD.trans sb, ⟨⟨tb, db, upd_same _ _ _, upd_ne hbd.symm (upd_same _ _ _)⟩, .inr (sb _ _ eD), fun q hq => ⟨sb _ _ (hatD q hq).1, sb _ _ (hatD q hq).2⟩, hnd1⟩, fun q hq => (hat1 q hq).2, hDB, by omega⟩
        generalize upd (upd σD db (.attrs [("row", .ref D), ("is_backward", .bool false), ("last_lig", .int 0 tb)])) b (.inst 186 db) = σE at WB ⊢
        walk_at "go"
        exact ⟨b, D, cs1, by walk_at "lk", by walk_at "lk", by walk_at "lk", by walk_at "lk", by walk_at "lk", by walk_at "lk", by walk_at "lk", by walk_at "lk", WB, hgm1⟩
      clear l1 l2 l3 l4 l5 l6 hilB hatB
      rintro mb1 σb1 ⟨b, D, csB, l1, l2, l3, l4, l5, l6, l7, l8, WB, hgmB⟩
      refine ws_then (fun m' σ' => ∃ v, lk m' "rows" = some (.ref rwl) ∧ lk m' "gdef" = some (.ref ga) ∧ lk m' "infos" = some (.ref il) ∧ lk m' "steps" = some (.ref sl2) ∧ lk m' "number" = some (.int n0 tn0) ∧ lk m' "mask" = some (.int mk0 tm0) ∧ lk m' "at" = some (.int i tv) ∧ lk m' "buffer" = some (.ref b) ∧ lk m' "pieces" = some v ∧ Wd σB σ' b D csB ∧ PcRes σ' v (subRes d0.kind d0.fl mk0 (l.map Prod.fst) i p.1 p.2 d0.tabs)) ?_ ?_
      · have sAb := sAB.trans WB.sub
        have hrwb : LstAt σb1 rwl ys := .inr (sAb _ _ hRwl)
        have hcrb := (s10.trans (sB10.trans WB.sub)) _ _ hcr10
        have hRb := hRow.sub sAb
        have hLb := hL0.sub sAb
        have hys : ys.length < 2 ^ 63 := by have := hRows.1; omega
        walk_at "go"
        refine sp_law_pieces C hRb hp hLb hmk0 (hmb p (List.mem_of_getElem? hp) _ hmk0) (by omega) fun v σ' s hpc => ?_
        walk_at "go"
        exact ⟨v, by walk_at "lk", by walk_at "lk", by walk_at "lk", by walk_at "lk", by walk_at "lk", by walk_at "lk", by walk_at "lk", by walk_at "lk", by walk_at "lk", WB.more s, hpc⟩
      clear l1 l2 l3 l4 l5 l6 l7 l8 WB
      rintro mb2 σb2 ⟨vp, l1, l2, l3, l4, l5, l6, l7, l8, l9, WB, hpc⟩
      refine ws_then (fun m' σ' => ∃ ti, lk m' "rows" = some (.ref rwl) ∧ lk m' "gdef" = some (.ref ga) ∧ lk m' "infos" = some (.ref il) ∧ lk m' "steps" = some (.ref sl2) ∧ lk m' "number" = some (.int n0 tn0) ∧ lk m' "mask" = some (.int mk0 tm0) ∧ lk m' "at" = some (.int i tv) ∧ lk m' "buffer" = some (.ref b) ∧ lk m' "index" = some (.int (idxOf d0.kind i (subRes d0.kind d0.fl mk0 (l.map Prod.fst) i p.1 p.2 d0.tabs)) ti) ∧ Wd σB σ' b D csB) ?_ ?_
      · have sAb := sAB.trans WB.sub
        have hrwb : LstAt σb2 rwl ys := .inr (sAb _ _ hRwl)
        have hys : ys.length < 2 ^ 63 := by have := hRows.1; omega
        obtain ⟨tk, tf, rl9, vs9, etp, _⟩ := (hL0.sub sAb).at_
        rcases hpc with ⟨e, rfl⟩ | ⟨ps, D2, vs, e, rfl, eD2, hI⟩
        · rw [e, show idxOf d0.kind i none = -1 from rfl]
          walk_at "go"
          exact ⟨_, by walk_at "lk", by walk_at "lk", by walk_at "lk", by walk_at "lk", by walk_at "lk", by walk_at "lk", by walk_at "lk", by walk_at "lk", by walk_at "lk", WB⟩
        · rw [e]
          have hlD2 : LstAt σb2 D2 vs := .inr eD2
          have hlen := ints_len hI
          have hle := subRes_le hL0.fine.le e
          have hlt : vs.length < 2 ^ 63 := by omega
          by_cases hk : d0.kind = "reverse"
          · rw [hk] at etp ⊢
            rw [show idxOf "reverse" i (some ps) = i from rfl]
            walk_at "go"
            exact ⟨_, by walk_at "lk", by walk_at "lk", by walk_at "lk", by walk_at "lk", by walk_at "lk", by walk_at "lk", by walk_at "lk", by walk_at "lk", by walk_at "lk", WB⟩
          · have hkb : (d0.kind == ("reverse" : Str)) = false := by simpa using hk
            rw [show idxOf d0.kind i (some ps) = i + vs.length by unfold idxOf; dsimp only; rw [hkb, hlen]; rfl]
            walk_at "go"
            · contradiction
            · exact ⟨_, by walk_at "lk", by walk_at "lk", by walk_at "lk", by walk_at "lk", by walk_at "lk", by walk_at "lk", by walk_at "lk", by walk_at "lk", by walk_at "lk", WB⟩
      clear l1 l2 l3 l4 l5 l6 l7 l8 l9 WB hpc
      rintro mb3 σb3 ⟨ti, l1, l2, l3, l4, l5, l6, l7, l8, l9, WB⟩
      obtain ⟨lvs, hlv1, hlv2, hlv3, hlv4⟩ := id hLks
      obtain ⟨fd, lan, tln, ea, eW, eT⟩ := hlv4 n0 d0 hd0
      have hclB : csB.length = l.length := by rw [← hgmB, List.length_map]
      obtain ⟨q, hq⟩ : ∃ q, csB[i]? = some q := ⟨_, List.getElem?_eq_getElem (by omega)⟩
      have hqp : gm q = p := Option.some.inj (by rw [← hp, ← hgmB, List.getElem?_map, hq]; rfl)
      subst hqp
      have hgys : gys csB = l.map Prod.fst := by rw [← hgmB, List.map_map]; rfl
      have hlb : LstAt σb3 ll lvs := hlv1.sub (sAB.trans WB.sub)
      have eai : lvs[((n0 : Nat) : Int).toNat]? = some (.ref lan) := by rw [Int.toNat_natCast]; exact ea
      have hclb : σb3 (L + 1 + 1 + 1) = some (.cell (some (.ref ll))) := (s10.trans (sB10.trans WB.sub)) _ _ hcl10
      have hmq := hmb (gm q) (List.mem_of_getElem? hp) _ hmk0
      have hl63 : lvs.length < 2 ^ 63 := by omega
      walk_at "go"
      refine wp_call (sp_scene_new C fun x d td hx hd hxd => ?_)
      generalize hA : AO.attrs [("buffer", .ref b), ("gdef", .ref ga), ("lookups", .ref ll), ("lookup", .ref lan), ("mask", .int mk0 tm0), ("depth", .int 0 td)] = A2
      have B1 := WB.new (A := A2) hd
      have hx1 : (upd σb3 d A2) x = none := upd_none hx hxd
      have B2 := B1.new (A := .inst 65 d) hx1
      have hs1 : Sub σB (upd (upd σB d A2) x (.inst 65 d)) := ((Sub.refl σB).upd (WB.sub.none_of hd)).trans ((Sub.refl _).upd (B1.sub.none_of hx1))
      have hS : ScOk (upd (upd σB d A2) x (.inst 65 d)) x b ga lan mk0 := ⟨_, _, _, d, upd_same _ _ _, by rw [hA]; exact upd_ne hxd.symm (upd_same _ _ _)⟩
      have eW2 := eW.sub (sAB.trans hs1)
      have W2 : SW (upd (upd σB d A2) x (.inst 65 d)) x b ga lan mk0 d0.kind d0.fl tln := ⟨hS, eW2.gd, eW2.lk, eW2.hf⟩
      have eT2 := eT.sub (sAB.trans hs1)
      generalize upd (upd σb3 d A2) x (.inst 65 d) = σ2 at B2 ⊢
      generalize upd (upd σB d A2) x (.inst 65 d) = ρ2 at B2 hs1 W2 eT2
      walk_at "go"
      refine sp_substitute_at C W2 B2 hq hmk0 ⟨hmq.1, Int.lt_of_le_of_lt hmq.2 (by decide)⟩ (by omega) eT2 ⟨fun e σ' cs' t W' hg => ?_, fun ps e σ' cs' t W' hg => ?_⟩
      · have e' : subRes d0.kind d0.fl mk0 (l.map Prod.fst) i (gm q).1 (gm q).2 d0.tabs = none := by rw [← hgys]; exact e
        rw [e'] at l9
        change lk mb3 "index" = some (.int (-1) ti) at l9
        walk_at "go"
        exact ⟨τ, ⟨by walk_at "lk", by walk_at "lk", by walk_at "lk", by walk_at "lk", by walk_at "lk", by walk_at "lk", s⟩, hτ, by rw [hσB]; exact hs1.trans W'.sub⟩
      · have e' : subRes d0.kind d0.fl mk0 (l.map Prod.fst) i (gm q).1 (gm q).2 d0.tabs = some ps := by rw [← hgys]; exact e
        rw [e'] at l9
        change lk mb3 "index" = some (.int (if d0.kind == "reverse" then (i : Int) else i + ps.length) ti) at l9
        generalize (if d0.kind == "reverse" then (i : Int) else i + ps.length) = idx at l9 ⊢
        walk_at "go"
        exact ⟨τ, ⟨by walk_at "lk", by walk_at "lk", by walk_at "lk", by walk_at "lk", by walk_at "lk", by walk_at "lk", s⟩, hτ, by rw [hσB]; exact hs1.trans W'.sub⟩
    · rintro m' τ ⟨g1, g2, g3, g4, _, _, s⟩
      exact ⟨g1, g2, g3, g4, (s14.trans s14r).trans s⟩
  clear l1 l2 l3 l4 l5 l6
  rintro m14 σ15 ⟨l1, l2, l3, l4, s15⟩
  refine ws_then (fun m' σ' => ∃ b, lk m' "rows" = some (.ref rwl) ∧ lk m' "gdef" = some (.ref ga) ∧ lk m' "steps" = some (.ref sl2) ∧ lk m' "buffer" = some (.ref b) ∧ Wd ρA σ' b il cs ∧ σ' (L + 1 + 1) = some (.cell (some (.ref rl)))) ?_ ?_
  · walk_at "go"
    refine wp_call (sp_buffer_new C fun b db tb hb hdb hbd => ?_)
    have sb := new2 (A := .attrs [("row", .ref il), ("is_backward", .bool false), ("last_lig", .int 0 tb)]) (B := .inst 186 db) hdb hb hbd
    have s16 := (s10.trans s15).trans sb
    have WB : Wd ρA (upd (upd σ15 db (.attrs [("row", .ref il), ("is_backward", .bool false), ("last_lig", .int 0 tb)])) b (.inst 186 db)) b il cs :=
      ⟨sA.trans s16, ⟨⟨tb, db, upd_same _ _ _, upd_ne hbd.symm (upd_same _ _ _)⟩, hil10.sub s16, fun q hq => ⟨s16 _ _ (hat10 q hq).1, s16 _ _ (hat10 q hq).2⟩, hnodup⟩, hAd, hAil, by omega⟩
    have hcr16 := s16 _ _ hcr10
    generalize upd (upd σ15 db (.attrs [("row", .ref il), ("is_backward", .bool false), ("last_lig", .int 0 tb)])) b (.inst 186 db) = σE at WB hcr16 ⊢
    walk_at "go"
    exact ⟨b, by walk_at "lk", by walk_at "lk", by walk_at "lk", by walk_at "lk", WB, hcr16⟩
  clear l1 l2 l3 l4
  rintro m15 σ16 ⟨b2, l1, l2, l3, l4, WB, hcr16⟩
  refine ws_then (fun m' σ' => ∃ tt, lk m' "rows" = some (.ref rwl) ∧ lk m' "gdef" = some (.ref ga) ∧ lk m' "steps" = some (.ref sl2) ∧ lk m' "buffer" = some (.ref b2) ∧ lk m' "total" = some (.int 0 tt) ∧ σ16 = σ') ?_ ?_
  · walk_at "go"
    exact ⟨_, by walk_at "lk", by walk_at "lk", by walk_at "lk", by walk_at "lk", by walk_at "lk", rfl⟩
  clear l1 l2 l3 l4
  rintro m16 _ ⟨tt0, l1, l2, l3, l4, l5, rfl⟩
  obtain ⟨sts, hsts⟩ : ∃ sts : List (Nat × Int), sts = st.map fun p => (p.1.toNat, p.2) := ⟨_, rfl⟩
  have hstl : sts.length = st.length := by rw [hsts, List.length_map]
  refine ws_then (fun m' σ' => ∃ rl2 tt, lk m' "rows" = some (.ref rwl) ∧ lk m' "gdef" = some (.ref ga) ∧ lk m' "steps" = some (.ref sl2) ∧ lk m' "buffer" = some (.ref b2) ∧ lk m' "total" = some (.int (runS ds sts l).2 tt) ∧ σ' (L + 1 + 1) = some (.cell (some (.ref rl2))) ∧ PairsAt σ' rl2 (runS ds sts l).1 ∧ rl2 ≠ il ∧ Wd ρA σ' b2 il cs) ?_ ?_
  · have hsl16 : LstAt σ16 sl2 sv := .inr (WB.sub _ _ hSl)
    walk_at "go"
    refine ⟨fun i => .listIter sl2 i, st.length, fun i v => sv[i]? = some v, fun i m' τ => ∃ rl2 l2 tot tt, lk m' "rows" = some (.ref rwl) ∧ lk m' "gdef" = some (.ref ga) ∧ lk m' "steps" = some (.ref sl2) ∧ lk m' "buffer" = some (.ref b2) ∧ lk m' "total" = some (.int tot tt) ∧ τ (L + 1 + 1) = some (.cell (some (.ref rl2))) ∧ PairsAt τ rl2 l2 ∧ rl2 ≠ il ∧
      (∀ p ∈ l2, 1 ≤ p.2 ∧ p.2 ≤ 7) ∧ l2.length ≤ 7 * 3 ^ i ∧ (runS ds (sts.drop i) l2).1 = (runS ds sts l).1 ∧ tot + (runS ds (sts.drop i) l2).2 = (runS ds sts l).2 ∧ Wd ρA τ b2 il cs, ?_, ?_, ?_, ?_⟩
    · refine ⟨rl, l, 0, tt0, l1, l2, l3, l4, l5, hcr16, hRow.sub WB.sub, fun q => ?_, hl.2, hl7, rfl, Int.zero_add _, WB⟩
      obtain ⟨vs, h1, _⟩ := hRow
      obtain ⟨A, hA⟩ := h1.some
      rw [q, hAil] at hA
      cases hA
    · rintro i m' τ ⟨rl2, l2, tot, tt, _, _, _, _, _, _, _, _, _, _, _, _, W⟩
      exact .inl ⟨sl2, sv, rfl, .inr (W.sub _ _ hSl), hSt.1, rfl, fun i v e => e⟩
    · clear l1 l2 l3 l4 l5 hcr16 hsl16 WB
      rintro it hit i v m' τ hi hv ⟨rl2, lw, tot, tt, l1, l2, l3, l4, l5, hcrt, hP2, hne2, hmk2, hlen2, hr1, hr2, W⟩ hτ
      obtain ⟨⟨nn, mk⟩, hp⟩ : ∃ p, st[i]? = some p := ⟨_, List.getElem?_eq_getElem hi⟩
      obtain ⟨tp, tn, tm, ep, etp⟩ := hSt.get i _ hp
      obtain rfl : v = .ref tp := Option.some.inj (hv.symm.trans ep)
      obtain ⟨hq0, hq1, hmk⟩ := hstm _ (List.mem_of_getElem? hp)
      dsimp only at hq0 hq1 hmk etp
      obtain ⟨n, rfl⟩ : ∃ n : Nat, nn = (n : Int) := ⟨nn.toNat, by omega⟩
      have hnl : n < ds.length := by omega
      obtain ⟨d, hd⟩ : ∃ d, ds[n]? = some d := ⟨_, List.getElem?_eq_getElem hnl⟩
      obtain ⟨la, ela, hLa⟩ : ∃ la, ys[n]? = some (.ref la) ∧ LLk ρA la d := by
        obtain ⟨v, ev⟩ : ∃ v, ys[n]? = some v := ⟨_, List.getElem?_eq_getElem (by have := hRows.1; omega)⟩
        obtain ⟨tp, rfl, h⟩ := hRows.2 _ _ _ ev hd
        exact ⟨tp, ev, h⟩
      have ela' : ys[((n : Nat) : Int).toNat]? = some (.ref la) := by rw [Int.toNat_natCast]; exact ela
      have hsi : sts[i]? = some (n, mk) := by rw [hsts, List.getElem?_map, hp]; rfl
      have hdrop : sts.drop i = (n, mk) :: sts.drop (i + 1) := by
        obtain ⟨hlt, e⟩ := List.getElem?_eq_some_iff.mp hsi
        rw [List.drop_eq_getElem_cons hlt, e]
      have hrun : runK ds n mk lw = resRun d.kind d.fl mk d.tabs lw := by unfold runK; rw [hd]
      rw [hdrop] at hr1 hr2
      simp only [runS, hrun] at hr1 hr2
      obtain ⟨hf1, hf2⟩ := runK_fine hLks.fine n mk lw
      rw [hrun] at hf1 hf2
      have hi4 : i ≤ 3 := by omega
      have h27 : 3 ^ i ≤ 27 := Nat.le_trans (Nat.pow_le_pow_right (n := 3) (by decide) hi4) (by decide)
      have hlw : lw.length < 900 := by omega
      have hne : it ≠ L + 1 + 1 := (ne_of_none hτ hcrt).symm
      have hρit : ρA it = none := W.sub.none_of hτ
      have W1 := W.new (A := .listIter sl2 (i + 1)) hτ
      have hcr1 : (upd τ it (.listIter sl2 (i + 1))) (L + 1 + 1) = some (.cell (some (.ref rl2))) := upd_ne hne.symm hcrt
      have sτ := (Sub.refl τ).upd hτ (A := .listIter sl2 (i + 1))
      have hP1 := hP2.sub sτ
      have sρ : Sub ρA (upd τ it (.listIter sl2 (i + 1))) := W.sub.trans sτ
      have hit1 : (upd τ it (.listIter sl2 (i + 1))) it = some (.listIter sl2 (i + 1)) := upd_same _ _ _
      have hilτ : ∃ A, (upd τ it (.listIter sl2 (i + 1))) il = some A := let ⟨A, h⟩ := W.buf.row.some; ⟨A, sτ _ _ h⟩
      clear sτ hP2 hcrt
      generalize upd τ it (.listIter sl2 (i + 1)) = σB at W1 hcr1 hP1 sρ hit1 hilτ ⊢
      have hrwB : LstAt σB rwl ys := .inr (sρ _ _ hRwl)
      have hLB := hLa.sub sρ
      have etpB := sρ _ _ etp
      have hys : ys.length < 2 ^ 63 := by have := hRows.1; omega
      walk_at "go"
      refine sp_law_run C hP1 hLB hmk (fun p hp => mask_bd (hmk2 p hp).1 (hmk2 p hp).2 hmk) hlw fun ro D σ' t s e1 e2 e3 => ?_
      have hcr' := s _ _ hcr1
      walk_at "go"
      have W2 := (W1.more s).updc (A := .cell (some (.ref ro))) hcr' (upd_none hAr hne.symm)
      have nU : Nr σ' (upd σ' (L + 1 + 1) (.cell (some (.ref ro)))) := Nr.upd hcr' rfl
      have hit2 : (upd σ' (L + 1 + 1) (.cell (some (.ref ro)))) it = some (.listIter sl2 (i + 1)) := upd_ne hne (s _ _ hit1)
      have nW := Nr.without hit2 rfl
      have W3 := W2.without (.inl ⟨_, _, rfl⟩) hρit
      refine ⟨without (upd σ' (L + 1 + 1) (.cell (some (.ref ro)))) it, ⟨ro, (resRun d.kind d.fl mk d.tabs lw).1, tot + (resRun d.kind d.fl mk d.tabs lw).2, _, by walk_at "lk", by walk_at "lk", by walk_at "lk", by walk_at "lk", by walk_at "lk", by rw [without_ne hne.symm]; exact upd_same _ _ _, (e2.nr nU).nr nW, fun q => ?_, fun p hp => ?_, ?_, hr1, by omega, W3⟩, without_self, without_sub hit2⟩
      · rcases e3 with e3 | e3
        · obtain ⟨A, hA⟩ := hilτ
          rw [← q, e3] at hA
          cases hA
        · exact hne2 (e3.symm.trans q)
      · obtain ⟨p1, hp1, e⟩ := hf2 p hp
        rw [e]; exact hmk2 p1 hp1
      · rw [Nat.pow_succ]; omega
    · rintro m' τ ⟨rl2, lw, tot, tt, g1, g2, g3, g4, g5, hcrt, hP2, hne2, hmk2, hlen2, hr1, hr2, W⟩
      rw [List.drop_of_length_le (by omega)] at hr1 hr2
      simp only [runS, Int.add_zero] at hr1 hr2
      subst hr1 hr2
      exact ⟨rl2, tt, g1, g2, g3, g4, g5, hcrt, hP2, hne2, W⟩
  clear l1 l2 l3 l4 l5 WB hcr16
  rintro m17 σ17 ⟨rl2, tt, l1, l2, l3, l4, l5, hcr17, hP2, hne2, WB⟩
  obtain ⟨WM, sM⟩ := WB.max
  have hrM := WB.rest_pairs hP2 hne2
  have hcrM := WB.rest_get hcr17 (fun vs => ⟨by simp, by simp⟩) (fun v => by simp)
  have hcl17 := WB.sub _ _ hAl
  have h81 : 3 ^ sts.length ≤ 81 := Nat.le_trans (Nat.pow_le_pow_right (n := 3) (by decide) (by omega : sts.length ≤ 4)) (by decide)
  walk_at "go"
  refine sp_run_stage (steps := sts) C (hLks.sub sM) WM (.inr (sM _ _ hSl)) (by rw [hstl]; exact hSt.1) (fun j v hv => ?_) (fun p hp mk hmk => ?_) (Nat.lt_of_le_of_lt (Nat.mul_le_mul (by omega : cs.length ≤ 7) h81) (by decide)) (by omega) fun σ' cs' t W' hg => ?_
  · obtain ⟨tp, t1, t2, p, rfl, e2, e3⟩ := hSt.2 j v hv
    obtain ⟨hq0, hq1, hmk⟩ := hstm p (List.mem_of_getElem? e3)
    refine ⟨tp, p.1.toNat, p.2, t1, t2, rfl, ?_, by rw [hsts, List.getElem?_map, e3]; rfl, by omega, hmk⟩
    rw [Int.toNat_of_nonneg hq0]
    exact sM _ _ e2
  · rw [hcs] at hp
    have := hmb p hp mk hmk
    exact ⟨this.1, Int.lt_of_le_of_lt this.2 (by decide)⟩
  rw [hcs] at hg ⊢
  have hcr' := W'.sub _ _ hcrM
  have hP' := hrM.sub W'.sub
  obtain ⟨tb3, dI3⟩ := W'.buf.buf
  have hrow3 := W'.buf.row
  walk_at "go"
  refine comp_gm C E rfl (fun Cn => rfl) hrow3 W'.buf.cells W'.size fun D σf s hD => ?_
  rw [hg] at hD
  have hPf := hP'.sub s
  have hcrf := s _ _ hcr'
  walk_at "go"
  refine cp_eq_pairs C hD hPf ?_
  rw [decide_eq_true rfl]
  walk_at "go"
  exact ⟨rfl, pst, s _ _ (W'.sub _ _ (sM _ _ hA8))⟩
end
end
section
section
theorem law_all (w : World) {oc : Value} {od : Option Addr} {name qual : Str} {params : Arguments} {body : List Stmt} {scope : Scope} {dV kV doc pm : Value} {an : Option Addr} {cdv ct : Value} {osl : Array (Option Value)} (ho : (hd.heap_39 w.params).lookup 859 = some ⟨oc, od, .func (fnOf name qual params body scope dV kV doc pm an cdv ct), osl⟩) :
    ∀ (A : Around) (h₀ : Heap) (L : Addr) (k : Nat) (f : Addr) (cdv' : Value) (σ : Gh) (sl : Addr) (svs : List Value) (sns : List Int), Cx ⟨w, A, h₀, L⟩ (k + 16) → Ev ⟨w, A, h₀, L⟩ (envOfC qual scope L f cdv') → h₀.IsList sl svs.toArray → IntsAre svs sns → svs.length ≤ 63 →
      σ 806 = some (.raw (tabObj #[])) → σ (L + 1) = some (.cell none) → σ (L + 1 + 1) = some (.cell none) → σ (L + 1 + 1 + 1) = some (.cell none) →
      WS ⟨w, A, h₀, L⟩ body (envOfC qual scope L f cdv') (fun _ _ => False) (fun v _ σ' => v = .bool true ∧ ∃ ps, σ' 806 = some (.raw (tabObj ps))) [(Str.ofString "script", .ref sl)] σ := by
  obtain ⟨_, _, _, _, _, _, _, _, _, _, _, _, _, _, _, ho', H⟩ := law_ok w
  rw [ho] at ho'
  unfold fnOf at ho'
  cases ho'
  exact H
theorem law_fin {w : World} {H₀ h₁ : Heap} {L fa sl : Addr} {cd : Value} {w2 w1 w0 : Obj} {vs : List Value} {ns : List Int} {g : Array GenState} {d : Drawn} {tk : Nat} {o : OsState} {oc : Value} {od : Option Addr} {name qual : Str} {params : Arguments} {body : List Stmt} {scope : Scope} {dV kV doc pm : Value} {an : Option Addr} {cdv ct : Value} {osl : Array (Option Value)}
    {Q : Flow → Shared → Prop} {E : Value → Shared → Prop} {base : Heap} {p : Program} {loose : List Str} {mean : ExcName → Option Value} {mg mb : Str → Option Value} {lks : Str → Option Value}
    (hsk : scope.kind = .function) (N : News H₀ L h₁ [(L + 1 + 1 + 1, w2), (L + 1 + 1, w1), (L + 1, w0), (806, tabObj #[])]) (e2 : w2.data = .cell none) (e1 : w1.data = .cell none) (e0 : w0.data = .cell none) (F : Fr H₀ L h₁ lks) (hlks : lks = lk [(Str.ofString "script", .ref sl)]) (K : Below callerA base [] H₀) (X : (hd.heap_39 w.params).In H₀) (T : Top p loose mean mg mb H₀) (hl : H₀.IsList sl vs.toArray) (hI : IntsAre vs ns) (hn0 : ns.length ≤ 63) (hlt : 806 < L)
    (hQ : ∀ h' tk' m' σ', St w H₀ L h' m' σ' → (∃ ps, h'.get? 806 = some (tabObj ps)) → Q (.ret (.bool true)) ⟨h', g, d, tk', o⟩)
    (ho : (hd.heap_39 w.params).lookup 859 = some ⟨oc, od, .func (fnOf name qual params body scope dV kV doc pm an cdv ct), osl⟩) : wpAny (model pg w) (callerA.deeper (envOfC qual scope L fa cd)) (execs body (envOfC qual scope L fa cd)) Q E ⟨h₁, g, d, tk, o⟩ := by
  have hn : vs.length ≤ 63 := by have := hI.length; omega
  have h1 : (806 : Nat) ≠ L + 1 := Nat.ne_of_lt (Nat.lt_succ_of_lt hlt)
  have h2 : (806 : Nat) ≠ L + 1 + 1 := Nat.ne_of_lt (Nat.lt_succ_of_lt (Nat.lt_succ_of_lt hlt))
  have h3 : (806 : Nat) ≠ L + 1 + 1 + 1 := Nat.ne_of_lt (Nat.lt_succ_of_lt (Nat.lt_succ_of_lt (Nat.lt_succ_of_lt hlt)))
  obtain ⟨σ0, hσ0⟩ : ∃ σ0 : Gh, σ0 = upd (upd (upd (upd (fun _ => none) 806 (.raw (tabObj #[]))) (L + 1) (.cell none)) (L + 1 + 1) (.cell none)) (L + 1 + 1 + 1) (.cell none) := ⟨_, rfl⟩
  have hP : σ0 806 = some (.raw (tabObj #[])) := by rw [hσ0]; exact upd_ne h3 (upd_ne h2 (upd_ne h1 (upd_same _ _ _)))
  have hc1 : σ0 (L + 1) = some (.cell none) := by rw [hσ0]; exact upd_ne (adn13 L).symm (upd_ne (adn12 L).symm (upd_same _ _ _))
  have hc2 : σ0 (L + 1 + 1) = some (.cell none) := by rw [hσ0]; exact upd_ne (adn23 L).symm (upd_same _ _ _)
  have hc3 : σ0 (L + 1 + 1 + 1) = some (.cell none) := by rw [hσ0]; exact upd_same _ _ _
  have S : St w H₀ L h₁ [(Str.ofString "script", .ref sl)] σ0 := by
    refine ⟨hlks ▸ F, Led.of_news N fun a A e => ?_⟩
    rw [hσ0] at e
    unfold upd at e
    split at e
    · rename_i q; cases e; rw [q]; exact ⟨w2, .head _, e2⟩
    · split at e
      · rename_i q; cases e; rw [q]; exact ⟨w1, .tail _ (.head _), e1⟩
      · split at e
        · rename_i q; cases e; rw [q]; exact ⟨w0, .tail _ (.tail _ (.head _)), e0⟩
        · split at e
          · rename_i q; cases e; rw [q]; exact ⟨tabObj #[], .tail _ (.tail _ (.tail _ (.head _))), rfl⟩
          · cases e
  have C : Cx ⟨w, callerA.deeper (envOfC qual scope L fa cd), H₀, L⟩ (0 + 16) :=
    ⟨⟨callerA, base, [], envOfC qual scope L fa cd, K, Around.frames_deeper rfl, rfl, hsk⟩, X, ⟨_, _, _, _, _, T⟩, rfl, by show callerA.depth + 1 + (0 + 16) < recursionLimit; decide, by show callerA.units + 3 + 20 * (0 + 16) + 20 < cLine; decide⟩
  refine wpAny_mono (law_all w ho _ H₀ L 0 fa cd σ0 sl vs ns C ⟨rfl, hsk, rfl, rfl, rfl⟩ hl hI hn hP hc1 hc2 hc3 h₁ g d tk o S) (fun fl s' q => ?_) fun _ _ x => x.elim
  obtain ⟨h', tk', m', σ', rfl, S2, hq⟩ := q
  cases fl with
  | next => exact hq.elim
  | ret v =>
    obtain ⟨rfl, ps, e8⟩ := hq
    obtain ⟨o8, ho8, rfl⟩ := S2.at_ e8
    exact hQ _ _ _ _ S2 ⟨ps, ho8⟩
  | brk => exact hq.elim
  | cont => exact hq.elim
end
end
end Mine
theorem PySem.Challenge.cw_nu0201_01_holds : PySem.Challenge.rw_nu0201_01.Holds := by
  refine hd ?_
  w_strict (k_go0)
  refine Mine.law_fin (by with_unfolding_all rfl) (by assumption) ?e2 ?e1 ?e0 (by assumption) ?hm (by assumption) (by assumption) (by assumption) (by assumption) (by assumption) ?hn (by assumption) (fun h' tk' m' σ' S h8 => ?_) (by k_is)
  case e2 => refine Eq.trans (by assumption) ?_; with_unfolding_all rfl
  case e1 => refine Eq.trans (by assumption) ?_; with_unfolding_all rfl
  case e0 => refine Eq.trans (by assumption) ?_; with_unfolding_all rfl
  case hm => funext y; with_unfolding_all rfl
  case hn => omega
  refine ⟨PySem.W.goodW_bool S.fr (by assumption) (PySem.W.raisesW_false (by wrow_none_raised)) ?_, ⟨h8, trivial⟩⟩
  kc_post
