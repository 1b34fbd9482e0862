import PyProof.Rows.All
import Wide.All
import OpenK.AllK
import Wide.FinOn
import PyProof.ExcInit
import KE.KSuperObj
import PyProof.CompFree
import PyProof.DictWalks
import KE.KDictSum
import PyProof.Rows.SortShellK
import PyProof.Rows.SortStr
import KE.LcSums
import OpenK.KMake
import PyProof.ExcAttrAll.Exception
import PyProof.RulesAs
import PyProof.ExcClass
import PyProof.NsDelKeeps
import KE.KEqDict
import PyProof.EqKinds
import PyProof.NeKinds
import KE.KDictOf
import PyProof.PvWalk
import PyProof.RangeFor
import PyProof.RangeIter
import PySem.Challenge.RW_sm0004_01

set_option Elab.async false
set_option maxRecDepth 100000
set_option compiler.extract_closed false
set_option tactic.hygienic false
set_option genInjectivity false
set_option genSizeOf false
set_option genSizeOfSpec false
set_option linter.unusedVariables false
set_option linter.unusedSimpArgs false
set_option linter.unusedSectionVars false

namespace Mine
open PySem PySem.W PySem.Calls PySem.Spec PyProof.Rows
-- part T0
set_option maxHeartbeats 8000000
theorem law_said : PySem.Challenge.rw_sm0004_01.wellSaid = true := by kernel_rfl
/-- the text without the rows that the head does not keep -/
noncomputable def view : Program :=
  { PySem.Challenge.pw_sm0004_01 with main := { PySem.Challenge.pw_sm0004_01.main with
      body := (((PySem.Challenge.pw_sm0004_01.main.body.eraseIdx 33).eraseIdx 31).eraseIdx 2).eraseIdx 0 } }
local macro_rules | `(tactic| o_law) => `(tactic| refine holds_law law_said fun said => ?_)
local macro_rules | `(tactic| o_head $H) => `(tactic| (
    refine holds_open (q := view) (loose := [Str.ofString "BasicError"]) (Xt := fun s => xlAt view [] s && recOk (RowW.records (OpenRow.toRowW (OpenLaw.row PySem.Challenge.rw_sm0004_01))) s) (XP := XL view [])
      (Yf := Hook.obs $H) (Ya := Hook.val $H) (YP := Hook.says $H) (N := 3304) ?hl (Hook.of $H) (Hook.keeps $H) (fun s e => xl_of s (Bool.and_eq_true_iff.mp e).1) XL.keeps (by rfl) (by rfl) (by rfl)
      (fun s e => recFacts_of (Bool.and_eq_true_iff.mp e).2) (by rfl) (by first | assumption | decide +kernel) (by decide +kernel) ⟨rfl, rfl, rfl, rfl, rfl, by decide +kernel⟩ ?hw ?hc
    case hl => intro w; kernel_rfl))
open_top hd for PySem.Challenge.rw_sm0004_01

-- part F0
set_option maxHeartbeats 2000000
set_option genInjectivity true in
/-- what the walk knows of a value: an int's and a text's mark is forgotten -/
inductive V where
  | none
  | bool (b : Bool)
  | int (i : Int)
  | str (s : Str)
  | ref (a : Addr)
  deriving DecidableEq

inductive VIs : V → Value → Prop
  | none : VIs .none .none
  | bool (b : Bool) : VIs (.bool b) (.bool b)
  | int (i : Int) (t : Tok) : VIs (.int i) (.int i t)
  | str (s : Str) (t : Tok) : VIs (.str s) (.str s t)
  | ref (a : Addr) : VIs (.ref a) (.ref a)

inductive VRel : List V → List Value → Prop
  | nil : VRel [] []
  | cons {v : V} {x : Value} {us : List V} {xs : List Value} : VIs v x → VRel us xs → VRel (v :: us) (x :: xs)

inductive O where
  | sd (es : List (Str × V)) (ep : Nat)
  | idd (es : List (Int × V)) (ep : Nat)
  | list (xs : List V)
  | tup (xs : List V)
  | inst (C d : Addr)
  | cell (v : V)
  | raw (o : Obj)
  | exc (o : Obj)

noncomputable abbrev Loc := List (Str × V)
noncomputable abbrev Led := Addr → Option O
noncomputable def Led.set (n : Led) (a : Addr) (o : O) : Led := fun b => if b = a then some o else n b
theorem Led.set_self (n : Led) (a : Addr) (o : O) : n.set a o a = some o := if_pos rfl
theorem Led.set_ne (n : Led) {a b : Addr} (o : O) (h : b ≠ a) : n.set a o b = n b := if_neg h

section
variable {prog : Program} {w : World} {K : Type} [DecidableEq K]

inductive KRel : List (K × V) → List (K × Value) → Prop
  | nil : KRel [] []
  | cons {k : K} {v : V} {x : Value} {es : List (K × V)} {kvs : List (K × Value)} : VIs v x → KRel es kvs → KRel ((k, v) :: es) ((k, x) :: kvs)

noncomputable def DictIs (knd : KeyKind prog w K) (ob : Obj) (kvs : List (K × Value)) (ep : Nat) : Prop :=
  ∃ es, ob.ExactDict ∧ ob.data = .dict es ep ∧ KeysOf knd es ∧ Pairs knd es.toList kvs ∧ (kvs.map (·.1)).Nodup
end

noncomputable def OIs (prog : Program) (w : World) : O → Obj → Prop
  | .sd es ep, ob => ∃ kvs, DictIs (strKind prog w) ob kvs ep ∧ KRel es kvs
  | .idd es ep, ob => ∃ kvs, DictIs (intKind prog w) ob kvs ep ∧ KRel es kvs
  | .list xs, ob => ∃ vs n, ob = { cls := .type "list", data := .seq vs n } ∧ VRel xs vs.toList
  | .tup xs, ob => ∃ vs n, ob = { cls := .type "tuple", data := .seq vs n } ∧ VRel xs vs.toList
  | .inst C d, ob => ob.cls = .ref C ∧ ob.dict = some d ∧ ob.data = .plain
  | .cell v, ob => ∃ x, ob.data = .cell (some x) ∧ VIs v x
  | .raw o, ob => ob = o
  | .exc o, ob => ob = o

structure Cx where
  w : World
  s₀ : Shared
  base : Heap
  A : Around
  env : Env
  outs : List (Addr × Loc)
  lv : Nat

noncomputable def NsOk (base : Heap) (L : Addr) (m : Loc) (h : Heap) : Prop :=
  base.objs.size ≤ L ∧ ∃ mv, h.Ns L mv ∧ ∀ x v, m.lookup x = some v → ∃ v', mv x = some v' ∧ VIs v v'

/-- an object that came with the run; an exception's address need only be none of the base's objects -/
noncomputable def Fresh (base : Heap) (a : Addr) (o : O) : Prop := base.objs.size ≤ a ∨ (base.get? a = Option.none ∧ ∃ ob, o = .exc ob)

structure Sit (prog : Program) (c : Cx) (m : Loc) (n : Led) (s : Shared) : Prop where
  gens : s.gens = c.s₀.gens
  drawn : s.drawn = c.s₀.drawn
  os : s.os = c.s₀.os
  keep : ∀ b o, c.base.get? b = some o → s.heap.get? b = some o
  loc : NsOk c.base c.env.locals m s.heap
  outs : ∀ f ∈ c.outs, NsOk c.base f.1 f.2 s.heap
  apart : (c.env.locals :: c.outs.map (·.1)).Nodup
  led : ∀ a o, n a = some o → (∃ ob, s.heap.get? a = some ob ∧ OIs prog c.w o ob) ∧ Fresh c.base a o ∧ a ∉ (c.env.locals :: c.outs.map (·.1))

theorem NsOk.of {base h h' : Heap} {L : Addr} {m : Loc} (x : NsOk base L m h) (k : ∀ o, h.get? L = some o → h'.get? L = some o) : NsOk base L m h' := by
  obtain ⟨hb, mv, ⟨o, es, ep, ho, r⟩, hm⟩ := x
  exact ⟨hb, mv, ⟨o, es, ep, k o ho, r⟩, hm⟩

theorem Fresh.get {base : Heap} {a : Addr} {o : O} (h : Fresh base a o) : base.get? a = Option.none := by
  rcases h with h | ⟨h, _⟩
  · cases q : base.get? a with
    | none => rfl
    | some o => exact absurd (Nat.lt_of_lt_of_le (Heap.lt_size q) h) (Nat.lt_irrefl _)
  · exact h
theorem Fresh.to {base : Heap} {a : Addr} {o o' : O} (h : Fresh base a o) (hf : ∀ ob, o ≠ .exc ob) : Fresh base a o' := by
  rcases h with h | ⟨_, ob, e⟩
  · exact .inl h
  · exact absurd e (hf ob)
theorem NsOk.lt {base h : Heap} {L : Addr} {m : Loc} (x : NsOk base L m h) : L < h.objs.size := x.2.choose_spec.1.lt

theorem NsOk.fresh {base h : Heap} {L : Addr} {m : Loc} (x : NsOk base L m h) : base.get? L = none := by
  cases q : base.get? L with
  | none => rfl
  | some o => exact absurd (Nat.lt_of_lt_of_le (Heap.lt_size q) x.1) (Nat.lt_irrefl _)

theorem none_of_le {h : Heap} {a : Addr} (x : h.objs.size ≤ a) : h.get? a = Option.none := by
  cases q : h.get? a with
  | none => rfl
  | some o => exact absurd (Nat.lt_of_lt_of_le (Heap.lt_size q) x) (Nat.lt_irrefl _)

section
variable {prog : Program} {c : Cx} {m : Loc} {n : Led} {s : Shared}

/-- the names that must stand: all namespaces -/
theorem Sit.ns (S : Sit prog c m n s) : ∀ L ∈ (c.env.locals :: c.outs.map (·.1)), L < s.heap.objs.size ∧ c.base.get? L = none := by
  intro L hL
  rcases List.mem_cons.mp hL with rfl | hL
  · exact ⟨S.loc.lt, S.loc.fresh⟩
  · obtain ⟨f, hf, rfl⟩ := List.mem_map.mp hL
    exact ⟨(S.outs f hf).lt, (S.outs f hf).fresh⟩

theorem Sit.lt (S : Sit prog c m n s) {a : Addr} {o : O} (h : n a = some o) : a < s.heap.objs.size := by
  obtain ⟨⟨ob, h1, _⟩, _⟩ := S.led a o h
  exact Heap.lt_size h1

/-- the heap has grown, or turned where nobody looks -/
theorem Sit.grow (S : Sit prog c m n s) {h' : Heap} {tk : Nat} (k : ∀ b o, s.heap.get? b = some o → h'.get? b = some o) :
    Sit prog c m n { s with heap := h', toks := tk } where
  gens := S.gens
  drawn := S.drawn
  os := S.os
  keep := fun b o e => k b o (S.keep b o e)
  loc := S.loc.of fun o => k _ o
  outs := fun f hf => (S.outs f hf).of fun o => k _ o
  apart := S.apart
  led := fun a o e => by
    obtain ⟨⟨ob, h1, h2⟩, h3⟩ := S.led a o e
    exact ⟨⟨ob, k a ob h1, h2⟩, h3⟩

theorem Sit.toks (S : Sit prog c m n s) (tk : Nat) : Sit prog c m n { s with toks := tk } := S.grow (h' := s.heap) fun _ _ e => e

/-- a local name is stored -/
theorem Sit.put (S : Sit prog c m n s) {h' : Heap} {tk : Nat} {x : Str} {v : V} {v' : Value} {mv : Str → Option Value} (hv : VIs v v')
    (hm : ∀ x v, m.lookup x = some v → ∃ v', mv x = some v' ∧ VIs v v')
    (hn : h'.Ns c.env.locals (fun y => if y = x then some v' else mv y)) (hs : Heap.SameBut c.env.locals s.heap h') :
    Sit prog c ((x, v) :: m) n { s with heap := h', toks := tk } where
  gens := S.gens
  drawn := S.drawn
  os := S.os
  keep := fun b o e => (hs.2 b fun q => by rw [q, S.loc.fresh] at e; cases e).trans (S.keep b o e)
  loc := ⟨S.loc.1, _, hn, fun y u hu => by
    rw [List.lookup_cons] at hu
    by_cases hy : y = x
    · subst hy
      simp only [beq_self_eq_true, if_true] at hu ⊢
      cases hu
      exact ⟨v', rfl, hv⟩
    · have : (y == x) = false := beq_eq_false_iff_ne.mpr hy
      simp only [this, if_neg hy] at hu ⊢
      exact hm y u hu⟩
  outs := fun f hf => (S.outs f hf).of fun o e => (hs.2 _ fun q => (List.nodup_cons.mp S.apart).1 (q ▸ List.mem_map_of_mem hf)).trans e
  apart := S.apart
  led := fun a o e => by
    obtain ⟨⟨ob, h1, h2⟩, h3, h4⟩ := S.led a o e
    exact ⟨⟨ob, (hs.2 a fun q => h4 (q ▸ .head _)).trans h1, h2⟩, h3, h4⟩

/-- an object of the ledger is changed -/
theorem Sit.set (S : Sit prog c m n s) {h' : Heap} {tk : Nat} {a : Addr} {o o' : O} {ob : Obj} (ha : n a = some o) (hs : Heap.SameBut a s.heap h') (hg : h'.get? a = some ob) (ho : OIs prog c.w o' ob) (hf : ∀ ob, o ≠ .exc ob := by intro _ q; cases q) :
    Sit prog c m (n.set a o') { s with heap := h', toks := tk } := by
  obtain ⟨_, a2, a3⟩ := S.led a o ha
  have ns : ∀ L ∈ (c.env.locals :: c.outs.map (·.1)), L ≠ a := fun L hL q => a3 (q ▸ hL)
  exact {
    gens := S.gens
    drawn := S.drawn
    os := S.os
    keep := fun b o e => (hs.2 b fun q => by rw [q, a2.get] at e; cases e).trans (S.keep b o e)
    loc := S.loc.of fun o e => (hs.2 _ (ns _ (.head _))).trans e
    outs := fun f hf => (S.outs f hf).of fun o e => (hs.2 _ (ns _ (.tail _ (List.mem_map_of_mem hf)))).trans e
    apart := S.apart
    led := fun b o e => by
      by_cases hb : b = a
      · subst hb
        rw [Led.set_self] at e
        cases e
        exact ⟨⟨ob, hg, ho⟩, a2.to hf, a3⟩
      · rw [Led.set_ne _ _ hb] at e
        obtain ⟨⟨ob, h1, h2⟩, h3⟩ := S.led b o e
        exact ⟨⟨ob, (hs.2 b hb).trans h1, h2⟩, h3⟩ }

/-- a new object -/
theorem Sit.new (S : Sit prog c m n s) {h' : Heap} {tk : Nat} {a : Addr} {o : O} {ob : Obj} (k : ∀ b o, s.heap.get? b = some o → h'.get? b = some o) (ha : s.heap.objs.size ≤ a) (hg : h'.get? a = some ob) (ho : OIs prog c.w o ob) :
    n a = none ∧ Sit prog c m (n.set a o) { s with heap := h', toks := tk } := by
  have fr : ∀ b, b < s.heap.objs.size → b ≠ a := fun b hb q => absurd (q ▸ hb) (Nat.not_lt.mpr ha)
  have h0 : n a = none := by
    cases q : n a with
    | none => rfl
    | some o' => exact absurd rfl (fr a (S.lt q))
  refine ⟨h0, ?_⟩
  have G := S.grow (tk := tk) k
  exact { G with
    led := fun b o e => by
      by_cases hb : b = a
      · subst hb
        rw [Led.set_self] at e
        cases e
        exact ⟨⟨ob, hg, ho⟩, .inl <| Nat.le_trans S.loc.1 (Nat.le_of_lt (Nat.lt_of_lt_of_le S.loc.lt ha)), fun hL => fr _ (S.ns _ hL).1 rfl⟩
      · rw [Led.set_ne _ _ hb] at e
        exact G.led b o e }
theorem Sit.unled (S : Sit prog c m n s) {a : Addr} (h : s.heap.objs.size ≤ a) : n a = none := by
  cases q : n a with
  | none => rfl
  | some o => exact absurd (S.lt q) (Nat.not_lt.mpr h)
end

-- part F1
set_option maxHeartbeats 2000000
/-- the part of the text's state that is written out -/
noncomputable abbrev KK (w : World) : Frag := Mine.hd.heap_1 w.params
noncomputable abbrev loose0 : List Str := looseW Mine.view [Str.ofString "BasicError"]

/-- what holds of a place in the run, whatever is done there -/
structure COk (c : Cx) : Prop where
  X : (KK c.w).In c.base
  T : ∃ mg mb, TopRead Mine.view loose0 mg mb c.base
  fk : c.env.scope.kind = .function
  gl : c.env.globals = mainGlobals
  bu : c.env.builtins = builtinsNs
  dp : c.A.depth + c.lv ≤ 900
  un : c.A.units + 10 * c.lv ≤ 9000
  sm : sysModules < c.base.objs.size
  fr : ∃ l, c.A.frames = some l ∧ ∀ e ∈ l, e.scope.kind ≠ .module ∧ ∃ L, e.frame = some L ∧ L ∈ (c.env.locals :: c.outs.map (·.1))

structure ExcD (prog : Program) (w : World) (base : Heap) (Ls : List Addr) (n : Led) (k : Str) (h : Heap) (ea : Addr) (oe : Obj) (vs : Array Value) (d : Addr) (od : Obj) (kvs : List (Str × Value)) (ep : Nat) (t : Tok) : Prop where
  he : h.get? ea = some oe
  hcls : oe.cls = .ref 34
  hdict : oe.dict = some d
  hdat : oe.data = .fields vs
  hsz : 1 < vs.size
  heb : base.get? ea = none
  hen : n ea = none
  hd : h.get? d = some od
  hdi : DictIs (strKind prog w) od kvs ep
  hcode : valueAt kvs (Str.ofString "code") = some (.str k t)
  hdb : base.get? d = none
  hdn : n d = none
  hdL : d ∉ Ls
  htb : vs[1]? = some .none ∨ ∃ T oT ts, vs[1]? = some (.ref T) ∧ h.get? T = some oT ∧ oT.data = .fields ts ∧ ts[3]? = some .none ∧ T ≠ ea ∧ base.get? T = none ∧ n T = none
structure ExcAt (prog : Program) (c : Cx) (n : Led) (k : Str) (e : Value) (h : Heap) : Prop where
  ex : ∃ ea oe vs d od kvs ep t, e = .ref ea ∧ ExcD prog c.w c.base (c.env.locals :: c.outs.map (·.1)) n k h ea oe vs d od kvs ep t

noncomputable def Thrown (prog : Program) (c : Cx) (m : Loc) (X : Str → Led → Prop) (e : Value) (s : Shared) : Prop :=
  ∃ k n, Sit prog c m n s ∧ ExcAt prog c n k e s.heap ∧ X k n

noncomputable def Wp {α : Type} (prog : Program) (c : Cx) (m : Loc) (n : Led) (t : Sem α) (Q : α → Led → Prop) (X : Str → Led → Prop) : Prop :=
  COk c → ∀ s, Sit prog c m n s → wpAny (model prog c.w) c.A t (fun a s' => ∃ n', Sit prog c m n' s' ∧ Q a n') (Thrown prog c m X) s

noncomputable def Ev (prog : Program) (c : Cx) (m : Loc) (n : Led) (t : Sem Value) (Q : V → Led → Prop) (X : Str → Led → Prop) : Prop :=
  Wp prog c m n t (fun x n' => ∃ u, VIs u x ∧ Q u n') X

noncomputable def Es (prog : Program) (c : Cx) (m : Loc) (n : Led) (t : Sem (List Value)) (Q : List V → Led → Prop) (X : Str → Led → Prop) : Prop :=
  Wp prog c m n t (fun xs n' => ∃ us, VRel us xs ∧ Q us n') X

section
variable {prog : Program} {c : Cx} {m : Loc} {n : Led} {X : Str → Led → Prop} {α β : Type}

theorem Wp.bind {t : Sem α} {f : α → Sem β} {Q : β → Led → Prop} (h : Wp prog c m n t (fun a n' => Wp prog c m n' (f a) Q X) X) : Wp prog c m n (t >>= f) Q X :=
  fun H s S => wpAny_bind (wpAny_mono (h H s S) (fun a s' ⟨n', S', h'⟩ => h' H s' S') fun _ _ x => x)
theorem Wp.pure {a : α} {Q : α → Led → Prop} (h : Q a n) : Wp prog c m n (Pure.pure a : Sem α) Q X := fun _ s S => wpAny_pure ⟨n, S, h⟩
theorem Wp.hold {vs : List Value} {t : Sem α} {Q : α → Led → Prop} (h : Wp prog c m n t Q X) : Wp prog c m n (holding vs t) Q X := fun H s S => wpAny_holding (h H s S)
theorem Wp.at {p : Pos} {Q : Unit → Led → Prop} (h : Q () n) : Wp prog c m n (standAt p) Q X := fun _ s S => wpAny_standAt ⟨n, S, h⟩
theorem Wp.mono {t : Sem α} {Q Q' : α → Led → Prop} {X' : Str → Led → Prop} (h : Wp prog c m n t Q X) (hq : ∀ a n', Q a n' → Q' a n') (hx : ∀ k n', X k n' → X' k n') : Wp prog c m n t Q' X' :=
  fun H s S => wpAny_mono (h H s S) (fun a s' ⟨n', S', q⟩ => ⟨n', S', hq a n' q⟩) fun e s' ⟨k, n', S', x, q⟩ => ⟨k, n', S', x, hx k n' q⟩
theorem Ev.mono {t : Sem Value} {Q Q' : V → Led → Prop} {X' : Str → Led → Prop} (h : Ev prog c m n t Q X) (hq : ∀ a n', Q a n' → Q' a n') (hx : ∀ k n', X k n' → X' k n') : Ev prog c m n t Q' X' :=
  Wp.mono h (fun x n' ⟨u, hu, q⟩ => ⟨u, hu, hq u n' q⟩) hx
theorem Ev.bind {t : Sem Value} {f : Value → Sem β} {Q : β → Led → Prop} (h : Ev prog c m n t (fun u n' => ∀ x, VIs u x → Wp prog c m n' (f x) Q X) X) : Wp prog c m n (t >>= f) Q X :=
  Wp.bind (Wp.mono h (fun x n' ⟨u, hu, q⟩ => q x hu) fun _ _ x => x)
theorem Ev.pure {x : Value} {u : V} {Q : V → Led → Prop} (hu : VIs u x) (h : Q u n) : Ev prog c m n (Pure.pure x) Q X := Wp.pure ⟨u, hu, h⟩

theorem Wp.release {vs ks : List Value} {Q : Unit → Led → Prop} (h : Q () n) : Wp prog c m n (release vs ks) Q X := fun _ s S => fun Γ p _ => by
  show Sem.wp _ _ (release.go ks _) _ _ _ _
  rw [Sem.wp_release_go]
  exact ⟨n, S, h⟩
theorem Wp.operate {vs : List Value} {t : Sem Value} {Q : V → Led → Prop} (h : Ev prog c m n t Q X) : Ev prog c m n (operate vs t) Q X := by
  unfold PySem.operate
  exact Ev.bind (Wp.hold (Ev.mono h (fun u n' q x hx => Wp.bind (Wp.release (Wp.pure ⟨u, hx, q⟩))) fun _ _ x => x))

/-- from a rule that tells the very state -/
theorem Ev.of {t : Sem Value} {Q : V → Led → Prop} (h : COk c → ∀ s, Sit prog c m n s → wpAny (model prog c.w) c.A t (fun x s' => ∃ u n', VIs u x ∧ Sit prog c m n' s' ∧ Q u n') (Thrown prog c m X) s) : Ev prog c m n t Q X :=
  fun H s S => wpAny_mono (h H s S) (fun x s' ⟨u, n', hu, S', q⟩ => ⟨n', S', u, hu, q⟩) fun _ _ x => x
/-- a rule that draws marks alone -/
theorem Ev.of_toks {t : Sem Value} {u : V} {Q : V → Led → Prop} (hq : Q u n)
    (h : COk c → ∀ s, Sit prog c m n s → ∀ {Q' : Value → Shared → Prop} {E : Value → Shared → Prop}, (∀ x tk, VIs u x → Q' x { s with toks := tk }) → wpAny (model prog c.w) c.A t Q' E s) : Ev prog c m n t Q X :=
  Ev.of fun H s S => h H s S fun x tk hx => ⟨u, n, hx, S.toks tk, hq⟩
end

section
variable {prog : Program} {c : Cx} {m : Loc} {n : Led} {X : Str → Led → Prop} {Q : V → Led → Prop} {pos : Pos} {kd : Nat}

theorem ev_int {i : Int} (h : Q (.int i) n) : Ev prog c m n (eval (.Constant (.int i) kd pos) c.env) Q X :=
  .of_toks h fun _ s S _ _ k => wpAny_Constant_int (k _ _ (.int _ _))
theorem ev_str {x : Str} (h : Q (.str x) n) : Ev prog c m n (eval (.Constant (.str x) kd pos) c.env) Q X :=
  .of_toks h fun _ s S _ _ k => Constant_str (k _ _ (.str _ _))
theorem ev_none (h : Q .none n) : Ev prog c m n (eval (.Constant .none kd pos) c.env) Q X := Ev.pure .none h
theorem ev_bool {b : Bool} (h : Q (.bool b) n) : Ev prog c m n (eval (.Constant (.bool b) kd pos) c.env) Q X := Ev.pure (.bool b) h

theorem ev_local {x : Str} {v : V} {sc : Scope} (hs : c.env.scope = sc) (hk : sc.names.lookup x = some .local) (hm : m.lookup x = some v) (h : Q v n)
    (hd : (x == ("__debug__" : Str)) = false := by with_unfolding_all rfl) : Ev prog c m n (eval (.Name x pos) c.env) Q X :=
  Ev.of fun H s S => by
    obtain ⟨_, mv, hn, hm'⟩ := S.loc
    obtain ⟨v', hv, hi⟩ := hm' x v hm
    exact wpAny_Name (wpAny_loadName_local H.fk (by rw [Env.kindOf, hs]; exact hk) hn hv ⟨v, n, hi, S, h⟩) hd
theorem ev_cell {x : Str} {v : V} {sc : Scope} {a : Addr} (hs : c.env.scope = sc) (hk : sc.names.lookup x = some .cell) (hc : c.env.cells.lookup x = some a) (ha : n a = some (.cell v)) (h : Q v n)
    (hd : (x == ("__debug__" : Str)) = false := by with_unfolding_all rfl) : Ev prog c m n (eval (.Name x pos) c.env) Q X :=
  Ev.of fun H s S => by
    obtain ⟨⟨ob, h1, x', h2, hi⟩, _⟩ := S.led a _ ha
    exact wpAny_Name (wpAny_loadName_cell H.fk (by rw [Env.kindOf, hs]; exact hk) hc ⟨ob, h1, h2⟩ ⟨v, n, hi, S, h⟩) hd
/-- a name of the text's top -/
noncomputable def GlobalIs (w : World) (x : Str) (v : Value) : Prop := nsIn (KK w) mainGlobals x = some (some v)
noncomputable def BuiltinIs (w : World) (x : Str) (v : Value) : Prop := nsIn (KK w) mainGlobals x = some none ∧ bootBuiltins x = some v ∧ x ≠ "__name__"

theorem wp_global {x : Str} {v : Value} {sc : Scope} {Q : Value → Led → Prop} (hs : c.env.scope = sc) (hk : sc.names.lookup x = some .globalImplicit) (g : GlobalIs c.w x v) (h : Q v n)
    (hd : (x == ("__debug__" : Str)) = false := by with_unfolding_all rfl) : Wp prog c m n (eval (.Name x pos) c.env) Q X := fun H s S => by
  obtain ⟨mg, mb, T⟩ := H.T
  refine Name_function_global H.fk (by rw [Env.kindOf, hs]; exact hk) (loadGlobal_global (env := c.env) (mg := mg) ?_ (mg_of H.X T.g g) ⟨n, S, h⟩) hd
  rw [H.gl]; exact T.g.keeps S.keep
theorem wp_builtin {x : Str} {v : Value} {sc : Scope} {Q : Value → Led → Prop} (hs : c.env.scope = sc) (hk : sc.names.lookup x = some .globalImplicit) (g : BuiltinIs c.w x v) (h : Q v n)
    (hd : (x == ("__debug__" : Str)) = false := by with_unfolding_all rfl) : Wp prog c m n (eval (.Name x pos) c.env) Q X := fun H s S => by
  obtain ⟨mg, mb, T⟩ := H.T
  refine Name_function_global H.fk (by rw [Env.kindOf, hs]; exact hk) (loadGlobal_builtin (env := c.env) (mg := mg) (mb := mb) ?_ (mg_none_of H.X T.g g.1) ?_ ((T.builtins x g.2.2).trans g.2.1) ⟨n, S, h⟩) hd
  · rw [H.gl]; exact T.g.keeps S.keep
  · rw [H.bu]; exact T.b.keeps S.keep
theorem ev_global {x : Str} {v : Value} {u : V} {sc : Scope} (hs : c.env.scope = sc) (hk : sc.names.lookup x = some .globalImplicit) (g : GlobalIs c.w x v) (hu : VIs u v) (h : Q u n)
    (hd : (x == ("__debug__" : Str)) = false := by with_unfolding_all rfl) : Ev prog c m n (eval (.Name x pos) c.env) Q X := wp_global hs hk g ⟨u, hu, h⟩ hd

/-! ### operators -/
noncomputable def Bin (prog : Program) (c : Cx) (m : Loc) (n : Led) (op : Operator) (a b : V) (Q : V → Led → Prop) (X : Str → Led → Prop) : Prop :=
  ∀ x y, VIs a x → VIs b y → Ev prog c m n (binaryOp op x y) Q X
noncomputable abbrev KBin2 (prog : Program) (c : Cx) (m : Loc) (op : Operator) (a : V) (Q : V → Led → Prop) (X : Str → Led → Prop) (b : V) (n : Led) : Prop := Bin prog c m n op a b Q X
noncomputable abbrev KBin (prog : Program) (c : Cx) (m : Loc) (r : Expr) (op : Operator) (Q : V → Led → Prop) (X : Str → Led → Prop) (a : V) (n : Led) : Prop := Ev prog c m n (eval r c.env) (KBin2 prog c m op a Q X) X
theorem ev_bin {l r : Expr} {op : Operator} (h : Ev prog c m n (eval l c.env) (KBin prog c m r op Q X) X) :
    Ev prog c m n (eval (.BinOp l op r pos) c.env) Q X := by
  rw [eval_BinOp]
  exact Ev.bind (Ev.mono h (fun a n' h' x hx => Ev.bind (Wp.hold (Ev.mono h' (fun b n'' h'' y hy => Wp.bind (Wp.at (Wp.operate (h'' x y hx hy)))) fun _ _ x => x))) fun _ _ x => x)

theorem bin_add {a b : Int} (h : Q (.int (a + b)) n) : Bin prog c m n .Add (.int a) (.int b) Q X := by
  rintro _ _ ⟨⟩ ⟨⟩; exact .of_toks h fun _ s S _ _ k => add_int (k _ _ (.int _ _))
theorem bin_sub {a b : Int} (h : Q (.int (a - b)) n) : Bin prog c m n .Sub (.int a) (.int b) Q X := by
  rintro _ _ ⟨⟩ ⟨⟩; exact .of_toks h fun _ s S _ _ k => sub_int (k _ _ (.int _ _))
theorem bin_mul {a b : Int} (hm : IntMulOk a b) (h : Q (.int (a * b)) n) : Bin prog c m n .Mult (.int a) (.int b) Q X := by
  rintro _ _ ⟨⟩ ⟨⟩; exact .of_toks h fun _ s S _ _ k => mul_int (k _ _ (.int _ _)) hm
theorem bin_mod {a b : Int} (hb : b ≠ 0) (h : Q (.int (a.fmod b)) n) : Bin prog c m n .Mod (.int a) (.int b) Q X := by
  rintro _ _ ⟨⟩ ⟨⟩; exact .of_toks h fun _ s S _ _ k => mod_int hb (k _ _ (.int _ _))
theorem bin_div {a b : Int} (hb : b ≠ 0) (hp : Builtin.divisionGoesByPylong a b = false) (h : Q (.int (a.fdiv b)) n) : Bin prog c m n .FloorDiv (.int a) (.int b) Q X := by
  rintro _ _ ⟨⟩ ⟨⟩; exact .of_toks h fun _ s S _ _ k => floordiv_int hb (k _ _ (.int _ _)) (.inl hp)
theorem bin_cat {a b : Str} (hz : a.length + b.length ≤ sizeLine) (h : Q (.str (a ++ b)) n) : Bin prog c m n .Add (.str a) (.str b) Q X := by
  rintro _ _ ⟨⟩ ⟨⟩; exact .of_toks h fun _ s S _ _ k => PyProof.Rows.add_str (fun t' tk => k _ _ (.str _ _)) hz

/-! ### comparisons -/
noncomputable def Cmp (prog : Program) (c : Cx) (m : Loc) (n : Led) (op : CmpOp) (a b : V) (Q : V → Led → Prop) (X : Str → Led → Prop) : Prop :=
  ∀ x y, VIs a x → VIs b y → Ev prog c m n (compareOp op x y) Q X
variable {R : Bool → Led → Prop}
theorem cmp_lt {a b : Int} (h : Q (.bool (decide (a < b))) n) : Cmp prog c m n .Lt (.int a) (.int b) Q X := by
  rintro _ _ ⟨⟩ ⟨⟩; exact .of_toks h fun _ s S _ _ k => lt_int (k _ _ (.bool _))
theorem cmp_le {a b : Int} (h : Q (.bool (decide (a ≤ b))) n) : Cmp prog c m n .LtE (.int a) (.int b) Q X := by
  rintro _ _ ⟨⟩ ⟨⟩; exact .of_toks h fun _ s S _ _ k => le_int (k _ _ (.bool _))
theorem cmp_gt {a b : Int} (h : Q (.bool (decide (b < a))) n) : Cmp prog c m n .Gt (.int a) (.int b) Q X := by
  rintro _ _ ⟨⟩ ⟨⟩; exact .of_toks h fun _ s S _ _ k => gt_int (k _ _ (.bool _))
theorem cmp_ge {a b : Int} (h : Q (.bool (decide (b ≤ a))) n) : Cmp prog c m n .GtE (.int a) (.int b) Q X := by
  rintro _ _ ⟨⟩ ⟨⟩; exact .of_toks h fun _ s S _ _ k => ge_int (k _ _ (.bool _))
theorem cmp_eq {a b : Int} (h : Q (.bool (decide (a = b))) n) : Cmp prog c m n .Eq (.int a) (.int b) Q X := by
  rintro _ _ ⟨⟩ ⟨⟩; exact .of_toks h fun _ s S _ _ k => eq_int (k _ _ (.bool _))
theorem cmp_seq {a b : Str} (h : Q (.bool (decide (a = b))) n) : Cmp prog c m n .Eq (.str a) (.str b) Q X := by
  rintro _ _ ⟨⟩ ⟨⟩
  refine .of_toks h fun _ s S _ _ k => PyProof.Rows.eq_str ?_
  have e : decide (a = b) = (a == b) := by by_cases q : a = b <;> simp [q]
  rw [← e]; exact k _ _ (.bool _)
theorem cmp_sne {a b : Str} (h : Q (.bool (decide (a ≠ b))) n) : Cmp prog c m n .NotEq (.str a) (.str b) Q X := by
  rintro _ _ ⟨⟩ ⟨⟩
  refine .of_toks h fun _ s S _ _ k => PyProof.Rows.ne_str ?_
  have e : decide (a ≠ b) = (a != b) := by by_cases q : a = b <;> simp [q]
  rw [← e]; exact k _ _ (.bool _)
theorem cmp_isNone {a : V} (h : Q (.bool (decide (a = .none))) n) : Cmp prog c m n .Is a .none Q X := by
  rintro x _ hx ⟨⟩
  refine .of_toks h fun _ s S _ _ k => is_none ?_
  have e : decide (a = .none) = (x == Value.none) := by
    cases hx <;> first | rfl | (simp; done)
  rw [← e]; exact k _ s.toks (.bool _)
end

-- part F2
set_option maxHeartbeats 2000000
/-! ### frames and flying exceptions -/
section
variable {prog : Program} {c : Cx} {m : Loc} {n : Led} {X : Str → Led → Prop}

theorem Sit.funFrames {s : Shared} (H : COk c) (S : Sit prog c m n s) {l : List Env} (hl : ∀ e ∈ l, e.scope.kind ≠ .module ∧ ∃ L, e.frame = some L ∧ L ∈ (c.env.locals :: c.outs.map (·.1))) : s.heap.FunFrames c.base l := by
  induction l with
  | nil => trivial
  | cons e l ih =>
    obtain ⟨h1, L, h2, h3⟩ := hl e (.head _)
    refine ⟨h1, ⟨L, ?_⟩, ih fun e he => hl e (.tail _ he)⟩
    have : NsOk c.base L (if L = c.env.locals then m else ((c.outs.lookup L).getD [])) s.heap ∨ ∃ m', NsOk c.base L m' s.heap := by
      rcases List.mem_cons.mp h3 with q | q
      · exact .inr ⟨m, q ▸ S.loc⟩
      · obtain ⟨f, hf, q⟩ := List.mem_map.mp q
        exact .inr ⟨f.2, q ▸ S.outs f hf⟩
    obtain ⟨m', x⟩ : ∃ m', NsOk c.base L m' s.heap := this.elim (fun x => ⟨_, x⟩) id
    have fr := x.fresh
    obtain ⟨_, mv, ⟨o, es, ep, ho, hd, _⟩, _⟩ := x
    exact ⟨o, h2, fr, ho, fun vs q => by rw [hd] at q; cases q⟩

/-- names kept while slots turn -/
theorem NsOk.slots {base h h' : Heap} {L : Addr} {m : Loc} (x : NsOk base L m h) (k : ∀ o, h.get? L = some o → ∃ sl, h'.get? L = some { o with slots := sl }) : NsOk base L m h' := by
  obtain ⟨hb, mv, ⟨o, es, ep, ho, r⟩, hm⟩ := x
  obtain ⟨sl, h1⟩ := k o ho
  exact ⟨hb, mv, ⟨_, es, ep, h1, r⟩, hm⟩

/-- a change of the heap that a flying exception brings: frames' slots; objects of nobody's -/
theorem Sit.turn {s : Shared} (S : Sit prog c m n s) {h' : Heap} {tk : Nat} (no : Addr → Prop) (hno : ∀ b, no b → c.base.get? b = none ∧ n b = none ∧ b ∉ (c.env.locals :: c.outs.map (·.1)))
    (k : ∀ b o, s.heap.get? b = some o → ¬ no b → b ∉ (c.env.locals :: c.outs.map (·.1)) → h'.get? b = some o)
    (ks : ∀ b o, s.heap.get? b = some o → b ∈ (c.env.locals :: c.outs.map (·.1)) → ∃ sl, h'.get? b = some { o with slots := sl }) :
    Sit prog c m n { s with heap := h', toks := tk } where
  gens := S.gens
  drawn := S.drawn
  os := S.os
  keep := fun b o e => k b o (S.keep b o e) (fun q => by rw [(hno b q).1] at e; cases e) fun q => by rw [(S.ns b q).2] at e; cases e
  loc := S.loc.slots fun o e => ks _ o e (.head _)
  outs := fun f hf => (S.outs f hf).slots fun o e => ks _ o e (.tail _ (List.mem_map_of_mem hf))
  apart := S.apart
  led := fun a o e => by
    obtain ⟨⟨ob, h1, h2⟩, h3, h4⟩ := S.led a o e
    exact ⟨⟨ob, k a ob h1 (fun q => by rw [(hno a q).2.1] at e; cases e) h4, h2⟩, h3, h4⟩

theorem wp_noteFlight {l : List Env} {e : Value} {s : Shared} (H : COk c) (hf : c.env.frame = some c.env.locals) (hA : c.A.frames = some (c.env :: l)) (T : Thrown prog c m X e s) :
    wpAny (model prog c.w) c.A (noteFrame e c.env) (fun _ s' => wpAny (model prog c.w) c.A (setFlight e none) (fun _ s'' => Thrown prog c m X e s'') (fun _ _ => False) s') (fun _ _ => False) s := by
  obtain ⟨k, n, S, ⟨ea, oe, vs, d, od, kvs, ep, t, rfl, D⟩, hX⟩ := T
  have hdL := D.hdL
  obtain ⟨l', hl', hfr⟩ := H.fr
  rw [hA] at hl'
  obtain rfl : c.env :: l = l' := Option.some.inj hl'
  have FF := S.funFrames H hfr
  have inNs : ∀ b, b ∈ (c.env :: l).filterMap (·.frame) → b ∈ (c.env.locals :: c.outs.map (·.1)) := fun b hb => by
    obtain ⟨e', he', hb'⟩ := List.mem_filterMap.mp hb
    obtain ⟨_, L, h2, h3⟩ := hfr e' he'
    rw [h2] at hb'; exact (Option.some.inj hb') ▸ h3
  -- an exception and its tracebacks are no namespaces
  have isF : ∀ {s' : Shared} {b : Addr} {o : Obj} {ws : Array Value}, Sit prog c m n s' → s'.heap.get? b = some o → o.data = .fields ws → b ∉ (c.env.locals :: c.outs.map (·.1)) := fun {s' b o ws} S' hb hw hm => by
    have : ∃ m', NsOk c.base b m' s'.heap := by
      rcases List.mem_cons.mp hm with q | q
      · exact ⟨m, q ▸ S'.loc⟩
      · obtain ⟨f, hf, q⟩ := List.mem_map.mp q
        exact ⟨f.2, q ▸ S'.outs f hf⟩
    obtain ⟨m', _, mv, ⟨o', es, ep', ho', hd', _⟩, _⟩ := this
    rw [hb] at ho'; cases ho'; rw [hw] at hd'; cases hd'
  -- the entry behind the old head
  have key : ∀ (s₁ : Shared) (oe₁ : Obj) (vs₁ : Array Value) (head : Value) (hadNext : Bool), Sit prog c m n s₁ → s₁.heap.get? ea = some oe₁ → oe₁.cls = .ref 34 → oe₁.dict = some d → oe₁.data = .fields vs₁ → 1 < vs₁.size → s₁.heap.get? d = some od →
      wpAny (model prog c.w) c.A (do let a ← frameOf c.env; let pl ← entryPlaceOf c.env.locals hadNext; let b ← EntryCells.newEntry head a .none (rawInt c.env.locals) .none pl; setField (.ref ea) 1 b)
        (fun _ s' => wpAny (model prog c.w) c.A (setFlight (.ref ea) none) (fun _ s'' => Thrown prog c m X (.ref ea) s'') (fun _ _ => False) s') (fun _ _ => False) s₁ := by
    intro s₁ oe₁ vs₁ head hadNext S₁ he₁ hcls₁ hdict₁ hdat₁ hsz₁ hd₁
    have FF₁ := S₁.funFrames H hfr
    refine wpAny_bind (wpAny_frameOf_fun hA FF₁ hf fun h₂ hs₂ => ?_)
    have heL : ea ∉ (c.env.locals :: c.outs.map (·.1)) := isF S₁ he₁ hdat₁
    have S₂ : Sit prog c m n { s₁ with heap := h₂ } := S₁.turn (fun _ => False) (fun _ q => q.elim) (fun b o hb _ hn => (hs₂.2.1 b fun q => hn (inNs b q)).trans hb) (fun b o hb _ => hs₂.2.2 b o hb)
    have he₂ : h₂.get? ea = some oe₁ := (hs₂.2.1 ea fun q => heL (inNs ea q)).trans he₁
    have hd₂ : h₂.get? d = some od := (hs₂.2.1 d fun q => hdL (inNs d q)).trans hd₁
    refine wpAny_bind (wpAny_entryPlaceOf fun pl hpl => ?_)
    unfold EntryCells.newEntry newFields
    refine wpAny_bind (wpAny_newObj_type ?_ (hpl.sizeOk5 _ _ _ _ _))
    let oT : Obj := { cls := .type "traceback", dict := none, data := .fields ([head, .ref c.env.locals, .none, rawInt c.env.locals, .none] ++ (if pl.isEmpty then List.replicate 6 Value.none else pl)).toArray }
    have he₃ := Heap.get?_push_of_some (h := h₂) oT he₂
    refine wpAny_setField he₃ hdat₁ hsz₁ ?_
    have hTe : h₂.objs.size ≠ ea := Nat.ne_of_gt (Heap.lt_size he₂)
    have hd₃ := Obj.data_mapFields hdat₁ (·.setIfInBounds 1 (Value.ref h₂.objs.size))
    have he₄ := Heap.get?_update_self (Obj.mapFields (·.setIfInBounds 1 (Value.ref h₂.objs.size))) he₃ (Obj.isFreed_of_fields hd₃)
    have hT₄ := (Heap.get?_update_other (h₂.push oT) (Obj.mapFields (·.setIfInBounds 1 (Value.ref h₂.objs.size))) (Ne.symm hTe)).trans (Heap.get?_push_size h₂ rfl)
    unfold setFlight
    refine wpAny_bind (wpAny_field he₄ hd₃ (x := .ref h₂.objs.size) (by simp [hsz₁]) ?_)
    rw [if_pos (show (Value.ref h₂.objs.size != Value.none) = true from by simp)]
    refine wpAny_setField hT₄ rfl (by simp only [oT, List.size_toArray, List.length_append, List.length_cons, List.length_nil] <;> lia) ?_
    have keep : ∀ b o, b ≠ ea → h₂.get? b = some o →
        (((h₂.push oT).update ea (Obj.mapFields (·.setIfInBounds 1 (Value.ref h₂.objs.size)))).update h₂.objs.size (Obj.mapFields (·.setIfInBounds 3 ((none : Option Addr).elim Value.none fun f => rawInt f)))).get? b = some o := fun b o hbe hb => by
      have hbT : h₂.objs.size ≠ b := Nat.ne_of_gt (Heap.lt_size hb)
      rw [Heap.get?_update_other _ _ hbT, Heap.get?_update_other _ _ (Ne.symm hbe)]
      exact Heap.get?_push_of_some _ hb
    have hn₂ : n h₂.objs.size = none := S₂.unled (Nat.le_refl _)
    refine ⟨k, n, S₂.turn (fun b => b = ea) (fun b q => q ▸ ⟨D.heb, D.hen, heL⟩) (fun b o hb hn _ => keep b o hn hb) (fun b o hb hm => ⟨o.slots, keep b o (fun q => heL (q ▸ hm)) hb⟩),
      ⟨ea, _, _, d, od, kvs, ep, t, rfl, ?_, (Obj.cls_mapFields _ _).trans hcls₁, ?_, hd₃, by simpa using hsz₁, D.heb, D.hen, keep d od (fun q => ?_) hd₂, D.hdi, D.hcode, D.hdb, D.hdn, hdL, .inr ⟨h₂.objs.size, _, _, by simp [hsz₁], Heap.get?_update_self _ hT₄ (Obj.isFreed_of_fields (Obj.data_mapFields rfl _)), Obj.data_mapFields rfl _, ?_, hTe, ?_, hn₂⟩⟩, hX⟩
    · rw [Heap.get?_update_other _ _ hTe]; exact he₄
    · obtain ⟨c1, d1, dt1, sl1⟩ := oe₁
      simp only at hdat₁; subst hdat₁; exact hdict₁
    · obtain ⟨es, _, hde, _⟩ := D.hdi
      rw [q, he₁] at hd₁; cases hd₁
      rw [hdat₁] at hde; cases hde
    · rcases hpl with rfl | ⟨_, _, _, _, _, _, _, rfl⟩ <;> simp [oT]
    · cases q : c.base.get? h₂.objs.size with
      | none => rfl
      | some o' => exact absurd (Heap.lt_size (S₂.keep _ _ q)) (Nat.lt_irrefl _)
  unfold noteFrame
  simp only [hf]
  rcases D.htb with h1 | ⟨T, oT, ts, h1, hT, hdT, h3, hTe, hTb, hTn⟩
  · refine wpAny_bind (wpAny_field D.he D.hdat h1 ?_)
    rw [if_neg (by decide)]
    exact key s oe vs _ _ S D.he D.hcls D.hdict D.hdat D.hsz D.hd
  · refine wpAny_bind (wpAny_field D.he D.hdat h1 ?_)
    rw [if_pos (show (Value.ref T != Value.none) = true from by simp)]
    refine wpAny_bind (wpAny_field hT hdT h3 ?_)
    rw [if_neg (show ¬ ((Value.none == rawInt c.env.locals) = true) from by simp [rawInt])]
    refine wpAny_bind (wpAny_setField hT hdT (Array.getElem?_eq_some_iff.mp h3).1 ?_)
    have other : ∀ b, b ≠ T → (s.heap.update T (Obj.mapFields (·.setIfInBounds 3 Value.none))).get? b = s.heap.get? b := fun b hb => Heap.get?_update_other _ _ (Ne.symm hb)
    have hTL : T ∉ (c.env.locals :: c.outs.map (·.1)) := isF S hT hdT
    have S₁ : Sit prog c m n { s with heap := s.heap.update T (Obj.mapFields (·.setIfInBounds 3 Value.none)) } := S.turn (fun b => b = T) (fun b q => q ▸ ⟨hTb, hTn, hTL⟩) (fun b o hb hn _ => (other b hn).trans hb)
      (fun b o hb hm => ⟨o.slots, (other b fun q => hTL (q ▸ hm)).trans hb⟩)
    refine key _ oe vs _ _ S₁ ((other ea (Ne.symm hTe)).trans D.he) D.hcls D.hdict D.hdat D.hsz ((other d fun q => ?_).trans D.hd)
    obtain ⟨es, _, hde, _⟩ := D.hdi
    have hd := D.hd
    rw [q, hT] at hd; cases hd
    rw [hdT] at hde; cases hde
theorem wp_leaving {l : List Env} {e : Value} {s : Shared} (H : COk c) (hf : c.env.frame = some c.env.locals) (hA : c.A.frames = some (c.env :: l)) (T : Thrown prog c m X e s) :
    wpAny (model prog c.w) c.A (leaving c.env e) (fun _ s' => Thrown prog c m X e s') (fun _ _ => False) s := by
  unfold leaving
  exact wpAny_bind (wp_noteFlight H hf hA T)
end

-- part F3
set_option maxHeartbeats 2000000
noncomputable def Tt (prog : Program) (c : Cx) (m : Loc) (n : Led) (t : Sem Bool) (Q : Bool → Led → Prop) (X : Str → Led → Prop) : Prop := Wp prog c m n t Q X

/-- statements: on to the next (N), or back with a value (R) -/
noncomputable def Ex (prog : Program) (c : Cx) (m : Loc) (n : Led) (t : Sem Flow) (N : Loc → Led → Prop) (R : V → Led → Prop) (X : Str → Led → Prop) : Prop :=
  COk c → ∀ s, Sit prog c m n s → wpAny (model prog c.w) c.A t
    (fun f s' => match f with
      | .next => ∃ m' n', Sit prog c m' n' s' ∧ N m' n'
      | .ret v => ∃ u m' n', VIs u v ∧ Sit prog c m' n' s' ∧ R u n'
      | _ => False)
    (fun e s' => ∃ m', Thrown prog c m' X e s') s

section
variable {prog : Program} {c : Cx} {m : Loc} {n : Led} {X : Str → Led → Prop} {Q : V → Led → Prop} {B : Bool → Led → Prop} {pos : Pos} {kd : Nat} {N : Loc → Led → Prop} {R : V → Led → Prop}

/-! ### tests -/
/-- both ways of a test -/
noncomputable def Br (b : Bool) (P Q : Prop) : Prop := (b = true → P) ∧ (b = false → Q)
theorem br_dec {p : Prop} [Decidable p] {P Q : Prop} (h1 : p → P) (h2 : ¬ p → Q) : Br (decide p) P Q := ⟨fun h => h1 (of_decide_eq_true h), fun h => h2 (of_decide_eq_false h)⟩
theorem br_not {b : Bool} {P Q : Prop} (h : Br b Q P) : Br (!b) P Q := ⟨fun q => h.2 (by simpa using q), fun q => h.1 (by simpa using q)⟩
theorem br_true {P Q : Prop} (h : P) : Br true P Q := ⟨fun _ => h, fun q => nomatch q⟩
theorem br_false {P Q : Prop} (h : Q) : Br false P Q := ⟨(fun q => nomatch q), fun _ => h⟩

theorem truthy_bool {b : Bool} (h : B b n) : Tt prog c m n (truthy (.bool b)) B X := fun _ s S => wpAny_truthy_bool ⟨n, S, h⟩

/-- a value's truth -/
noncomputable def Tr (prog : Program) (c : Cx) (m : Loc) (n : Led) (v : V) (B : Bool → Led → Prop) (X : Str → Led → Prop) : Prop := ∀ x, VIs v x → Tt prog c m n (truthy x) B X
theorem tr_bool {b : Bool} (h : B b n) : Tr prog c m n (.bool b) B X := by rintro _ ⟨⟩; exact truthy_bool h

noncomputable abbrev KTr (prog : Program) (c : Cx) (m : Loc) (B : Bool → Led → Prop) (X : Str → Led → Prop) (v : V) (n : Led) : Prop := Tr prog c m n v B X
noncomputable abbrev KNot (B : Bool → Led → Prop) (b : Bool) (n : Led) : Prop := B (!b) n
noncomputable abbrev KCmp2 (prog : Program) (c : Cx) (m : Loc) (op : CmpOp) (a : V) (Q : V → Led → Prop) (X : Str → Led → Prop) (b : V) (n : Led) : Prop := Cmp prog c m n op a b Q X
noncomputable abbrev KCmp (prog : Program) (c : Cx) (m : Loc) (r : Expr) (op : CmpOp) (Q : V → Led → Prop) (X : Str → Led → Prop) (a : V) (n : Led) : Prop := Ev prog c m n (eval r c.env) (KCmp2 prog c m op a Q X) X
noncomputable abbrev KCC3 (prog : Program) (c : Cx) (m : Loc) (r2 : Expr) (o2 : CmpOp) (b : V) (B : Bool → Led → Prop) (X : Str → Led → Prop) (t : Bool) (n : Led) : Prop := Br t (Ev prog c m n (eval r2 c.env) (KCmp2 prog c m o2 b (KTr prog c m B X) X) X) (B false n)
noncomputable abbrev KCC2 (prog : Program) (c : Cx) (m : Loc) (o1 : CmpOp) (r2 : Expr) (o2 : CmpOp) (a : V) (B : Bool → Led → Prop) (X : Str → Led → Prop) (b : V) (n : Led) : Prop := Cmp prog c m n o1 a b (KTr prog c m (KCC3 prog c m r2 o2 b B X) X) X
noncomputable abbrev KCC (prog : Program) (c : Cx) (m : Loc) (r1 : Expr) (o1 : CmpOp) (r2 : Expr) (o2 : CmpOp) (B : Bool → Led → Prop) (X : Str → Led → Prop) (a : V) (n : Led) : Prop := Ev prog c m n (eval r1 c.env) (KCC2 prog c m o1 r2 o2 a B X) X
noncomputable abbrev KOr (prog : Program) (c : Cx) (m : Loc) (s : Sem Bool) (B : Bool → Led → Prop) (X : Str → Led → Prop) (b : Bool) (n : Led) : Prop := Br b (B true n) (Tt prog c m n s B X)
noncomputable abbrev KAnd (prog : Program) (c : Cx) (m : Loc) (s : Sem Bool) (B : Bool → Led → Prop) (X : Str → Led → Prop) (b : Bool) (n : Led) : Prop := Br b (Tt prog c m n s B X) (B false n)
noncomputable abbrev KIf (prog : Program) (c : Cx) (m : Loc) (e1 e2 : Expr) (Q : V → Led → Prop) (X : Str → Led → Prop) (d : Bool) (n : Led) : Prop := Br d (Ev prog c m n (eval e1 c.env) Q X) (Ev prog c m n (eval e2 c.env) Q X)
noncomputable abbrev KSeq (prog : Program) (c : Cx) (r : List Stmt) (N : Loc → Led → Prop) (R : V → Led → Prop) (X : Str → Led → Prop) (m : Loc) (n : Led) : Prop := Ex prog c m n (execs r c.env) N R X
noncomputable abbrev KXIf (prog : Program) (c : Cx) (m : Loc) (a b : List Stmt) (N : Loc → Led → Prop) (R : V → Led → Prop) (X : Str → Led → Prop) (d : Bool) (n : Led) : Prop := Br d (Ex prog c m n (execs a c.env) N R X) (Ex prog c m n (execs b c.env) N R X)
noncomputable abbrev KAs (N : Loc → Led → Prop) (m : Loc) (x : Str) (v : V) (n : Led) : Prop := N ((x, v) :: m) n
noncomputable abbrev KN (N : Loc → Led → Prop) (m : Loc) (v : V) (n : Led) : Prop := N m n
theorem tt_val {e : Expr} (h : Ev prog c m n (eval e c.env) (KTr prog c m B X) X)
    (he : isTrue e c.env (eval e c.env) = (do let v ← eval e c.env; standAt e.pos; holding [v] (truthy v)) := by with_unfolding_all rfl) : Tt prog c m n (isTrue e c.env (eval e c.env)) B X := by
  unfold Tt; rw [he]
  exact Ev.bind (Ev.mono h (fun v n' h' x hx => Wp.bind (Wp.at (Wp.hold (h' x hx)))) fun _ _ x => x)
theorem tt_not {x : Expr} {p : Pos} {w : Sem Value} (h : Tt prog c m n (isTrue x c.env (eval x c.env)) (KNot B) X) : Tt prog c m n (isTrue (.UnaryOp .Not x p) c.env w) B X :=
  Wp.bind (Wp.mono h (fun b n' h' => Wp.pure h') fun _ _ x => x)
theorem tt_cmp {l r : Expr} {op : CmpOp} {p : Pos} {w : Sem Value} (h : Ev prog c m n (eval l c.env) (KCmp prog c m r op (KTr prog c m B X) X) X)
    (hm : behindInMarks op r = false := by with_unfolding_all rfl) : Tt prog c m n (isTrue (.Compare l [op] [r] p) c.env w) B X := by
  unfold Tt
  rw [isTrue_Compare1, markedBehindIn_of_false hm]
  refine Ev.bind (Ev.mono h (fun a n' h' x hx => Ev.bind (Wp.hold (Ev.mono h' (fun b n'' h'' y hy => ?_) fun _ _ x => x))) fun _ _ x => x)
  exact Wp.bind (Wp.at (Ev.bind (Wp.operate (Ev.mono (h'' x y hx hy) (fun v n3 h3 z hz => Wp.hold (h3 z hz)) fun _ _ x => x))))
/-- l op1 r1 op2 r2 -/
theorem tt_cmp2 {l r1 r2 : Expr} {o1 o2 : CmpOp} {p : Pos} {w : Sem Value}
    (h : Ev prog c m n (eval l c.env) (KCC prog c m r1 o1 r2 o2 B X) X)
    (hm : behindInMarks o2 r2 = false := by with_unfolding_all rfl) : Tt prog c m n (isTrue (.Compare l [o1, o2] [r1, r2] p) c.env w) B X := by
  show Wp prog c m n (eval l c.env >>= fun a => testChain p a [o1, o2] [eval r1 c.env, markedBehindIn o2 r2 (eval r2 c.env)]) B X
  rw [markedBehindIn_of_false hm]
  refine Ev.bind (Ev.mono h (fun a n' h' x hx => ?_) fun _ _ x => x)
  unfold testChain
  refine Ev.bind (Wp.hold (Ev.mono h' (fun b n'' h'' y hy => ?_) fun _ _ x => x))
  refine Wp.bind (Wp.at (Ev.bind (Wp.hold (Ev.mono (h'' x y hx hy) (fun v n3 h3 z hz => ?_) fun _ _ x => x))))
  refine Wp.bind (Wp.release (Wp.bind (Wp.hold (Wp.mono (h3 z hz) (fun t n4 h4 => ?_) fun _ _ x => x))))
  cases t with
  | false => exact Wp.pure (h4.2 rfl)
  | true =>
    unfold testChain
    refine Ev.bind (Wp.hold (Ev.mono (h4.1 rfl) (fun d n5 h5 z' hz' => ?_) fun _ _ x => x))
    exact Wp.bind (Wp.at (Ev.bind (Wp.operate (Ev.mono (h5 y z' hy hz') (fun v n3 h3 z hz => Wp.hold (h3 z hz)) fun _ _ x => x))))

theorem tt_or1 {x : Expr} {p : Pos} {w : Sem Value} (h : Tt prog c m n (isTrue x c.env (eval x c.env)) B X) : Tt prog c m n (isTrue (.BoolOp .Or [x] p) c.env w) B X := by
  show Wp prog c m n (isTrue x c.env (eval x c.env) >>= _) B X
  refine Wp.bind (Wp.mono h (fun b n' h' => ?_) fun _ _ x => x)
  cases b <;> exact Wp.pure h'
theorem tt_orc {x y : Expr} {r : List Expr} {p : Pos} {w : Sem Value} (h : Tt prog c m n (isTrue x c.env (eval x c.env)) (KOr prog c m (isTrue (.BoolOp .Or (y :: r) p) c.env (eval x c.env)) B X) X) :
    Tt prog c m n (isTrue (.BoolOp .Or (x :: y :: r) p) c.env w) B X := by
  show Wp prog c m n (isTrue x c.env (eval x c.env) >>= _) B X
  refine Wp.bind (Wp.mono h (fun b n' h' => ?_) fun _ _ x => x)
  cases b with
  | true => exact Wp.pure (h'.1 rfl)
  | false => exact h'.2 rfl
theorem tt_and1 {x : Expr} {p : Pos} {w : Sem Value} (h : Tt prog c m n (isTrue x c.env (eval x c.env)) B X) : Tt prog c m n (isTrue (.BoolOp .And [x] p) c.env w) B X := by
  show Wp prog c m n (isTrue x c.env (eval x c.env) >>= _) B X
  refine Wp.bind (Wp.mono h (fun b n' h' => ?_) fun _ _ x => x)
  cases b <;> exact Wp.pure h'
theorem tt_andc {x y : Expr} {r : List Expr} {p : Pos} {w : Sem Value} (h : Tt prog c m n (isTrue x c.env (eval x c.env)) (KAnd prog c m (isTrue (.BoolOp .And (y :: r) p) c.env (eval x c.env)) B X) X) :
    Tt prog c m n (isTrue (.BoolOp .And (x :: y :: r) p) c.env w) B X := by
  show Wp prog c m n (isTrue x c.env (eval x c.env) >>= _) B X
  refine Wp.bind (Wp.mono h (fun b n' h' => ?_) fun _ _ x => x)
  cases b with
  | true => exact h'.1 rfl
  | false => exact Wp.pure (h'.2 rfl)

/-! ### expressions that branch or compare -/
theorem ev_cmp {l r : Expr} {op : CmpOp} (h : Ev prog c m n (eval l c.env) (KCmp prog c m r op Q X) X)
    (hm : behindInMarks op r = false := by with_unfolding_all rfl) : Ev prog c m n (eval (.Compare l [op] [r] pos) c.env) Q X := by
  rw [eval_Compare1, markedBehindIn_of_false hm]
  exact Ev.bind (Ev.mono h (fun a n' h' x hx => Ev.bind (Wp.hold (Ev.mono h' (fun b n'' h'' y hy => Wp.bind (Wp.at (Wp.operate (h'' x y hx hy)))) fun _ _ x => x))) fun _ _ x => x)
theorem ev_if {t a b : Expr} (h : Tt prog c m n (isTrue t c.env (eval t c.env)) (KIf prog c m a b Q X) X) :
    Ev prog c m n (eval (.IfExp t a b pos) c.env) Q X := by
  show Wp prog c m n (isTrue t c.env (eval t c.env) >>= _) _ X
  refine Wp.bind (Wp.mono h (fun d n' h' => ?_) fun _ _ x => x)
  cases d with
  | true => exact h'.1 rfl
  | false => exact h'.2 rfl

/-! ### statements -/
theorem Ex.mono {t : Sem Flow} {N' : Loc → Led → Prop} {R' : V → Led → Prop} {X' : Str → Led → Prop} (h : Ex prog c m n t N R X) (hn : ∀ m' n', N m' n' → N' m' n') (hr : ∀ u n', R u n' → R' u n') (hx : ∀ k n', X k n' → X' k n') :
    Ex prog c m n t N' R' X' := fun H s S => wpAny_mono (h H s S) (fun f s' q => by
      cases f with
      | next => obtain ⟨m', n', a, b⟩ := q; exact ⟨m', n', a, hn _ _ b⟩
      | ret v => obtain ⟨u, m', n', i, a, b⟩ := q; exact ⟨u, m', n', i, a, hr _ _ b⟩
      | _ => exact q) fun e s' ⟨m', k, n', a, b, d⟩ => ⟨m', k, n', a, b, hx _ _ d⟩
theorem ex_nil (h : N m n) : Ex prog c m n (execs [] c.env) N R X := fun H s S => wpAny_execs_nil ⟨m, n, S, h⟩
theorem ex_cons {st : Stmt} {r : List Stmt} (h : Ex prog c m n (exec st c.env) (KSeq prog c r N R X) R X) : Ex prog c m n (execs (st :: r) c.env) N R X := fun H s S =>
  wpAny_execs_cons (wpAny_mono (h H s S) (fun f s' q => by
    cases f with
    | next => obtain ⟨m', n', S', h'⟩ := q; exact h' H s' S'
    | ret v => exact q
    | _ => exact q) fun _ _ x => x)
/-- the last statement of a block -/
theorem ex_one {st : Stmt} (h : Ex prog c m n (exec st c.env) N R X) : Ex prog c m n (execs [st] c.env) N R X := ex_cons (Ex.mono h (fun _ _ q => ex_nil q) (fun _ _ q => q) fun _ _ q => q)
theorem ex_if {t : Expr} {a b : List Stmt} {p : Pos} (h : Tt prog c m n (isTrue t c.env (eval t c.env)) (KXIf prog c m a b N R X) X) :
    Ex prog c m n (exec (.If t a b p) c.env) N R X := fun H s S =>
  wpAny_If (wpAny_mono (h H s S) (fun d s' ⟨n', S', h'⟩ => by
    cases d with
    | true => exact h'.1 rfl H s' S'
    | false => exact h'.2 rfl H s' S') fun e s' q => ⟨m, q⟩)
theorem ex_ret {e : Expr} {p : Pos} (h : Ev prog c m n (eval e c.env) R X) : Ex prog c m n (exec (.Return (some e) p) c.env) N R X := fun H s S =>
  wpAny_Return_some (wpAny_mono (h H s S) (fun v s' ⟨n', S', u, hu, q⟩ => ⟨u, m, n', hu, S', q⟩) fun e s' q => ⟨m, q⟩)
theorem ex_expr {e : Expr} {p : Pos} (h : Ev prog c m n (eval e c.env) (KN N m) X) (hs : swapsWith e none p.line c.env = pure false := by with_unfolding_all rfl) : Ex prog c m n (exec (.Expr e p) c.env) N R X := fun H s S => by
  have hi : interactive c.env = false := by unfold interactive; rw [H.fk]; rfl
  rw [exec_Expr c.env e p hi hs]
  exact wpAny_bind (wpAny_standAt (wpAny_bind (wpAny_mono (h H s S) (fun v s' ⟨n', S', u, hu, q⟩ => wpAny_dropValue ⟨m, n', S', q⟩) fun e s' q => ⟨m, q⟩)))

theorem storeL {x : Str} {v : V} {v' : Value} {sc : Scope} {s : Shared} {Q : Unit → Shared → Prop} {E : Value → Shared → Prop} (H : COk c) (S : Sit prog c m n s) (hs : c.env.scope = sc) (hk : sc.names.lookup x = some .local) (hv : VIs v v')
    (h : ∀ s', Sit prog c ((x, v) :: m) n s' → Q () s') : wpAny (model prog c.w) c.A (storeName c.env x v') Q E s := by
  obtain ⟨_, mv, hn, hm'⟩ := S.loc
  exact wpAny_storeName_local (by rw [Env.kindOf, hs]; exact hk) hn (fun h' h1 h2 => h _ (S.put hv hm' h1 h2)) (by rw [H.fk]; rfl)
theorem storeC {x : Str} {v : V} {v' : Value} {v₀ : V} {sc : Scope} {a : Addr} {s : Shared} {Q : Unit → Shared → Prop} {E : Value → Shared → Prop} (H : COk c) (S : Sit prog c m n s) (hs : c.env.scope = sc) (hk : sc.names.lookup x = some .cell) (hc : c.env.cells.lookup x = some a) (ha : n a = some (.cell v₀)) (hv : VIs v v')
    (h : ∀ s', Sit prog c m (n.set a (.cell v)) s' → Q () s') : wpAny (model prog c.w) c.A (storeName c.env x v') Q E s := by
  obtain ⟨⟨ob, h1, x', h2, hi⟩, _⟩ := S.led a _ ha
  refine wpAny_storeName_cell H.fk (by rw [Env.kindOf, hs]; exact hk) hc ⟨ob, h1, h2⟩ fun h' hx hsb => ?_
  obtain ⟨o', ho', hd'⟩ := hx
  exact h _ (S.set (tk := s.toks) ha hsb ho' ⟨v', hd', hv⟩)

theorem ex_assign {x : Str} {e : Expr} {p p' : Pos} {sc : Scope} (hs : c.env.scope = sc) (hk : sc.names.lookup x = some .local) (h : Ev prog c m n (eval e c.env) (KAs N m x) X)
    (hw : swapsWith e (some (.Name x p')) p.line c.env = pure false := by with_unfolding_all rfl) : Ex prog c m n (exec (.Assign [.Name x p'] e p) c.env) N R X := fun H s S =>
  wpAny_Assign_Name (wpAny_mono (h H s S) (fun v s' ⟨n', S', u, hu, q⟩ => storeL H S' hs hk hu fun s'' S'' => ⟨_, n', S'', q⟩) fun e s' q => ⟨m, q⟩) hw
end

/-! ### calls -/
noncomputable def Fn (prog : Program) (c : Cx) (n : Led) (f : Value) (args : List V) (Q : V → Led → Prop) (X : Str → Led → Prop) : Prop :=
  ∀ m, COk c → ∀ s, Sit prog c m n s → ∀ vals, VRel args vals → codeAny (model prog c.w) c.A (.call f ⟨vals, []⟩)
    (fun r s' => match r with
      | .ok (.ret v) => ∃ u n', VIs u v ∧ Sit prog c m n' s' ∧ Q u n'
      | .ok _ => False
      | .error e => Thrown prog c m X e s') s

section
variable {prog : Program} {c : Cx} {m : Loc} {n : Led} {X : Str → Led → Prop} {Q : V → Led → Prop} {pos : Pos}

theorem Fn.mono {f : Value} {args : List V} {Q' : V → Led → Prop} {X' : Str → Led → Prop} (h : Fn prog c n f args Q X) (hq : ∀ u n', Q u n' → Q' u n') (hx : ∀ k n', X k n' → X' k n') : Fn prog c n f args Q' X' :=
  fun m H s S vals hv => codeAny_mono (h m H s S vals hv) fun r s' q => by
    match r, q with
    | .ok (.ret v), ⟨u, n', a, b, d⟩ => exact ⟨u, n', a, b, hq _ _ d⟩
    | .error e, ⟨k, n', a, b, d⟩ => exact ⟨k, n', a, b, hx _ _ d⟩

theorem Fn.call {f : Value} {args : List V} {vals : List Value} (h : Fn prog c n f args Q X) (hv : VRel args vals) : Ev prog c m n (call f vals) Q X := fun H s S =>
  wpAny_call (codeAny_mono (h m H s S vals hv) fun r s' q => by
    match r, q with
    | .ok (.ret v), ⟨u, n', a, b, d⟩ => exact ⟨n', b, u, a, d⟩
    | .error e, q => exact q)

theorem es_nil {Q : List V → Led → Prop} (h : Q [] n) {p : Pos} : Es prog c m n (spliced (backTo p (starEach [] c.env))) Q X := fun H s S => spliced_nil ⟨n, S, [], .nil, h⟩
noncomputable abbrev KCons (Q : List V → Led → Prop) (u : V) (us : List V) (n : Led) : Prop := Q (u :: us) n
noncomputable abbrev KEs (prog : Program) (c : Cx) (m : Loc) (p : Pos) (rest : List Expr) (Q : List V → Led → Prop) (X : Str → Led → Prop) (u : V) (n : Led) : Prop := Es prog c m n (spliced (backTo p (starEach rest c.env))) (KCons Q u) X
noncomputable abbrev KFn (prog : Program) (c : Cx) (f : Addr) (Q : V → Led → Prop) (X : Str → Led → Prop) (us : List V) (n : Led) : Prop := Fn prog c n (.ref f) us Q X
noncomputable abbrev KB (prog : Program) (c : Cx) (m : Loc) (id : String) (Q : V → Led → Prop) (X : Str → Led → Prop) (us : List V) (n : Led) : Prop := ∀ vs, VRel us vs → Ev prog c m n (call (.builtin id) vs) Q X
theorem es_cons {Q : List V → Led → Prop} {p : Pos} {e : Expr} {rest : List Expr} (h : Ev prog c m n (eval e c.env) (KEs prog c m p rest Q X) X)
    (he : starEach (e :: rest) c.env = (false, eval e c.env) :: starEach rest c.env := by with_unfolding_all rfl) : Es prog c m n (spliced (backTo p (starEach (e :: rest) c.env))) Q X := fun H s S => by
  rw [he]
  show wpAny _ _ (spliced ((false, eval e c.env) :: backTo p (starEach rest c.env))) _ _ s
  exact spliced_cons (wpAny_mono (h H s S) (fun v s' ⟨n', S', u, hu, q⟩ => wpAny_mono (q H s' S') (fun vs s'' ⟨n'', S'', us, hus, q'⟩ => ⟨n'', S'', u :: us, .cons hu hus, q'⟩) fun _ _ x => x) fun _ _ x => x)

noncomputable def isFnIn (w : World) (f : Addr) : Prop := ∃ o fd, (KK w).lookup f = some o ∧ o.data = .func fd

theorem evalArgs_flat {M : Model} {A : Around} {E : Value → Shared → Prop} {s : Shared} {f : Value} {args : List (Bool × Sem Value)} {Q : Args → Shared → Prop} (hp : args.any (·.1) = false)
    (h : wpAny M A (spliced args) (fun vs s' => Q ⟨vs, []⟩ s') E s) : wpAny M A (evalArgs f true args []) Q E s := by
  match args, hp, h with
  | [], _, h =>
    unfold evalArgs
    show wpAny M A (spliced [] >>= _) Q E s
    refine wpAny_bind (wpAny_mono h (fun vs s' h' => ?_) fun _ _ x => x)
    refine wpAny_bind (wpAny_pure (wpAny_holding ?_))
    exact wpAny_bind (wpAny_pure (wpAny_bind (wpAny_pure (wpAny_pure h'))))
  | (false, x) :: rest, _, h => exact evalArgs_plain h

theorem callWithF {f : Addr} {args : List Expr} {p : Pos} (hf : isFnIn c.w f) (h : Es prog c m n (spliced (backTo p (starEach args c.env))) (KFn prog c f Q X) X)
    (hp : (backTo p (starEach args c.env)).any (·.1) = false := by with_unfolding_all rfl) : Ev prog c m n (callWith p (.ref f) [] (backTo p (starEach args c.env)) []) Q X := fun H s S => by
  obtain ⟨o, fd, hl, hd⟩ := hf
  refine callWith_function (o := o) (fd := fd) (evalArgs_flat hp ?_)
  exact wpAny_mono (h H s S) (fun vs s₁ ⟨n₁, S₁, us, hus, q⟩ => ⟨⟨S₁.keep _ _ (H.X _ _ hl), hd⟩, q.call hus H s₁ S₁⟩) fun _ _ x => x
theorem callWithB {id : String} {args : List Expr} {first : List Value} {p : Pos} (h : Es prog c m n (spliced (backTo p (starEach args c.env))) (fun us n' => ∀ vs, VRel us vs → Ev prog c m n' (call (.builtin id) (first ++ vs)) Q X) X)
    (hp : (backTo p (starEach args c.env)).any (·.1) = false := by with_unfolding_all rfl) : Ev prog c m n (callWith p (.builtin id) first (backTo p (starEach args c.env)) []) Q X := fun H s S =>
  callWith_builtin hp (evalArgs_flat hp (wpAny_mono (h H s S) (fun vs s₁ ⟨n₁, S₁, us, hus, q⟩ => q vs hus H s₁ S₁) fun _ _ x => x))

/-- a def of the text's, by its name -/
theorem ev_call {x : Str} {f : Addr} {np : Pos} {args : List Expr} {sc : Scope} (hs : c.env.scope = sc) (hk : sc.names.lookup x = some .globalImplicit) (g : GlobalIs c.w x (.ref f)) (hf : isFnIn c.w f)
    (h : Es prog c m n (spliced (backTo pos (starEach args c.env))) (KFn prog c f Q X) X)
    (hp : (backTo pos (starEach args c.env)).any (·.1) = false := by with_unfolding_all rfl) (hd : (x == ("__debug__" : Str)) = false := by with_unfolding_all rfl) : Ev prog c m n (eval (.Call (.Name x np) args [] pos) c.env) Q X := by
  show Wp prog c m n (eval (.Name x np) c.env >>= fun f => callWith pos f [] (backTo pos (starEach args c.env)) (backToKw pos (keywordEach [] c.env))) _ X
  exact Wp.bind (wp_global hs hk g (callWithF hf h hp) hd)
/-- a built-in function, by its name -/
theorem ev_callB {x : Str} {id : String} {np : Pos} {args : List Expr} {sc : Scope} (hs : c.env.scope = sc) (hk : sc.names.lookup x = some .globalImplicit) (g : BuiltinIs c.w x (.builtin id))
    (h : Es prog c m n (spliced (backTo pos (starEach args c.env))) (KB prog c m id Q X) X)
    (hp : (backTo pos (starEach args c.env)).any (·.1) = false := by with_unfolding_all rfl) (hd : (x == ("__debug__" : Str)) = false := by with_unfolding_all rfl) : Ev prog c m n (eval (.Call (.Name x np) args [] pos) c.env) Q X := by
  show Wp prog c m n (eval (.Name x np) c.env >>= fun f => callWith pos f [] (backTo pos (starEach args c.env)) (backToKw pos (keywordEach [] c.env))) _ X
  exact Wp.bind (wp_builtin hs hk g (callWithB (first := []) h hp) hd)
end

/-! ### entering a def -/
theorem mem_of_lookup {α : Type} {x : Str} {v : α} : ∀ {l : List (Str × α)}, l.lookup x = some v → (x, v) ∈ l
  | [], h => by cases h
  | (y, u) :: l, h => by
    rw [List.lookup_cons] at h
    cases hxy : x == y with
    | true =>
      rw [hxy] at h
      cases h
      rw [eq_of_beq hxy]; exact .head _
    | false => rw [hxy] at h; exact .tail _ (mem_of_lookup h)
theorem lookup_rev {α : Type} : ∀ {l : List (Str × α)}, (l.map (·.1)).Nodup → ∀ x, l.reverse.lookup x = l.lookup x
  | [], _, _ => rfl
  | (y, v) :: l, h, x => by
    obtain ⟨h1, h2⟩ := List.nodup_cons.mp h
    rw [List.reverse_cons, List.lookup_cons]
    have ih := lookup_rev h2 x
    have ap : ∀ (a b : List (Str × α)), (a ++ b).lookup x = (a.lookup x).or (b.lookup x) := fun a b => by
      induction a with
      | nil => rfl
      | cons z a iha =>
        rw [List.cons_append, List.lookup_cons, List.lookup_cons]
        cases x == z.1 <;> simp [iha]
    rw [ap, ih]
    cases hxy : x == y with
    | false => simp [List.lookup_cons, hxy]
    | true =>
      have e := eq_of_beq hxy
      subst e
      have : l.lookup x = none := by
        cases q : l.lookup x with
        | none => rfl
        | some v' => exact absurd (List.mem_map_of_mem (f := Prod.fst) (mem_of_lookup q)) h1
      simp [this, List.lookup_cons]

theorem zip_rel {x : Str} {v : V} : ∀ {ns : List Str} {us : List V} {xs : List Value}, VRel us xs → (ns.zip us).lookup x = some v → ∃ v', (ns.zip xs).lookup x = some v' ∧ VIs v v'
  | [], _, _, _, h => by cases h
  | _ :: _, [], _, .nil, h => by cases h
  | y :: ns, u :: us, z :: xs, .cons hu hr, h => by
    rw [List.zip_cons_cons, List.lookup_cons] at h ⊢
    cases hxy : x == y with
    | true => rw [hxy] at h; cases h; exact ⟨z, rfl, hu⟩
    | false => rw [hxy] at h; exact zip_rel hr h

section
variable {prog : Program} {c : Cx} {m : Loc} {n : Led} {X : Str → Led → Prop} {Q : V → Led → Prop} {pos : Pos}

theorem Sit.leave {env : Env} {A : Around} {lv : Nat} {m' : Loc} {n' : Led} {s : Shared} (S : Sit prog ⟨c.w, c.s₀, c.base, A, env, (c.env.locals, m) :: c.outs, lv⟩ m' n' s) : Sit prog c m n' s where
  gens := S.gens
  drawn := S.drawn
  os := S.os
  keep := S.keep
  loc := S.outs (c.env.locals, m) (.head _)
  outs := fun f hf => S.outs f (.tail _ hf)
  apart := (List.nodup_cons.mp S.apart).2
  led := fun a o e => by
    obtain ⟨h1, h2, h3⟩ := S.led a o e
    exact ⟨h1, h2, fun q => h3 (.tail _ q)⟩
theorem Thrown.leave {env : Env} {A : Around} {lv : Nat} {m' : Loc} {e : Value} {s : Shared} (T : Thrown prog ⟨c.w, c.s₀, c.base, A, env, (c.env.locals, m) :: c.outs, lv⟩ m' X e s) : Thrown prog c m X e s := by
  obtain ⟨k, n, S, ⟨ea, oe, vs, d, od, kvs, ep, t, e1, D⟩, hX⟩ := T
  exact ⟨k, n, S.leave, ⟨ea, oe, vs, d, od, kvs, ep, t, e1, { D with hdL := fun q => D.hdL (.tail _ q) }⟩, hX⟩

theorem VRel.length {us : List V} {xs : List Value} (h : VRel us xs) : us.length = xs.length := by
  induction h with
  | nil => rfl
  | cons _ _ ih => simp [ih]

/-- where a def's body runs: what is known of the place -/
structure InFn (c c' : Cx) (scope : Scope) (cells : List (Str × Addr)) : Prop where
  scope : c'.env.scope = scope
  cells : c'.env.cells = cells
  w : c'.w = c.w
  s₀ : c'.s₀ = c.s₀
  base : c'.base = c.base
  lv : c'.lv + 1 = c.lv
  hd : c'.A.handled = c.A.handled

/-- the body of a def, called by place -/
theorem fn_body {f : Addr} {args : List V} {name qual : Str} {params : Arguments} {body : List Stmt} {scope : Scope} {dV kV doc pm cdv ct oc : Value} {an od : Option Addr} {osl : Array (Option Value)}
    (ho : (KK c.w).lookup f = some ⟨oc, od, .func (fnOf name qual params body scope dV kV doc pm an cdv ct), osl⟩) (hcd : codeIn (KK c.w) cdv qual = true) (hlv : 0 < c.lv)
    (hb : ∀ vals, VRel args vals → bindArgs (fnOf name qual params body scope dV kV doc pm an cdv ct) ⟨vals, []⟩ = pure ((params.args.map (·.arg)).zip vals))
    (hnd : (params.args.map (·.arg)).Nodup) (hloc : ∀ y ∈ params.args.map (·.arg), scope.names.lookup y = some .local)
    (h : ∀ c', InFn c c' scope [] → Ex prog c' ((params.args.map (·.arg)).zip args) n (execs body c'.env) (fun _ n' => Q .none n') Q X)
    (hcell : ∀ x ∈ scope.names, x.2 ≠ .cell := by decide) (hco : scope.isCoroutine = false := by with_unfolding_all rfl) (hgen : scope.isGenerator = false := by with_unfolding_all rfl) (hk : scope.kind = .function := by with_unfolding_all rfl) :
    Fn prog c n (.ref f) args Q X := fun m H s S vals hv => by
  obtain ⟨mg, mb, T⟩ := H.T
  have hroom : c.A.depth < recursionLimit := Nat.lt_of_le_of_lt (Nat.le_trans (Nat.le_add_right _ _) H.dp) (by decide)
  have keys : ((params.args.map (·.arg)).zip vals).map (·.1) |>.Nodup := by
    have : ∀ (a : List Str) (b : List Value), a.Nodup → ((a.zip b).map (·.1)).Nodup := by
      intro a
      induction a with
      | nil => intro b _; exact List.nodup_nil
      | cons x a ih =>
        intro b hx
        cases b with
        | nil => exact List.nodup_nil
        | cons y b =>
          rw [List.zip_cons_cons, List.map_cons, List.nodup_cons]
          refine ⟨fun q => ?_, ih b (List.nodup_cons.mp hx).2⟩
          obtain ⟨z, hz, e⟩ := List.mem_map.mp q
          exact (List.nodup_cons.mp hx).1 ((show z.1 = x from e) ▸ (List.of_mem_zip hz).1)
    exact this _ _ hnd
  refine codeAny_call_def (fd := fnOf name qual params body scope dV kV doc pm an cdv ct) (binds := (params.args.map (·.arg)).zip vals) hroom (S.keep _ _ (H.X _ _ ho)) rfl (T.nolimit.keeps S.keep)
    ((codeRec_of H.X hcd).keeps S.keep) rfl (BindsTo.of_eq (hb vals hv)) hcell (fun y hy => hloc _ (List.of_mem_zip hy).1) (fun h₁ hns hk₁ => ?_) hco hgen hk
  let env' : Env := callEnv (fnOf name qual params body scope dV kV doc pm an cdv ct) s.heap.objs.size f
  let c' : Cx := ⟨c.w, c.s₀, c.base, c.A.deeper env', env', (c.env.locals, m) :: c.outs, c.lv - 1⟩
  obtain ⟨l, hl, hfr⟩ := H.fr
  have hbs : c.base.objs.size ≤ s.heap.objs.size := by
    cases Nat.lt_or_ge s.heap.objs.size c.base.objs.size with
    | inr h => exact h
    | inl h => exact absurd (Nat.lt_of_lt_of_le S.loc.lt (Nat.le_of_lt h)) (Nat.not_lt.mpr S.loc.1)
  have I : InFn c c' scope [] := ⟨rfl, rfl, rfl, rfl, rfl, Nat.succ_pred_eq_of_pos hlv, rfl⟩
  have H' : COk c' := {
    X := H.X
    T := H.T
    fk := hk
    gl := rfl
    bu := rfl
    dp := by show c.A.depth + 1 + (c.lv - 1) ≤ 900; have := H.dp; lia
    un := by show c.A.units + 3 + 10 * (c.lv - 1) ≤ 9000; have := H.un; lia
    sm := H.sm
    fr := ⟨env' :: l, Around.frames_deeper hl, fun e he => by
      rcases List.mem_cons.mp he with rfl | he
      · exact ⟨by show scope.kind ≠ .module; rw [hk]; decide, _, rfl, .head _⟩
      · obtain ⟨a, L, b, d⟩ := hfr e he
        exact ⟨a, L, b, .tail _ d⟩⟩ }
  have S' : Sit prog c' ((params.args.map (·.arg)).zip args) n { s with heap := h₁, toks := s.toks + ((params.args.map (·.arg)).zip vals).length } := {
    gens := S.gens
    drawn := S.drawn
    os := S.os
    keep := fun b o e => hk₁ b o (S.keep b o e)
    loc := ⟨hbs, _, hns, fun x v hx => by
      rw [lookup_rev keys]
      exact zip_rel hv hx⟩
    outs := fun g hg => by
      rcases List.mem_cons.mp hg with rfl | hg
      · exact S.loc.of fun o e => hk₁ _ o e
      · exact (S.outs g hg).of fun o e => hk₁ _ o e
    apart := List.nodup_cons.mpr ⟨fun q => absurd (S.ns _ q).1 (Nat.lt_irrefl _), S.apart⟩
    led := fun a o e => by
      obtain ⟨⟨ob, h1, h2⟩, h3, h4⟩ := S.led a o e
      refine ⟨⟨ob, hk₁ _ _ h1, h2⟩, h3, fun q => ?_⟩
      rcases List.mem_cons.mp q with q | q
      · exact absurd (S.lt e) (by rw [q]; exact Nat.lt_irrefl _)
      · exact h4 q }
  refine wpAny_mono (h c' I H' _ S') (fun fl s' q => ?_) fun e s' ⟨m', q⟩ => ?_
  · cases fl with
    | next => obtain ⟨m', n', a, b⟩ := q; exact ⟨.none, n', .none, a.leave, b⟩
    | ret v => obtain ⟨u, m', n', i, a, b⟩ := q; exact ⟨u, n', i, a.leave, b⟩
    | _ => exact q.elim
  · exact wpAny_mono (wp_leaving H' rfl (Around.frames_deeper hl) q) (fun _ s'' q' => q'.leave) fun _ _ q' => q'.elim
end

-- part F4
set_option maxHeartbeats 2000000
/-! ### plain tables -/
section
variable {K : Type} [DecidableEq K]
noncomputable def kget (es : List (K × V)) (k : K) : Option V := (es.find? fun kv => kv.1 = k).map (·.2)
noncomputable def kput (es : List (K × V)) (k : K) (v : V) : List (K × V) := if es.any (fun kv => kv.1 = k) then es.map (fun kv => if kv.1 = k then (kv.1, v) else kv) else es ++ [(k, v)]
noncomputable def kdel (es : List (K × V)) (k : K) : List (K × V) := es.filter fun kv => decide (kv.1 ≠ k)

theorem KRel.length {es : List (K × V)} {kvs : List (K × Value)} (h : KRel es kvs) : es.length = kvs.length := by
  induction h with
  | nil => rfl
  | cons _ _ ih => simp [ih]
theorem KRel.keys {es : List (K × V)} {kvs : List (K × Value)} (h : KRel es kvs) : es.map (·.1) = kvs.map (·.1) := by
  induction h with
  | nil => rfl
  | cons _ _ ih => simp [ih]
theorem KRel.get {es : List (K × V)} {kvs : List (K × Value)} (h : KRel es kvs) (k : K) : (kget es k = none ∧ valueAt kvs k = none) ∨ ∃ v x, kget es k = some v ∧ valueAt kvs k = some x ∧ VIs v x := by
  induction h with
  | nil => exact .inl ⟨rfl, rfl⟩
  | @cons k' v x es kvs hv h ih =>
    by_cases e : k' = k
    · exact .inr ⟨v, x, by simp [kget, e], by simp [valueAt, e], hv⟩
    · rcases ih with ⟨a, b⟩ | ⟨v, x, a, b, d⟩
      · exact .inl ⟨by simpa [kget, e] using a, by simpa [valueAt, e] using b⟩
      · exact .inr ⟨v, x, by simpa [kget, e] using a, by simpa [valueAt, e] using b, d⟩
theorem KRel.some {es : List (K × V)} {kvs : List (K × Value)} (h : KRel es kvs) {k : K} {v : V} (e : kget es k = some v) : ∃ x, valueAt kvs k = some x ∧ VIs v x := by
  rcases h.get k with ⟨a, _⟩ | ⟨u, x, a, b, d⟩
  · rw [e] at a; cases a
  · rw [e] at a; cases a; exact ⟨x, b, d⟩
theorem KRel.isSome {es : List (K × V)} {kvs : List (K × Value)} (h : KRel es kvs) (k : K) : (valueAt kvs k).isSome = (kget es k).isSome := by
  rcases h.get k with ⟨a, b⟩ | ⟨u, x, a, b, d⟩ <;> rw [a, b] <;> rfl
theorem KRel.any {es : List (K × V)} {kvs : List (K × Value)} (h : KRel es kvs) (k : K) : es.any (fun kv => kv.1 = k) = kvs.any (fun kv => kv.1 = k) := by
  induction h with
  | nil => rfl
  | cons _ _ ih => simp only [List.any_cons, ih]
theorem KRel.put {es : List (K × V)} {kvs : List (K × Value)} (h : KRel es kvs) (k : K) {v : V} {x : Value} (hv : VIs v x) : KRel (kput es k v) (stored kvs k x) := by
  unfold kput stored
  rw [h.any k]
  cases kvs.any (fun kv => kv.1 = k) with
  | true =>
    simp only [if_true]
    induction h with
    | nil => exact .nil
    | @cons k' v' x' es kvs hv' h ih =>
      simp only [List.map_cons]
      by_cases e : k' = k
      · simp only [e, if_true]; exact .cons hv ih
      · simp only [e, if_false]; exact .cons hv' ih
  | false =>
    simp only [Bool.false_eq_true, if_false]
    induction h with
    | nil => exact .cons hv .nil
    | cons hv' h ih => exact .cons hv' ih
theorem KRel.del {es : List (K × V)} {kvs : List (K × Value)} (h : KRel es kvs) (k : K) : KRel (kdel es k) (without kvs k) := by
  unfold kdel without
  induction h with
  | nil => exact .nil
  | @cons k' v' x' es kvs hv' h ih =>
    by_cases e : k' = k
    · simpa [List.filter_cons, e] using ih
    · simp only [List.filter_cons, ne_eq, e, not_false_eq_true, decide_true, if_true]
      exact .cons hv' ih
end

section
variable {prog : Program} {w : World} {K : Type} [DecidableEq K] {knd : KeyKind prog w K} {h : Heap} {a : Addr} {ob : Obj} {kvs : List (K × Value)} {ep : Nat}
theorem DictIs.at (x : DictIs knd ob kvs ep) (ho : h.get? a = some ob) : h.DictAt knd a kvs ep := let ⟨es, r⟩ := x; ⟨ob, es, ho, r⟩
theorem DictIs.of (x : h.DictOf knd a kvs) : ∃ ob ep, h.get? a = some ob ∧ DictIs knd ob kvs ep := let ⟨o, es, ep, ho, r⟩ := x; ⟨o, ep, ho, es, r⟩
end

section
variable {prog : Program} {c : Cx} {m : Loc} {n : Led} {X : Str → Led → Prop} {Q : V → Led → Prop} {pos : Pos} {N : Loc → Led → Prop} {R : V → Led → Prop}

theorem Sit.sd {s : Shared} (S : Sit prog c m n s) {a : Addr} {es : List (Str × V)} {ep : Nat} (h : n a = some (.sd es ep)) : ∃ ob kvs, s.heap.get? a = some ob ∧ DictIs (strKind prog c.w) ob kvs ep ∧ KRel es kvs := by
  obtain ⟨⟨ob, h1, kvs, h2, h3⟩, _⟩ := S.led a _ h
  exact ⟨ob, kvs, h1, h2, h3⟩
theorem Sit.idd {s : Shared} (S : Sit prog c m n s) {a : Addr} {es : List (Int × V)} {ep : Nat} (h : n a = some (.idd es ep)) : ∃ ob kvs, s.heap.get? a = some ob ∧ DictIs (intKind prog c.w) ob kvs ep ∧ KRel es kvs := by
  obtain ⟨⟨ob, h1, kvs, h2, h3⟩, _⟩ := S.led a _ h
  exact ⟨ob, kvs, h1, h2, h3⟩
theorem Sit.list {s : Shared} (S : Sit prog c m n s) {a : Addr} {xs : List V} (h : n a = some (.list xs)) : ∃ ob vs, s.heap.get? a = some ob ∧ s.heap.IsList a vs ∧ ob.dict = none ∧ VRel xs vs.toList := by
  obtain ⟨⟨_, h1, vs, k, rfl, h5⟩, _⟩ := S.led a _ h
  exact ⟨_, vs, h1, ⟨_, h1, rfl, k, rfl⟩, rfl, h5⟩
theorem Sit.plist {s : Shared} (S : Sit prog c m n s) {a : Addr} {xs : List V} (h : n a = some (.list xs)) : ∃ vs, s.heap.PlainList a vs ∧ VRel xs vs.toList := by
  obtain ⟨⟨_, h1, vs, k, rfl, h5⟩, _⟩ := S.led a _ h
  exact ⟨vs, ⟨k, h1⟩, h5⟩
theorem Sit.tup {s : Shared} (S : Sit prog c m n s) {a : Addr} {xs : List V} (h : n a = some (.tup xs)) : ∃ ob vs, s.heap.get? a = some ob ∧ s.heap.IsTuple a vs ∧ ob.dict = none ∧ VRel xs vs.toList := by
  obtain ⟨⟨_, h1, vs, k, rfl, h5⟩, _⟩ := S.led a _ h
  exact ⟨_, vs, h1, ⟨_, h1, rfl, k, rfl⟩, rfl, h5⟩
/-- what is made by the call is no module table -/
theorem Sit.notMods {s : Shared} (H : COk c) (S : Sit prog c m n s) {a : Addr} {o : O} (h : n a = some o) (hf : ∀ ob, o ≠ .exc ob := by intro _ q; cases q) : (a == sysModules) = false := by
  obtain ⟨_, h2, _⟩ := S.led a _ h
  have := H.sm
  have h2 : c.base.objs.size ≤ a := h2.elim id fun ⟨_, ob, e⟩ => absurd e (hf ob)
  exact beq_eq_false_iff_ne.mpr fun q => absurd (Nat.lt_of_lt_of_le this h2) (by rw [q]; exact Nat.lt_irrefl _)
end

-- part F5
set_option maxHeartbeats 2000000
section
variable {prog : Program} {c : Cx} {m : Loc} {n : Led} {X : Str → Led → Prop} {Q : V → Led → Prop} {pos : Pos} {N : Loc → Led → Prop} {R : V → Led → Prop}

theorem keyS (prog : Program) (w : World) (k : Str) (t : Tok) : (PySem.strKind prog w).is k (.str k t) = true := by
  show Value.isStrOf k (.str k t) = true
  simp [Value.isStrOf]
theorem keyI (prog : Program) (w : World) (k : Int) (t : Tok) : (PySem.intKind prog w).is k (.int k t) = true := by
  show Value.isInt k (.int k t) = true
  simp [Value.isInt]

/-! ### items -/
noncomputable def Sub (prog : Program) (c : Cx) (m : Loc) (n : Led) (value slice : Expr) (o i : V) (Q : V → Led → Prop) (X : Str → Led → Prop) : Prop :=
  ∀ x y, VIs o x → VIs i y → Ev prog c m n (subscriptTail value slice x y) Q X
noncomputable abbrev KSub2 (prog : Program) (c : Cx) (m : Loc) (e s : Expr) (o : V) (Q : V → Led → Prop) (X : Str → Led → Prop) (i : V) (n : Led) : Prop := Sub prog c m n e s o i Q X
noncomputable abbrev KSub (prog : Program) (c : Cx) (m : Loc) (e s : Expr) (Q : V → Led → Prop) (X : Str → Led → Prop) (o : V) (n : Led) : Prop := Ev prog c m n (eval s c.env) (KSub2 prog c m e s o Q X) X
theorem ev_sub {e s : Expr} (h : Ev prog c m n (eval e c.env) (KSub prog c m e s Q X) X) : Ev prog c m n (eval (.Subscript e s pos) c.env) Q X := by
  show Wp prog c m n (eval e c.env >>= fun o => holding [o] (eval s c.env) >>= fun i => (standAt pos >>= fun _ => subscriptTail e s o i)) _ X
  exact Ev.bind (Ev.mono h (fun o n' h' x hx => Ev.bind (Wp.hold (Ev.mono h' (fun i n'' h'' y hy => Wp.bind (Wp.at (h'' x y hx hy))) fun _ _ x => x))) fun _ _ x => x)

/-- a subscript that is no slice -/
noncomputable def Plain (s : Expr) : Prop := ∀ o i, subscripted s false o i = operate [o, i] (getItem o i)

theorem sub_sd {e s : Expr} {a : Addr} {es : List (Str × V)} {ep : Nat} {k : Str} {v : V} (ha : n a = some (.sd es ep)) (hk : kget es k = some v) (h : Q v n) (hs : Plain s := by with_unfolding_all (intro _ _; rfl)) : Sub prog c m n e s (.ref a) (.str k) Q X := by
  rintro _ _ ⟨⟩ ⟨⟩
  refine Ev.of fun H s S => ?_
  obtain ⟨ob, kvs, h1, h2, h3⟩ := S.sd ha
  obtain ⟨x, hx, hv⟩ := h3.some hk
  have D := (h2.at h1).dictOf
  exact tail_any D.typeIs slot_dict_getitem.lookup (wpAny_getItem_of (knd := strKind prog c.w) (k := k) (keyS _ _ _ _) D.mapOf hx ⟨v, n, hv, S.toks _, h⟩) (hs _ _)
theorem sub_idd {e s : Expr} {a : Addr} {es : List (Int × V)} {ep : Nat} {k : Int} {v : V} (ha : n a = some (.idd es ep)) (hk : kget es k = some v) (h : Q v n) (hs : Plain s := by with_unfolding_all (intro _ _; rfl)) : Sub prog c m n e s (.ref a) (.int k) Q X := by
  rintro _ _ ⟨⟩ ⟨⟩
  refine Ev.of fun H s S => ?_
  obtain ⟨ob, kvs, h1, h2, h3⟩ := S.idd ha
  obtain ⟨x, hx, hv⟩ := h3.some hk
  have D := (h2.at h1).dictOf
  exact tail_any D.typeIs slot_dict_getitem.lookup (wpAny_getItem_of (knd := intKind prog c.w) (k := k) (keyI _ _ _ _) D.mapOf hx ⟨v, n, hv, S.toks _, h⟩) (hs _ _)

theorem VRel.at {us : List V} {xs : List Value} (h : VRel us xs) {i : Nat} {u : V} (e : us[i]? = some u) : ∃ x, xs[i]? = some x ∧ VIs u x := by
  induction h generalizing i with
  | nil => simp at e
  | cons hv _ ih =>
    cases i with
    | zero => simp only [List.getElem?_cons_zero, Option.some.injEq] at e ⊢; exact ⟨_, rfl, e ▸ hv⟩
    | succ i => simp only [List.getElem?_cons_succ] at e ⊢; exact ih e

theorem sub_list {e s : Expr} {a : Addr} {xs : List V} {k : Int} {v : V} (ha : n a = some (.list xs)) (h0 : 0 ≤ k) (hf : k < 2 ^ 63) (hk : xs[k.toNat]? = some v) (h : Q v n) (hs : Plain s := by with_unfolding_all (intro _ _; rfl)) : Sub prog c m n e s (.ref a) (.int k) Q X := by
  rintro _ _ ⟨⟩ ⟨⟩
  refine Ev.of fun H s S => ?_
  obtain ⟨ob, vs, h1, h2, _, h3⟩ := S.list ha
  obtain ⟨x, hx, hv⟩ := h3.at hk
  exact tail_any h2.typeIs slot_list_getitem.lookup (wpAny_getItem_list h2 h0 hf (by simpa using hx) ⟨v, n, hv, S, h⟩) (hs _ _)
theorem sub_tup {e s : Expr} {a : Addr} {xs : List V} {k : Int} {v : V} (ha : n a = some (.tup xs)) (h0 : 0 ≤ k) (hf : k < 2 ^ 63) (hk : xs[k.toNat]? = some v) (h : Q v n) (hs : Plain s := by with_unfolding_all (intro _ _; rfl)) : Sub prog c m n e s (.ref a) (.int k) Q X := by
  rintro _ _ ⟨⟩ ⟨⟩
  refine Ev.of fun H s S => ?_
  obtain ⟨ob, vs, h1, h2, _, h3⟩ := S.tup ha
  obtain ⟨x, hx, hv⟩ := h3.at hk
  have hl : k.toNat < vs.toList.length := (List.getElem?_eq_some_iff.mp hx).1
  refine item_tupleT (l := vs.toList) (show IsTup s.heap a vs.toList.toArray by rw [Array.toArray_toList]; exact h2) (by lia) hf (j := k.toNat) ?_ hx ⟨v, n, hv, S, h⟩ (hs _ _)
  have : ¬ k < 0 := by lia
  have h5 : k < (vs.toList.length : Int) := by lia
  simp only [seqIndex?, if_neg this, h0, h5, decide_true, Bool.and_self, if_true]
/-- a sign of a text -/
theorem sub_str {e s : Expr} {x : Str} {k : Int} {v : Str} (h0 : -(x.length : Int) ≤ k) (h1 : k < x.length) (hr : fitsSsize k = true) (hv : Txt.item x k = v) (h : Q (.str v) n) (hs : Plain s := by with_unfolding_all (intro _ _; rfl))
    (ht : ∀ t r, letTemporaryGo e (.str x t) r = pure () := by with_unfolding_all (intro _ _; rfl)) : Sub prog c m n e s (.str x) (.int k) Q X := by
  rintro _ _ ⟨⟩ ⟨⟩
  subst hv
  exact .of_toks h fun H s S _ _ kk => item_str hr h0 h1 (fun _ => kk _ _ (.str _ _)) (hs _ _) (ht _)

/-! ### slices -/
noncomputable def Pt (prog : Program) (c : Cx) (m : Loc) (n : Led) (e : Option Expr) (Q : Option Int → Led → Prop) (X : Str → Led → Prop) : Prop :=
  match e with
  | none => Q none n
  | some e => Ev prog c m n (eval e c.env) (fun v n' => ∃ i, v = .int i ∧ Q (some i) n') X

noncomputable def PtIs : Option Int → Value → Prop
  | none, x => x = .none
  | some i, x => ∃ t, x = .int i t

theorem wp_part {e : Option Expr} {P : Option Int → Led → Prop} (h : Pt prog c m n e P X) : Wp prog c m n (valueOrNone (evalOpt e c.env)) (fun x n' => ∃ i, PtIs i x ∧ P i n') X := by
  cases e with
  | none => exact Wp.pure ⟨none, rfl, h⟩
  | some e => exact Wp.mono h (fun x n' ⟨u, hu, i, e, q⟩ => by subst e; cases hu; exact ⟨some i, ⟨_, rfl⟩, q⟩) fun _ _ x => x

noncomputable def Sl (prog : Program) (c : Cx) (m : Loc) (n : Led) (o : V) (l u : Option Int) (Q : V → Led → Prop) (X : Str → Led → Prop) : Prop :=
  ∀ x lx ux (e s : Expr), VIs o x → PtIs l lx → PtIs u ux → (∀ i, subscripted s false x i = operate [i, x] (getItem x i)) → (∀ r, letTemporaryGo e x r = pure ()) → COk c → ∀ s', Sit prog c m n s' →
    wpAny (model prog c.w) c.A (subscriptTail e s x (.ref s'.heap.objs.size)) (fun x s' => ∃ u n', VIs u x ∧ Sit prog c m n' s' ∧ Q u n') (Thrown prog c m X)
      { s' with heap := s'.heap.push { cls := .type "slice", data := .fields #[lx, ux, .none] } }

noncomputable abbrev KSl2 (prog : Program) (c : Cx) (m : Loc) (o : V) (li : Option Int) (Q : V → Led → Prop) (X : Str → Led → Prop) (ui : Option Int) (n : Led) : Prop := Sl prog c m n o li ui Q X
noncomputable abbrev KSl1 (prog : Program) (c : Cx) (m : Loc) (u : Option Expr) (o : V) (Q : V → Led → Prop) (X : Str → Led → Prop) (li : Option Int) (n : Led) : Prop := Pt prog c m n u (KSl2 prog c m o li Q X) X
noncomputable abbrev KSl0 (prog : Program) (c : Cx) (m : Loc) (l u : Option Expr) (Q : V → Led → Prop) (X : Str → Led → Prop) (o : V) (n : Led) : Prop := Pt prog c m n l (KSl1 prog c m u o Q X) X
theorem ev_slice {e : Expr} {l u : Option Expr} {p : Pos} (h : Ev prog c m n (eval e c.env) (KSl0 prog c m l u Q X) X)
    (ht : ∀ x r, letTemporaryGo e x r = pure () := by with_unfolding_all (intro _ _; rfl)) : Ev prog c m n (eval (.Subscript e (.Slice l u none p) pos) c.env) Q X := by
  show Wp prog c m n (eval e c.env >>= fun o => holding [o] (valueOrNone (evalOpt l c.env) >>= fun lv => holding [lv] (valueOrNone (evalOpt u c.env)) >>= fun uv => (holding [lv, uv] (valueOrNone none) >>= fun sv => newFields "slice" [lv, uv, sv])) >>=
    fun i => (standAt pos >>= fun _ => subscriptTail e (.Slice l u none p) o i)) _ X
  refine Ev.bind (Ev.mono h (fun o n' h' x hx => ?_) fun _ _ x => x)
  intro H s S
  refine wpAny_bind (wpAny_holding (wpAny_bind (wpAny_mono (wp_part h' H s S) (fun lx s1 ⟨n1, S1, li, hl, q1⟩ => ?_) fun _ _ x => x)))
  refine wpAny_bind (wpAny_holding (wpAny_mono (wp_part q1 H s1 S1) (fun ux s2 ⟨n2, S2, ui, hu, q2⟩ => ?_) fun _ _ x => x))
  refine wpAny_bind (wpAny_holding (wpAny_pure ?_))
  unfold newFields
  refine wpAny_newObj_type ?_ (by show [lx, ux, Value.none].toArray.size ≤ sizeLine + 2; simp; decide)
  refine wpAny_bind (wpAny_standAt ?_)
  refine wpAny_mono (q2 x lx ux e (.Slice l u none p) hx hl hu (fun i => rfl) (ht x) H s2 S2) (fun x s' ⟨u, n', a, b, d⟩ => ⟨n', b, u, a, d⟩) fun _ _ x => x

theorem sl_str {x : Str} {l u : Option Int} (hz : x.length ≤ sizeLine) (h : Q (.str (Txt.slice x l u)) n) : Sl prog c m n (.str x) l u Q X := by
  rintro _ lx ux e s ⟨⟩ hl hu hs ht H s' S
  have hK : KeptH (fun h => ∀ b o, s'.heap.get? b = some o → h.get? b = some o) := fun h ob P b o e => Heap.get?_push_of_some ob (P b o e)
  have fin : ∀ h' t' k, (∀ b o, s'.heap.get? b = some o → h'.get? b = some o) → ∃ u' n', VIs u' (.str (Txt.slice x l u) t') ∧ Sit prog c m n' { s' with heap := h', toks := k } ∧ Q u' n' :=
    fun h' t' k g => ⟨_, n, .str _ _, S.grow g, h⟩
  cases l with
  | none =>
    obtain rfl : lx = .none := hl
    cases u with
    | none =>
      obtain rfl : ux = .none := hu
      exact tail_of_ItemOn (SBH.sliceItem_nn hK (fun _ _ e => e) fin hz) (hs _) ht
    | some j =>
      obtain ⟨uj, rfl⟩ := hu
      exact tail_of_ItemOn (SBH.sliceItem_ns hK (fun _ _ e => e) fin hz) (hs _) ht
  | some i =>
    obtain ⟨ui, rfl⟩ := hl
    cases u with
    | none =>
      obtain rfl : ux = .none := hu
      exact tail_of_ItemOn (SBH.sliceItem_sn hK (fun _ _ e => e) fin hz) (hs _) ht
    | some j =>
      obtain ⟨uj, rfl⟩ := hu
      exact tail_of_ItemOn (SBH.sliceItem_ss hK (fun _ _ e => e) fin hz) (hs _) ht

/-! ### in -/
theorem cmp_in_sd {a : Addr} {es : List (Str × V)} {ep : Nat} {k : Str} (ha : n a = some (.sd es ep)) (h : Q (.bool (kget es k).isSome) n) : Cmp prog c m n .In (.str k) (.ref a) Q X := by
  rintro _ _ ⟨⟩ ⟨⟩
  refine Ev.of fun H s S => ?_
  obtain ⟨ob, kvs, h1, h2, h3⟩ := S.sd ha
  exact wpAny_in_of (knd := strKind prog c.w) (k := k) (keyS _ _ _ _) (S.notMods H ha) (h2.at h1).dictOf.mapOf ⟨_, n, by rw [h3.isSome]; exact .bool _, S.toks _, h⟩
theorem cmp_in_idd {a : Addr} {es : List (Int × V)} {ep : Nat} {k : Int} (ha : n a = some (.idd es ep)) (h : Q (.bool (kget es k).isSome) n) : Cmp prog c m n .In (.int k) (.ref a) Q X := by
  rintro _ _ ⟨⟩ ⟨⟩
  refine Ev.of fun H s S => ?_
  obtain ⟨ob, kvs, h1, h2, h3⟩ := S.idd ha
  exact wpAny_in_of (knd := intKind prog c.w) (k := k) (keyI _ _ _ _) (S.notMods H ha) (h2.at h1).dictOf.mapOf ⟨_, n, by rw [h3.isSome]; exact .bool _, S.toks _, h⟩
theorem cmp_notin_sd {a : Addr} {es : List (Str × V)} {ep : Nat} {k : Str} (ha : n a = some (.sd es ep)) (h : Q (.bool (!(kget es k).isSome)) n) : Cmp prog c m n .NotIn (.str k) (.ref a) Q X := by
  rintro _ _ ⟨⟩ ⟨⟩
  refine Ev.of fun H s S => ?_
  obtain ⟨ob, kvs, h1, h2, h3⟩ := S.sd ha
  exact wpAny_notIn_of (knd := strKind prog c.w) (k := k) (keyS _ _ _ _) (S.notMods H ha) (h2.at h1).dictOf.mapOf ⟨_, n, by rw [h3.isSome]; exact .bool _, S.toks _, h⟩
theorem cmp_notin_idd {a : Addr} {es : List (Int × V)} {ep : Nat} {k : Int} (ha : n a = some (.idd es ep)) (h : Q (.bool (!(kget es k).isSome)) n) : Cmp prog c m n .NotIn (.int k) (.ref a) Q X := by
  rintro _ _ ⟨⟩ ⟨⟩
  refine Ev.of fun H s S => ?_
  obtain ⟨ob, kvs, h1, h2, h3⟩ := S.idd ha
  exact wpAny_notIn_of (knd := intKind prog c.w) (k := k) (keyI _ _ _ _) (S.notMods H ha) (h2.at h1).dictOf.mapOf ⟨_, n, by rw [h3.isSome]; exact .bool _, S.toks _, h⟩

/-! ### stores -/
/-- x[i] = e -/
noncomputable def St (prog : Program) (c : Cx) (m : Loc) (n : Led) (o i v : V) (P : Led → Prop) (X : Str → Led → Prop) : Prop :=
  ∀ x y z, VIs o x → VIs i y → VIs v z → Wp prog c m n (setItem x y z) (fun _ n' => P n') X
noncomputable abbrev KSi3 (prog : Program) (c : Cx) (m : Loc) (ov v : V) (N : Loc → Led → Prop) (X : Str → Led → Prop) (iv : V) (n : Led) : Prop := St prog c m n ov iv v (N m) X
noncomputable abbrev KSi2 (prog : Program) (c : Cx) (m : Loc) (i : Expr) (v : V) (N : Loc → Led → Prop) (X : Str → Led → Prop) (ov : V) (n : Led) : Prop := Ev prog c m n (eval i c.env) (KSi3 prog c m ov v N X) X
noncomputable abbrev KSi (prog : Program) (c : Cx) (m : Loc) (o i : Expr) (N : Loc → Led → Prop) (X : Str → Led → Prop) (v : V) (n : Led) : Prop := Ev prog c m n (eval o c.env) (KSi2 prog c m i v N X) X
theorem ex_setitem {o i e : Expr} {p p' : Pos} (h : Ev prog c m n (eval e c.env) (KSi prog c m o i N X) X)
    (hs : swapsWith e (some (.Subscript o i p')) p.line c.env = pure false := by with_unfolding_all rfl) : Ex prog c m n (exec (.Assign [.Subscript o i p'] e p) c.env) N R X := fun H s S =>
  wpAny_Assign_Subscript (wpAny_mono (h H s S) (fun v s1 ⟨n1, S1, u, hu, q1⟩ => wpAny_mono (q1 H s1 S1) (fun ov s2 ⟨n2, S2, uo, huo, q2⟩ => wpAny_mono (q2 H s2 S2) (fun iv s3 ⟨n3, S3, ui, hui, q3⟩ =>
    wpAny_mono (q3 _ _ _ huo hui hu H s3 S3) (fun _ s4 ⟨n4, S4, q4⟩ => ⟨m, n4, S4, q4⟩) fun e s' q => ⟨m, q⟩) fun e s' q => ⟨m, q⟩) fun e s' q => ⟨m, q⟩) fun e s' q => ⟨m, q⟩) hs

theorem st_sd {a : Addr} {es : List (Str × V)} {ep : Nat} {k : Str} {v : V} {P : Led → Prop} (ha : n a = some (.sd es ep)) (hz : es.length ≤ sizeLine) (h : ∀ ep', P (n.set a (.sd (kput es k v) ep'))) : St prog c m n (.ref a) (.str k) v P X := by
  rintro _ _ z ⟨⟩ ⟨⟩ hv H s S
  obtain ⟨ob, kvs, h1, h2, h3⟩ := S.sd ha
  refine wpAny_setItem_pairs (knd := strKind prog c.w) (k := k) (keyS _ _ _ _) (h2.at h1).dictOf (fun h' hd hs => ?_) (by rw [← h3.length]; exact hz)
  obtain ⟨ob', ep', ho', hd'⟩ := DictIs.of hd
  exact ⟨_, S.set (o' := .sd (kput es k v) ep') ha hs ho' ⟨_, hd', h3.put k hv⟩, h ep'⟩
theorem st_idd {a : Addr} {es : List (Int × V)} {ep : Nat} {k : Int} {v : V} {P : Led → Prop} (ha : n a = some (.idd es ep)) (hz : es.length ≤ sizeLine) (h : ∀ ep', P (n.set a (.idd (kput es k v) ep'))) : St prog c m n (.ref a) (.int k) v P X := by
  rintro _ _ z ⟨⟩ ⟨⟩ hv H s S
  obtain ⟨ob, kvs, h1, h2, h3⟩ := S.idd ha
  refine wpAny_setItem_pairs (knd := intKind prog c.w) (k := k) (keyI _ _ _ _) (h2.at h1).dictOf (fun h' hd hs => ?_) (by rw [← h3.length]; exact hz)
  obtain ⟨ob', ep', ho', hd'⟩ := DictIs.of hd
  exact ⟨_, S.set (o' := .idd (kput es k v) ep') ha hs ho' ⟨_, hd', h3.put k hv⟩, h ep'⟩
end

-- part F6
section
open PySem.SeqAt (EqAt in_tupleAt notIn_tupleAt)
set_option maxHeartbeats 2000000
section
variable {prog : Program} {c : Cx} {m : Loc} {n : Led} {X : Str → Led → Prop} {Q : V → Led → Prop} {pos : Pos} {N : Loc → Led → Prop} {R : V → Led → Prop}

theorem VRel.toArray {us : List V} {xs : List Value} (h : VRel us xs) : VRel us xs.toArray.toList := by simpa using h
theorem VRel.snoc {us : List V} {xs : List Value} {u : V} {x : Value} (h : VRel us xs) (hx : VIs u x) : VRel (us ++ [u]) (xs ++ [x]) := by
  induction h with
  | nil => exact .cons hx .nil
  | cons a _ ih => exact .cons a ih

theorem Es_mono {t : Sem (List Value)} {Q Q' : List V → Led → Prop} (h : Es prog c m n t Q X) (hq : ∀ us n', Q us n' → Q' us n') : Es prog c m n t Q' X := Wp.mono h (fun xs n' ⟨us, a, b⟩ => ⟨us, a, hq _ _ b⟩) fun _ _ x => x

/-! ### displays -/
theorem ev_tuple {es : List Expr} {k : Nat} (h : Es prog c m n (spliced (backTo pos (starEach es c.env))) (fun us n' => us.length ≤ sizeLine ∧ ∀ a, n' a = none → Q (.ref a) (n'.set a (.tup us))) X) :
    Ev prog c m n (eval (.Tuple es k pos) c.env) Q X := fun H s S =>
  Tuple_ (wpAny_mono (h H s S) (fun xs s' ⟨n', S', us, hu, hz, q⟩ => by
    refine wpAny_newObj_type ?_ (by show xs.toArray.size ≤ sizeLine; rw [List.size_toArray, ← hu.length]; exact hz)
    obtain ⟨a, b⟩ := S'.new (tk := s'.toks) (o := .tup us) (a := s'.heap.objs.size) (fun b o e => Heap.get?_push_of_some { cls := .type "tuple", data := .seq xs.toArray } e) (Nat.le_refl _) (Heap.get?_push_size _ rfl) ⟨_, _, rfl, hu.toArray⟩
    exact ⟨_, b, _, .ref _, q _ a⟩) fun _ _ x => x)
theorem ev_list {es : List Expr} (h : Es prog c m n (spliced (backTo pos (starEach es c.env))) (fun us n' => us.length ≤ sizeLine ∧ ∀ a, n' a = none → Q (.ref a) (n'.set a (.list us))) X) :
    Ev prog c m n (eval (.List es pos) c.env) Q X := fun H s S =>
  List_ (wpAny_mono (h H s S) (fun xs s' ⟨n', S', us, hu, hz, q⟩ => by
    refine wpAny_newObj_type ?_ (by show xs.toArray.size ≤ sizeLine; rw [List.size_toArray, ← hu.length]; exact hz)
    obtain ⟨a, b⟩ := S'.new (tk := s'.toks) (o := .list us) (a := s'.heap.objs.size) (fun b o e => Heap.get?_push_of_some { cls := .type "list", data := .seq xs.toArray } e) (Nat.le_refl _) (Heap.get?_push_size _ rfl) ⟨_, _, rfl, hu.toArray⟩
    exact ⟨_, b, _, .ref _, q _ a⟩) fun _ _ x => x)

/-! ### in a tuple of texts -/
theorem strs_any {us : List V} {xs : List Value} (h : VRel us xs) (hs : ∀ u ∈ us, ∃ y, u = .str y) (k : Str) :
    ∃ e : Value → Bool, (∀ y, y ∈ xs → ∀ A s t, EqAt A s y (.str k t) (e y)) ∧ xs.any e = decide (V.str k ∈ us) := by
  refine ⟨fun y => match y with | .str z _ => z == k | _ => false, fun y hy => ?_, ?_⟩
  · induction h with
    | nil => cases hy
    | @cons v x us xs hv _ ih =>
      rcases List.mem_cons.mp hy with rfl | hy
      · obtain ⟨z, rfl⟩ := hs _ (.head _)
        cases hv
        exact fun A s t => .str_str _ _ _ _
      · exact ih (fun u hu => hs u (.tail _ hu)) hy
  · induction h with
    | nil => simp
    | @cons v x us xs hv _ ih =>
      obtain ⟨z, rfl⟩ := hs _ (.head _)
      cases hv
      rw [List.any_cons, ih fun u hu => hs u (.tail _ hu)]
      by_cases e : z = k
      · subst e; simp
      · have e' : ¬ k = z := fun q => e q.symm
        simp [e, e']
theorem cmp_in_tup {a : Addr} {us : List V} {k : Str} (ha : n a = some (.tup us)) (hs : ∀ u ∈ us, ∃ y, u = .str y) (h : Q (.bool (decide (V.str k ∈ us))) n) : Cmp prog c m n .In (.str k) (.ref a) Q X := by
  rintro _ _ ⟨⟩ ⟨⟩
  refine Ev.of fun H s S => ?_
  obtain ⟨ob, vs, h1, h2, _, h3⟩ := S.tup ha
  obtain ⟨e, he, hz⟩ := strs_any h3 hs k
  refine in_tupleAt e h2 (fun y hy => he y (by simpa using hy) _ _ _) ⟨_, n, ?_, S, h⟩
  rw [← Array.any_toList, hz]; exact .bool _
theorem cmp_notin_tup {a : Addr} {us : List V} {k : Str} (ha : n a = some (.tup us)) (hs : ∀ u ∈ us, ∃ y, u = .str y) (h : Q (.bool (!decide (V.str k ∈ us))) n) : Cmp prog c m n .NotIn (.str k) (.ref a) Q X := by
  rintro _ _ ⟨⟩ ⟨⟩
  refine Ev.of fun H s S => ?_
  obtain ⟨ob, vs, h1, h2, _, h3⟩ := S.tup ha
  obtain ⟨e, he, hz⟩ := strs_any h3 hs k
  refine notIn_tupleAt e h2 (fun y hy => he y (by simpa using hy) _ _ _) ⟨_, n, ?_, S, h⟩
  rw [← Array.any_toList, hz]; exact .bool _

/-! ### attributes -/
noncomputable def At (prog : Program) (c : Cx) (m : Loc) (n : Led) (o : V) (x : Str) (Q : V → Led → Prop) (X : Str → Led → Prop) : Prop := ∀ v, VIs o v → Ev prog c m n (getAttr v x true) Q X
noncomputable abbrev KAt (prog : Program) (c : Cx) (m : Loc) (x : Str) (Q : V → Led → Prop) (X : Str → Led → Prop) (o : V) (n : Led) : Prop := At prog c m n o x Q X
theorem ev_attr {e : Expr} {x : Str} (h : Ev prog c m n (eval e c.env) (KAt prog c m x Q X) X)
    (he : eval (.Attribute e x pos) c.env = (do let o ← eval e c.env; standAt pos.atName; let r ← holding [o] (getAttr o x true); letTemporaryGo e o r; pure r) := by with_unfolding_all rfl) : Ev prog c m n (eval (.Attribute e x pos) c.env) Q X := fun H s S =>
  Attribute_any_ (wpAny_mono (h H s S) (fun v s' ⟨n', S', u, hu, q⟩ => q v hu H s' S') fun _ _ x => x) he

theorem getL_of {w : World} {x : Str} {v : Value} : ∀ {es : List DictEntry} {kvs : List (Str × Value)}, Pairs (PySem.strKind prog w) es kvs → valueAt kvs x = some v → getL x es = some (some v)
  | _, _, .nil, h => by cases h
  | _, _, .cons (e := e) (kv := kv) (es := es) (kvs := kvs) hk hv hp, h => by
    obtain ⟨t, ht⟩ := Value.isStrOf_shape (show Value.isStrOf kv.1 e.key = true from hk)
    have ih := getL_of (x := x) (v := v) hp
    unfold getL at ih ⊢
    by_cases hx : kv.1 = x
    · have : e.key.isStr x = true := by rw [ht, hx]; simp [Value.isStr]
      rw [List.find?_cons, this]
      simp only [valueAt, List.find?_cons, hx, decide_true, if_true, Option.map_some, Option.some.injEq] at h
      show some (some e.val) = some (some v)
      rw [hv, h]
    · have : e.key.isStr x = false := by rw [ht]; simpa [Value.isStr] using hx
      rw [List.find?_cons, this]
      have h' : valueAt kvs x = some v := by simpa [valueAt, List.find?_cons, hx] using h
      have i2 := ih h'
      have hr : e.refKey = false := by simp [DictEntry.refKey, ht]
      rw [List.any_cons, hr, Bool.false_or]
      exact i2

theorem DictIs.eqDictOf {w : World} {ob : Obj} {kvs : List (Str × Value)} {ep : Nat} (h : DictIs (PySem.strKind prog w) ob kvs ep) : ∃ es, ob = dictOf es ep ∧ Pairs (PySem.strKind prog w) es kvs ∧ KeysOf (PySem.strKind prog w) es.toArray := by
  obtain ⟨es, ⟨h1, h2, h3⟩, h4, h5, h6, _⟩ := h
  obtain ⟨c, d, dt, sl⟩ := ob
  simp only at h1 h2 h3 h4
  subst h1 h2 h3 h4
  exact ⟨es.toList, by simp [dictOf], h6, by simpa using h5⟩

/-- a class whose instances' attributes are found in their own table -/
structure ClsOk (w : World) (C : Addr) (x : Str) : Prop where
  get : findIn (KK w) (.ref C) "__getattribute__" = some (some (.builtin "object.__getattribute__"))
  dict : hasDictIn (KK w) C = true
  attr : ∃ a, findIn (KK w) (.ref C) x = some a ∧ noGet (KK w) a = true

theorem VIs.handed {v : V} {x : Value} (h : VIs v x) : handedIn x = true := by cases h <;> rfl
theorem at_inst {x d C : Addr} {nm : Str} {es : List (Str × V)} {ep : Nat} {v : V} (hx : n x = some (.inst C d)) (hd : n d = some (.sd es ep)) (K : ClsOk c.w C nm) (hk : kget es nm = some v) (h : Q v n) : At prog c m n (.ref x) nm Q X := by
  rintro _ ⟨⟩
  refine Ev.of fun H s S => ?_
  obtain ⟨⟨ob, h1, h2, h3, h4⟩, _⟩ := S.led x _ hx
  obtain ⟨od, kvs, h5, h6, h7⟩ := S.sd hd
  obtain ⟨xv, hxv, hi⟩ := h7.some hk
  obtain ⟨es', rfl, hp, _⟩ := h6.eqDictOf
  obtain ⟨oc, odd, odt, osl⟩ := ob
  simp only at h2 h3 h4
  subst h2 h3 h4
  obtain ⟨a, ha, hn⟩ := K.attr
  exact get_value (fun a o e => S.keep _ _ (H.X a o e)) ⟨h1, rfl, rfl, h5⟩ K.get (findObj_own (od := dictOf es' ep) K.dict ha hn (getL_of hp hxv)) hi.handed ⟨v, n, hi, S.toks _, h⟩

/-! ### methods of built-in types -/
noncomputable def HasT (prog : Program) (c : Cx) (m : Loc) (n : Led) (o : V) (T : String) : Prop := ∀ s, Sit prog c m n s → ∀ x, VIs o x → s.TypeIs x T ∧ ∀ a, x = .ref a → ∃ ob, s.heap.get? a = some ob ∧ ob.dict = none
theorem has_sd {a : Addr} {es : List (Str × V)} {ep : Nat} (h : n a = some (.sd es ep)) : HasT prog c m n (.ref a) "dict" := by
  rintro s S _ ⟨⟩
  obtain ⟨ob, kvs, h1, h2, h3⟩ := S.sd h
  refine ⟨(h2.at h1).dictOf.typeIs, fun b e => ?_⟩
  cases e
  obtain ⟨_, ⟨_, h4, _⟩, _⟩ := h2
  exact ⟨ob, h1, h4⟩
theorem has_idd {a : Addr} {es : List (Int × V)} {ep : Nat} (h : n a = some (.idd es ep)) : HasT prog c m n (.ref a) "dict" := by
  rintro s S _ ⟨⟩
  obtain ⟨ob, kvs, h1, h2, h3⟩ := S.idd h
  refine ⟨(h2.at h1).dictOf.typeIs, fun b e => ?_⟩
  cases e
  obtain ⟨_, ⟨_, h4, _⟩, _⟩ := h2
  exact ⟨ob, h1, h4⟩
theorem has_list {a : Addr} {xs : List V} (h : n a = some (.list xs)) : HasT prog c m n (.ref a) "list" := by
  rintro s S _ ⟨⟩
  obtain ⟨ob, vs, h1, h2, h3, _⟩ := S.list h
  exact ⟨h2.typeIs, fun b e => by cases e; exact ⟨ob, h1, h3⟩⟩
theorem has_str {x : Str} : HasT prog c m n (.str x) "str" := by
  rintro s S _ ⟨⟩
  exact ⟨typeIs_str _ _ _, fun b e => by cases e⟩

theorem ev_method {o : Expr} {nm : Str} {apos : Pos} {args : List Expr} {T id : String} {pl : Value → Sem Bool} (pa : PlainAttrs T) (slot : Slot T nm id) (hty : typeOf (.builtin id) = pure (.type "method_descriptor"))
    (h : Ev prog c m n (eval o c.env) (fun ov n' => HasT prog c m n' ov T ∧ Es prog c m n' (spliced (backTo pos (starEach args c.env))) (fun us n'' => ∀ x, VIs ov x → ∀ vs, VRel us vs → Ev prog c m n'' (call (.builtin id) (x :: vs)) Q X) X) X)
    (he : eval (.Call (.Attribute o nm apos) args [] pos) c.env = (do let ov ← eval o c.env; standAt apos.atName; let (f, first) ← holding [ov] (getMethod ov nm (pl ov)); callWith pos f first (backTo pos (starEach args c.env)) (backToKw pos (keywordEach [] c.env))))
    (hp : (backTo pos (starEach args c.env)).any (·.1) = false := by with_unfolding_all rfl) : Ev prog c m n (eval (.Call (.Attribute o nm apos) args [] pos) c.env) Q X := by
  unfold Ev; rw [he]
  refine Ev.bind (Ev.mono h (fun ov n' ⟨hT, q⟩ x hx => Wp.bind (Wp.at ?_)) fun _ _ x => x)
  intro H s S
  obtain ⟨h1, h2⟩ := hT s S x hx
  refine wpAny_bind (wpAny_holding (getMethod_builtin h1 pa slot hty h2 ?_))
  exact callWithB (first := [x]) (Q := Q) (X := X) (Es_mono q fun us n'' k vs hv => k x hx vs hv) hp H s S
end
end

-- part F7
section
open PySem.SeqAt (EqAt in_tupleAt notIn_tupleAt)
set_option maxHeartbeats 2000000
section
variable {prog : Program} {c : Cx} {m : Loc} {n : Led} {X : Str → Led → Prop} {Q : V → Led → Prop} {pos : Pos} {N : Loc → Led → Prop} {R : V → Led → Prop}

/-! ### methods -/
theorem call_pop_sd {a : Addr} {es : List (Str × V)} {ep : Nat} {k : Str} {v : V} {t : Tok} (ha : n a = some (.sd es ep)) (hk : kget es k = some v) (hz : es.length ≤ sizeLine) (h : ∀ ep', Q v (n.set a (.sd (kdel es k) ep'))) :
    Ev prog c m n (call (.builtin "dict.pop") [.ref a, .str k t]) Q X := Ev.of fun H s S => by
  obtain ⟨ob, kvs, h1, h2, h3⟩ := S.sd ha
  obtain ⟨x, hx, hv⟩ := h3.some hk
  have D := (h2.at h1).dictOf
  refine call_meetsIn F.slot_dict_pop D.typeIs F.entry_dict_pop (F.args_dict_pop_2 _ _) (meets_dict_pop_there (PySem.strKind prog c.w) a (keyS _ _ _ _) [] (.inl rfl) rfl)
    ⟨kvs, x, D, by rw [← h3.length]; exact hz, hx, fun h' hd hs => ?_⟩
  obtain ⟨ob', ep', ho', hd'⟩ := DictIs.of hd
  exact ⟨v, _, hv, S.set (o' := .sd (kdel es k) ep') ha hs ho' ⟨_, hd', h3.del k⟩, h ep'⟩
theorem call_pop_idd {a : Addr} {es : List (Int × V)} {ep : Nat} {k : Int} {v : V} {t : Tok} (ha : n a = some (.idd es ep)) (hk : kget es k = some v) (hz : es.length ≤ sizeLine) (h : ∀ ep', Q v (n.set a (.idd (kdel es k) ep'))) :
    Ev prog c m n (call (.builtin "dict.pop") [.ref a, .int k t]) Q X := Ev.of fun H s S => by
  obtain ⟨ob, kvs, h1, h2, h3⟩ := S.idd ha
  obtain ⟨x, hx, hv⟩ := h3.some hk
  have D := (h2.at h1).dictOf
  refine call_meetsIn F.slot_dict_pop D.typeIs F.entry_dict_pop (F.args_dict_pop_2 _ _) (meets_dict_pop_there (PySem.intKind prog c.w) a (keyI _ _ _ _) [] (.inl rfl) rfl)
    ⟨kvs, x, D, by rw [← h3.length]; exact hz, hx, fun h' hd hs => ?_⟩
  obtain ⟨ob', ep', ho', hd'⟩ := DictIs.of hd
  exact ⟨v, _, hv, S.set (o' := .idd (kdel es k) ep') ha hs ho' ⟨_, hd', h3.del k⟩, h ep'⟩
theorem call_append {a : Addr} {xs : List V} {v : V} {x : Value} (ha : n a = some (.list xs)) (hv : VIs v x) (hz : xs.length ≤ sizeLine) (h : Q .none (n.set a (.list (xs ++ [v])))) :
    Ev prog c m n (call (.builtin "list.append") [.ref a, x]) Q X := Ev.of fun H s S => by
  obtain ⟨vs, h2, h4⟩ := S.plist ha
  refine wpAny_list_append_plain h2 (fun h' ⟨k, hp⟩ hs => ?_) (by rw [← Array.length_toList, ← h4.length]; exact hz)
  exact ⟨_, _, .none, S.set (o' := .list (xs ++ [v])) ha hs hp ⟨_, _, rfl, by rw [Array.toList_push]; exact h4.snoc hv⟩, h⟩
theorem call_find {x y : Str} {t u : Tok} (h : Q (.int (Txt.find x y)) n) : Ev prog c m n (call (.builtin "str.find") [.str x t, .str y u]) Q X :=
  .of_toks h fun H s S _ _ k => PySem.SC.find (k _ _ (.int _ _))

/-! ### built-in functions -/
theorem call_len_s {x : Str} {t : Tok} (hz : (x.length : Int) < 2 ^ 63) (h : Q (.int x.length) n) : Ev prog c m n (call (.builtin "len") [.str x t]) Q X :=
  .of_toks h fun H s S _ _ k => PyProof.Rows.len_str (by lia) (k _ _ (.int _ _))
theorem call_len_l {a : Addr} {xs : List V} (ha : n a = some (.list xs)) (hz : (xs.length : Int) < 2 ^ 63) (h : Q (.int xs.length) n) : Ev prog c m n (call (.builtin "len") [.ref a]) Q X := Ev.of fun H s S => by
  obtain ⟨ob, vs, h1, h2, h3, h4⟩ := S.list ha
  have e : vs.size = xs.length := by rw [h4.length, Array.length_toList]
  exact call_len_list h2 (by rw [e]; exact hz) ⟨_, n, by rw [e]; exact .int _ _, S.toks _, h⟩
theorem call_ord {x : Str} {t : Tok} (h1 : x.length = 1) (h : Q (.int (x.cps.getD 0 0 : Nat)) n) : Ev prog c m n (call (.builtin "ord") [.str x t]) Q X :=
  .of_toks h fun H s S _ _ k => ord_of_one h1 (k _ _ (.int _ _))
theorem call_chr {i : Int} {t : Tok} (h0 : 0 ≤ i) (h1 : i ≤ 1114111) (h : Q (.str ⟨#[i.toNat]⟩) n) : Ev prog c m n (call (.builtin "chr") [.int i t]) Q X :=
  .of_toks h fun H s S _ _ k => chr_of_range h0 h1 (k _ _ (.str _ _))
theorem call_min {a b : Int} {t u : Tok} (hh : c.A.handled = none) (h : Q (.int (min a b)) n) : Ev prog c m n (call (.builtin "min") [.int a t, .int b u]) Q X := Ev.of fun H s S =>
  min_two_ints hh fun h' tk k => ⟨_, n, by
    show VIs (.int (min a b)) _
    split
    · rw [show min a b = b from by lia]; exact .int _ _
    · rw [show min a b = a from by lia]; exact .int _ _, S.grow k, h⟩

theorem bin_rep {x : Str} {k : Int} (h1 : x.length = 1) (hlo : -(2 ^ 63 : Int) ≤ k) (hhi : k ≤ 1000000) (h : Q (.str (Txt.mul x k)) n) : Bin prog c m n .Mult (.str x) (.int k) Q X := by
  rintro _ _ ⟨⟩ ⟨⟩
  exact .of_toks h fun H s S _ _ kk => PySem.SB.mul (mulOk_of 16 1000000 (by lia) hhi hlo (by decide) (by decide)) fun t' tk => kk _ _ (.str _ _)

/-! ### a table displayed: written keys -/
noncomputable def Evs (prog : Program) (c : Cx) (m : Loc) : List Expr → Led → (List V → Led → Prop) → (Str → Led → Prop) → Prop
  | [], n, Q, _ => Q [] n
  | e :: r, n, Q, X => Ev prog c m n (eval e c.env) (fun u n' => Evs prog c m r n' (KCons Q u) X) X

noncomputable def mkd (es : List (Str × V)) : List (Str × V) := es.foldl (fun acc kv => kput acc kv.1 kv.2) []

theorem krel_merge {K : Type} [DecidableEq K] : ∀ {es acc : List (K × V)} {kvs acc' : List (K × Value)}, KRel es kvs → KRel acc acc' → KRel (es.foldl (fun acc kv => kput acc kv.1 kv.2) acc) (merged acc' kvs)
  | _, _, _, _, .nil, h => h
  | _, _, _, _, .cons hv h, h' => by
    rw [List.foldl_cons]
    unfold merged
    rw [List.foldl_cons]
    exact krel_merge h (h'.put _ hv)

inductive PRel : List (Str × V) → List (Value × Value) → Prop
  | nil : PRel [] []
  | cons {k : Str} {t : Tok} {u : V} {x : Value} {es : List (Str × V)} {vs : List (Value × Value)} : VIs u x → PRel es vs → PRel ((k, u) :: es) ((.str k t, x) :: vs)

theorem PRel.carries {w : World} {es : List (Str × V)} {vs : List (Value × Value)} (h : PRel es vs) : ∃ kvs, Carries (PySem.strKind prog w) vs kvs ∧ KRel es kvs ∧ kvs.length = vs.length := by
  induction h with
  | nil => exact ⟨[], trivial, .nil, rfl⟩
  | @cons k t u x es vs hu _ ih =>
    obtain ⟨kvs, a, b, d⟩ := ih
    exact ⟨(k, x) :: kvs, ⟨keyS _ _ _ _, rfl, a⟩, .cons hu b, by simp [d]⟩

noncomputable abbrev pairT (env : Env) (pos : Pos) (k : Str × Nat × Pos) (v : Expr) : Sem Value × Sem Value := (eval (.Constant (.str k.1) k.2.1 k.2.2) env, do let x ← eval v env; standAt pos; pure x)

theorem wp_pairs {ks : List (Str × Nat × Pos)} : ∀ {vs : List Expr} {n : Led} {P : List (Str × V) → Led → Prop}, ks.length = vs.length → Evs prog c m vs n (fun us n' => P ((ks.map (·.1)).zip us) n') X →
    Wp prog c m n (evalPairs (List.zipWith (pairT c.env pos) ks vs)) (fun xs n' => ∃ es, PRel es xs ∧ P es n') X := by
  induction ks with
  | nil =>
    intro vs n P hl h
    cases vs with
    | nil => exact Wp.pure ⟨[], .nil, h⟩
    | cons _ _ => cases hl
  | cons k ks ih =>
    intro vs n P hl h
    cases vs with
    | nil => cases hl
    | cons v vs =>
      rw [List.zipWith_cons_cons]
      unfold evalPairs
      refine Ev.bind (ev_str fun x hx => ?_)
      cases hx
      refine Wp.bind (Wp.hold (Ev.bind (Ev.mono h (fun u n' h' y hy => Wp.bind (Wp.at (Wp.pure ?_))) fun _ _ x => x)))
      exact Wp.bind (Wp.hold (Wp.mono (ih (by simpa using hl) (P := fun es n'' => P ((k.1, u) :: es) n'') h') (fun xs n'' ⟨es, a, b⟩ => Wp.pure ⟨_, .cons hy a, b⟩) fun _ _ x => x))

theorem ev_dict {ks : List (Str × Nat × Pos)} {keys : List (Option Expr)} {vs : List Expr} (hk : keys = ks.map fun k => some (.Constant (.str k.1) k.2.1 k.2.2)) (hl : ks.length = vs.length) (h0 : ks ≠ []) (hz : ks.length ≤ 15)
    (h : ∀ a, n a = none → Evs prog c m vs (n.set a (.sd [] 0)) (fun us n' => n' a = some (.sd [] 0) ∧ ∀ ep, Q (.ref a) (n'.set a (.sd (mkd ((ks.map (·.1)).zip us)) ep))) X) : Ev prog c m n (eval (.Dict keys vs pos) c.env) Q X := Ev.of fun H s S => by
  subst hk
  have sh : ∀ (ks : List (Str × Nat × Pos)) (vs : List Expr), (evalEachOpt (ks.map fun k => some (.Constant (.str k.1) k.2.1 k.2.2)) c.env).zip ((evalEach vs c.env).map fun v => do let x ← v; standAt pos; pure x) =
      (List.zipWith (pairT c.env pos) ks vs).map fun p => (some p.1, p.2) := by
    intro ks
    induction ks with
    | nil => intro vs; rfl
    | cons k ks ih =>
      intro vs
      cases vs with
      | nil => rfl
      | cons v vs =>
        show (some _, _) :: _ = _ :: _
        rw [← ih vs]
        rfl
  obtain ⟨a0, S1⟩ := S.new (tk := s.toks) (o := .sd [] 0) (a := s.heap.objs.size) (fun b o e => Heap.get?_push_of_some { cls := .type "dict", data := .dict #[] } e) (Nat.le_refl _) (Heap.get?_push_size _ rfl)
    ⟨[], ⟨#[], ⟨rfl, rfl, rfl⟩, rfl, (fun _ he => by simp at he), Pairs.nil, List.nodup_nil⟩, .nil⟩
  refine wpAny_Dict_pairs (knd := PySem.strKind prog c.w) (sh ks vs) (by cases ks with | nil => exact absurd rfl h0 | cons k ks => cases vs with | nil => cases hl | cons v vs => simp) (by rw [List.length_zipWith, hl, Nat.min_self, ← hl]; exact hz) ?_
  refine wpAny_mono (wp_pairs (P := fun es n' => n' s.heap.objs.size = some (.sd [] 0) ∧ ∀ ep, Q (.ref s.heap.objs.size) (n'.set s.heap.objs.size (.sd (mkd es) ep))) hl (h _ a0) H _ S1) (fun xs s2 ⟨n2, S2, es, hp, hn, q⟩ => ?_) fun _ _ x => x
  obtain ⟨kvs, c1, c2, c3⟩ := hp.carries (prog := prog) (w := c.w)
  obtain ⟨ob, kv0, d1, d2, d3⟩ := S2.sd hn
  have e0 : kv0 = [] := by cases d3; rfl
  subst e0
  refine ⟨kvs, c1, (d2.at d1).dictOf, fun h' hd hs => ?_⟩
  obtain ⟨ob', ep', ho', hd'⟩ := DictIs.of hd
  exact ⟨_, _, .ref _, S2.set (o' := .sd (mkd es) ep') hn hs ho' ⟨_, hd', krel_merge c2 .nil⟩, q ep'⟩
end
end

-- part F8
set_option maxHeartbeats 2000000


-- part R0
set_option maxHeartbeats 2000000
theorem slot_wd_get : Slot "wrapper_descriptor" "__get__" "wrapper_descriptor.__get__" := .of (owner := "wrapper_descriptor") (n := "__get__") (by rw [typeLookup_type, builtinLookup_eq_fast]; kernel_rfl) (by decide +kernel) (by decide +kernel) (by decide +kernel)
  (by first | exact .inl (by decide +kernel) | exact .inr (by decide +kernel)) (by rw [isSubtype_type]; kernel_rfl)
theorem entry_wd_get : entryFor table "wrapper_descriptor.__get__" = some Builtin.«wrapper_descriptor.__get__» := entryFor_of_tree (by kernel_rfl)
theorem args_wd_get (a b c : Value) : argsOk "wrapper_descriptor.__get__" ⟨[a, b, c], []⟩ := by unfold argsOk; kernel_rfl
theorem ty_ei : typeOf (.builtin "Exception.__init__") = pure (.type "wrapper_descriptor") := by kernel_rfl

section
variable {prog : Program} {w : World} {M : Model} {A : Around} {E : Value → Shared → Prop} {h : Heap} {g : Array GenState} {d : Drawn} {t : Nat} {os : OsState}
variable {nm q : Str} {C N : Addr} {bs bm : List Value} {hdct : Bool} {sn : List Str} {sub : List Value} {ab : Bool} {col : Option Bool} {dd : Option Addr} {k0 k1 k2 k3 k5 : Option Value} {newId : String}

theorem wd_get {x : Addr} {ox : Obj} {Q : Fin → Shared → Prop} (hC : h.get? C = some (excClassObj nm q C N bs bm hdct sn sub ab col dd k0 k1 k2 k3 k5 newId)) (hx : h.get? x = some ox) (hxc : ox.cls = .ref C)
    (hb : bm.contains (.type "Exception") = true)
    (hq : Q (.done (.ret (.ref h.objs.size))) ⟨h.push { cls := .type "method-wrapper", data := .fields #[.builtin "Exception.__init__", .ref x] }, g, d, t, os⟩) :
    wpAny (model prog w) A (Builtin.«wrapper_descriptor.__get__» ⟨[.builtin "Exception.__init__", .ref x, .ref C], []⟩) Q E ⟨h, g, d, t, os⟩ := by
  have hcB : (Value.ref C :: bm).contains (.type "Exception") = true := by rw [List.contains_cons, hb, Bool.or_true]
  unfold Builtin.«wrapper_descriptor.__get__»
  refine wpAny_bind ?_
  refine wpAny_of_eq (a := (.builtin "Exception.__init__", some (.ref x), some (.ref C))) (by with_unfolding_all rfl) ?_
  show wpAny _ _ (Bind.bind _ _) _ _ _
  refine wpAny_bind ?_
  show wpAny _ _ (Bind.bind _ _) _ _ _
  refine wpAny_bind ?_
  refine wpAny_of_eq (a := (("__init__" : Str), Value.type "Exception")) (by kernel_rfl) ?_
  show wpAny _ _ (isInstance _ _ >>= _) _ _ _
  refine wpAny_bind ?_
  unfold isInstance
  repeat (first | (with_reducible refine wpAny_loadPart_at hx ?_; rw [hxc]) | (with_reducible refine wpAny_isSubtype_exc hC ?_; rw [hcB]) | wp_step)
  exact hq

theorem super_ga {so x : Addr} {ox : Obj} {l : List Value} {K : Frag} {tk : Tok} {Q : Fin → Shared → Prop}
    (hC : h.get? C = some (excClassObj nm q C N bs bm hdct sn sub ab col dd k0 k1 k2 k3 k5 newId)) (hx : h.get? x = some ox) (hxc : ox.cls = .ref C) (hb : bm.contains (.type "Exception") = true)
    (hso : h.get? so = some { cls := .type "super", dict := none, data := .fields #[.ref C, .ref x, .ref C], slots := #[] }) (hno : Looks (model prog w) h (opaqueClassAbove (.ref C)) none)
    (hl : ((Value.ref C :: bm).dropWhile (· != .ref C)).drop 1 = l) (X : K.In h)
    (hf : alongIn K "__init__" l = some (some (.builtin "Exception.__init__"))) (hxC : x ≠ C)
    (hq : Q (.done (.ret (.ref h.objs.size))) ⟨h.push { cls := .type "method-wrapper", data := .fields #[.builtin "Exception.__init__", .ref x] }, g, d, t, os⟩) :
    wpAny (model prog w) A (Builtin.«super.__getattribute__» ⟨[.ref so, .str "__init__" tk], []⟩) Q E ⟨h, g, d, t, os⟩ := by
  have hlk := slot_wd_get.lookup
  have hne : (Value.ref x == Value.ref C) = false := by simp [hxC]
  have hn : (("__init__" : Str) == ("__class__" : Str)) = false := by decide
  have ht := ty_ei
  have hdt : ({ cls := .type "super", dict := none, data := .fields #[.ref C, .ref x, .ref C], slots := #[] } : Obj).data = .fields #[.ref C, .ref x, .ref C] := rfl
  have f0 : (#[.ref C, .ref x, .ref C] : Array Value)[0]? = some (.ref C) := rfl
  have f1 : (#[.ref C, .ref x, .ref C] : Array Value)[1]? = some (.ref x) := rfl
  have f2 : (#[.ref C, .ref x, .ref C] : Array Value)[2]? = some (.ref C) := rfl
  have hTf : (⟨h, g, d, t, os⟩ : Shared).TypeIs (.builtin "Exception.__init__") "wrapper_descriptor" := ty_ei
  unfold Builtin.«super.__getattribute__»
  repeat (first
    | (with_reducible refine wpAny_field hso hdt f0 ?_) | (with_reducible refine wpAny_field hso hdt f1 ?_) | (with_reducible refine wpAny_field hso hdt f2 ?_)
    | (with_reducible refine ks_wpAny_notOpaque hno ?_)
    | (with_reducible refine wpAny_mroOf_exc hC ?_; rw [hl])
    | (refine ks_forIn_along X (fun _ _ => rfl) rfl ?_ hf)
    | (with_reducible refine wpAny_typeOf hTf ?_)
    | (with_reducible refine wpAny_call_entry slot_wd_get hTf entry_wd_get ?_ (args_wd_get _ _ _))
    | (with_reducible refine wd_get hC hx hxc hb ?_)
    | (with_reducible refine ⟨_, rfl, ?_⟩)
    | (simp only [hn, hne, Bool.or_false, Bool.false_eq_true, if_false])
    | wp_step
    | dsimp only)
  all_goals first | exact hq | exact slot_wd_get.lookup

theorem super_gm {so x : Addr} {ox : Obj} {l : List Value} {K : Frag} {pl : Sem Bool} {Q : Value × List Value → Shared → Prop}
    (hC : h.get? C = some (excClassObj nm q C N bs bm hdct sn sub ab col dd k0 k1 k2 k3 k5 newId)) (hx : h.get? x = some ox) (hxc : ox.cls = .ref C) (hb : bm.contains (.type "Exception") = true)
    (hso : h.get? so = some { cls := .type "super", dict := none, data := .fields #[.ref C, .ref x, .ref C], slots := #[] }) (hno : Looks (model prog w) h (opaqueClassAbove (.ref C)) none)
    (hl : ((Value.ref C :: bm).dropWhile (· != .ref C)).drop 1 = l) (X : K.In h)
    (hf : alongIn K "__init__" l = some (some (.builtin "Exception.__init__"))) (hxC : x ≠ C)
    (hq : Q (.ref h.objs.size, []) ⟨h.push { cls := .type "method-wrapper", data := .fields #[.builtin "Exception.__init__", .ref x] }, g, d, t + 1, os⟩) :
    wpAny (model prog w) A (getMethod (.ref so) "__init__" pl) Q E ⟨h, g, d, t, os⟩ := by
  have hlk := F.ks_slot_super_ga.lookup
  have hcan := F.ks_canon_super_ga
  have hT : ∀ t', (⟨h, g, d, t', os⟩ : Shared).TypeIs (.ref so) "super" := fun _ => ⟨_, hso, rfl⟩
  unfold getMethod
  refine wpAny_bind (wpAny_specialOf (hT _) hlk ?_)
  show wpAny _ _ (if (Manifest.canonical "super.__getattribute__" != "object.__getattribute__") = true then _ else _) _ _ _
  rw [if_pos hcan]
  unfold getAttr getAttrBy
  refine wpAny_bind (wpAny_bind (wpAny_mkText (wpAny_holding (wpAny_bind (wpAny_typeOf (hT _) (wpAny_bind (wpAny_of_eq hlk ?_)))))))
  show wpAny _ _ (getAttrByItsOwn (.ref so) (.str "__init__" t) (.type "super") (.builtin "super.__getattribute__") true false) _ _ _
  unfold getAttrByItsOwn hookBefore callGetattribute boundAndCalled
  refine wpAny_bind (wpAny_of_eq (show (if onTheHeap (.type "super") then typeLookup (.type "super") "__getattr__" else pure none) = pure none from rfl) ?_)
  refine wpAny_bind (wpAny_attempt (wpAny_holding ?_))
  show wpAny _ _ (bindSpecial (.builtin "super.__getattribute__") (.ref so) >>= _) _ _ _
  refine wpAny_bind (wpAny_of_eq (F.ks_slot_super_ga.bind _) ?_)
  refine wpAny_mono (Q := fun v s' => v = .ref h.objs.size ∧ s' = ⟨h.push { cls := .type "method-wrapper", data := .fields #[.builtin "Exception.__init__", .ref x] }, g, d, t + 1, os⟩) (E := fun _ _ => False)
    (wpAny_call_entry F.ks_slot_super_ga (hT _) F.ks_entry_super_ga (super_ga hC hx hxc hb hso hno hl X hf hxC ⟨_, rfl, rfl, rfl⟩) (F.ks_gaArgs_super _ _)) (fun v s' hv => ?_) fun _ _ z => z.elim
  obtain ⟨rfl, rfl⟩ := hv
  exact wpAny_pure (wpAny_pure hq)
end

section
variable {prog : Program} {w : World} {A : Around} {E : Value → Shared → Prop} {h : Heap} {g : Array GenState} {d : Drawn} {t : Nat} {os : OsState}
variable {nm q : Str} {C N : Addr} {bs bm : List Value} {hdct : Bool} {sn : List Str} {sub : List Value} {ab : Bool} {col : Option Bool} {dd : Option Addr} {k0 k1 k2 k3 k5 : Option Value} {newId B initId : String}

theorem check_bound (F : ExcBaseFacts B newId initId bm) {M : Model} {e : Addr} {oe : Obj} {rest : List Value} {Q : Unit → Shared → Prop}
    (hC : h.get? C = some (excClassObj nm q C N bs bm hdct sn sub ab col dd k0 k1 k2 k3 k5 newId)) (he : h.get? e = some oe) (hcls : oe.cls = .ref C) (hq : Q () ⟨h, g, d, t, os⟩) :
    wpAny M A (checkBoundCall initId ⟨.ref e :: rest, []⟩) Q E ⟨h, g, d, t, os⟩ := by
  have hcB : (Value.ref C :: bm).contains (.type B) = true := by rw [List.contains_cons, F.hasB, Bool.or_true]
  have hshort := F.noStar
  simp only [checkBoundCall, F.initKind, F.initSplit, F.initRow]
  unfold Bind.checkArgs
  repeat (first | (with_reducible refine wpAny_loadPart_at he ?_; rw [hcls]) | with_reducible refine wpAny_loadPart_at hC ?_ | (with_reducible refine wpAny_isSubtype_exc hC ?_; rw [hcB]) | wp_step)
  refine wpAny_onRaise ?_
  rw [show ∀ (a b : String) (n : Nat), Bind.check ⟨.positional, "*", B, .self, [⟨"args", .varPos, false⟩]⟩ a b n (List.map (fun x => x.fst) ({ pos := Value.ref e :: rest } : Args).kw) = pure () from
    fun a b n => check_star_args _ _ _ _ _ _]
  exact wpAny_pure hq

end

-- part R1
set_option maxHeartbeats 2000000
section
variable {prog : Program} {w : World} {A : Around} {E : Value → Shared → Prop} {h : Heap} {g : Array GenState} {d : Drawn} {t : Nat} {os : OsState}
variable {nm q : Str} {C N : Addr} {bs bm : List Value} {hdct : Bool} {sn : List Str} {sub : List Value} {ab : Bool} {col : Option Bool} {dd : Option Addr} {k0 k1 k2 k3 k5 : Option Value} {newId B initId : String}

theorem mw_call (F : ExcBaseFacts B newId initId bm) {mw x tp : Addr} {v : Value} {Q : Value → Shared → Prop}
    (hC : h.get? C = some (excClassObj nm q C N bs bm hdct sn sub ab col dd k0 k1 k2 k3 k5 newId)) (hx : h.get? x = some { cls := .ref C, data := .fields #[.ref tp, .none, .none, .none, .bool false, .none] })
    (hmw : h.get? mw = some { cls := .type "method-wrapper", data := .fields #[.builtin initId, .ref x] })
    (hq : ∀ h' tp', h'.get? x = some { cls := .ref C, data := .fields #[.ref tp', .none, .none, .none, .bool false, .none] } → (∀ y o, y ≠ x → h.get? y = some o → h'.get? y = some o) → Q .none ⟨h', g, d, t, os⟩) :
    wpAny (model prog w) A (call (.ref mw) [v]) Q E ⟨h, g, d, t, os⟩ := by
  refine wpAny_call (codeAny_of_tree ?_)
  show wpAny _ _ (callAny (.ref mw) _) _ _ _
  unfold callAny
  refine wpAny_bind (wpAny_load hmw ?_)
  simp only []
  rw [if_pos (by decide)]
  show wpAny _ _ (do checkBoundCall initId ⟨[.ref x, v], []⟩; again (.builtin initId ⟨[.ref x, v], []⟩)) _ _ _
  refine wpAny_bind (check_bound F hC hx rfl (wpAny_pure ⟨?_, codeAny_builtin F.initEntry ?_⟩))
  · exact plainId_quiet F.init.plain _
  rw [Around.under_plainId F.init.plain _]
  unfold Builtin.«BaseException.__init__» Builtin.BaseException.bexcPut
  have hx2 : ∀ o, (h.push o).get? x = some { cls := .ref C, data := .fields #[.ref tp, .none, .none, .none, .bool false, .none] } := fun o => Heap.get?_push_of_some o hx
  repeat (first | (with_reducible refine wpAny_newObj_type ?_ (by size_fits)) | (with_reducible refine wpAny_field (hx2 _) rfl (x := .ref tp) rfl ?_) | (with_reducible refine wpAny_setField_rec (hx2 _) (by simp) fun h1 e1 s1 => ?_) | wp_step)
  exact hq h1 _ (by simpa using e1) fun y o hy e => (s1.2 y hy).trans (Heap.get?_push_of_some _ e)
end

-- part R2
section
open PySem.Builtin
open PySem.Builtin.ObjectAttr
set_option maxHeartbeats 2000000
section
variable {prog : Program} {w : World} {A : Around} {E : Value → Shared → Prop} {h : Heap} {g : Array GenState} {d : Drawn} {t : Nat} {os : OsState}

theorem isStr_eq {e : Value} {k x : Str} (h : Value.isStrOf k e = true) : e.isStr x = decide (k = x) := by
  obtain ⟨t, rfl⟩ := Value.isStrOf_shape h
  by_cases e : k = x
  · simp [Value.isStr, e]
  · simp [Value.isStr, e]

theorem put_pairs {name : Str} {tk : Tok} {v : Value} : ∀ {es : List DictEntry} {kvs : List (Str × Value)}, Pairs (PySem.strKind prog w) es kvs → (kvs.map (·.1)).Nodup →
    Pairs (PySem.strKind prog w) (putL name (PyData.keyHash w.params name) (.str name tk) v es) (stored kvs name v)
  | _, _, .nil, _ => .cons (keyS _ _ _ _) rfl .nil
  | _, _, .cons (e := e) (kv := kv) (es := es) (kvs := kvs) hk hv hp, nd => by
    rw [List.map_cons, List.nodup_cons] at nd
    have ih := put_pairs (name := name) (tk := tk) (v := v) hp nd.2
    unfold putL
    rw [isStr_eq hk]
    unfold stored at ih ⊢
    by_cases e : kv.1 = name
    · have no : ∀ kv' ∈ kvs, kv'.1 ≠ name := fun kv' h' q => nd.1 (e ▸ q ▸ List.mem_map_of_mem h')
      have : (kvs.map fun kv => if kv.1 = name then (kv.1, v) else kv) = kvs := by
        conv => rhs; rw [← List.map_id kvs]
        exact List.map_congr_left fun kv' h' => if_neg (no kv' h')
      simp only [e, decide_true, if_true, List.any_cons, Bool.true_or, List.map_cons, this]
      exact .cons (e ▸ hk) rfl hp
    · simp only [e, decide_false, Bool.false_eq_true, if_false, List.any_cons, Bool.false_or, List.map_cons]
      cases q : kvs.any fun kv => kv.1 = name with
      | true => rw [q] at ih; exact .cons hk hv ih
      | false => rw [q] at ih; exact .cons hk hv ih

theorem put_keys {name : Str} {tk : Tok} {v : Value} : ∀ {es : List DictEntry}, KeysOf (PySem.strKind prog w) es.toArray → KeysOf (PySem.strKind prog w) (putL name (PyData.keyHash w.params name) (.str name tk) v es).toArray
  | [], _ => fun e he => by
    simp only [putL, List.mem_toArray, List.mem_singleton] at he
    subst he
    exact ⟨name, keyS _ _ _ _, rfl⟩
  | e :: r, hk => by
    have h1 := hk e (by simp)
    have ih := put_keys (name := name) (tk := tk) (v := v) (es := r) fun e' he' => hk e' (by simp at he' ⊢; exact .inr he')
    unfold putL
    split
    · intro e' he'
      simp only [List.mem_toArray, List.mem_cons] at he'
      rcases he' with rfl | he'
      · exact h1
      · exact hk e' (by simp; exact .inr he')
    · intro e' he'
      simp only [List.mem_toArray, List.mem_cons] at he'
      rcases he' with rfl | he'
      · exact h1
      · exact ih e' (by simpa using he')

theorem stored_nodup {K : Type} [DecidableEq K] {kvs : List (K × Value)} {k : K} {v : Value} (h : (kvs.map (·.1)).Nodup) : ((stored kvs k v).map (·.1)).Nodup := by
  unfold stored
  split
  · have : (kvs.map fun kv => if kv.1 = k then (kv.1, v) else kv).map (·.1) = kvs.map (·.1) := by
      rw [List.map_map]
      exact List.map_congr_left fun kv _ => by simp only [Function.comp]; split <;> rfl
    rw [this]; exact h
  · rename_i q
    rw [List.map_append, List.map_cons, List.map_nil, List.nodup_append]
    refine ⟨h, by simp, fun a ha b hb e => ?_⟩
    simp only [List.mem_singleton] at hb
    subst hb e
    obtain ⟨kv, hkv, e⟩ := List.mem_map.mp ha
    exact q (List.any_eq_true.mpr ⟨kv, hkv, by simpa using e⟩)

theorem DictIs.put {ob : Obj} {kvs : List (Str × Value)} {ep : Nat} (x : DictIs (PySem.strKind prog w) ob kvs ep) (name : Str) (tk : Tok) (v : Value) :
    ∃ ep', DictIs (PySem.strKind prog w) (Obj.putName name (PyData.keyHash w.params name) (.str name tk) v ob) (stored kvs name v) ep' := by
  have nd := x.choose_spec.2.2.2.2
  obtain ⟨es, rfl, hp, hk⟩ := x.eqDictOf
  rw [putName_dict]
  refine ⟨_, _, ⟨rfl, rfl, rfl⟩, rfl, put_keys hk, ?_, stored_nodup nd⟩
  simpa using put_pairs hp nd

theorem noRef {ob : Obj} {kvs : List (Str × Value)} {ep : Nat} (x : DictIs (PySem.strKind prog w) ob kvs ep) {es : Array DictEntry} {n : Nat} (e : ob.data = .dict es n) : es.any (·.refKey) = false := by
  obtain ⟨es', _, hd, hk, _⟩ := x
  rw [e] at hd; cases hd
  rw [Array.any_eq_false]
  intro i hi
  obtain ⟨k, h1, _⟩ := hk es[i] (Array.getElem_mem hi)
  obtain ⟨t, ht⟩ := Value.isStrOf_shape h1
  simp [DictEntry.refKey, ht]

theorem freed_of {o : Obj} {kvs : List (Str × Value)} {ep : Nat} (D : DictIs (PySem.strKind prog w) o kvs ep) : o.isFreed = false := by
  obtain ⟨_, _, hd', _⟩ := D
  obtain ⟨a, b, c, d⟩ := o
  simp only at hd'
  subst hd'
  rfl

theorem store_dict {dx : Addr} {od : Obj} {kvs : List (Str × Value)} {ep : Nat} {name : Str} {tk : Tok} {v : Value} {Q : Fin → Shared → Prop} (hd : h.get? dx = some od) (x : DictIs (PySem.strKind prog w) od kvs ep) (hz : kvs.length ≤ 1000)
    (hq : ∀ h' od' ep', h'.get? dx = some od' → DictIs (PySem.strKind prog w) od' (stored kvs name v) ep' → Heap.SameBut dx h h' → Q (.done (.ret .none)) ⟨h', g, d, t + 1, os⟩) :
    wpAny (model prog w) A (storeInDict dx (.str name tk) name v) Q E ⟨h, g, d, t, os⟩ := by
  obtain ⟨ep', D⟩ := x.put name t v
  have hdat : ∃ es n, od.data = .dict es n ∧ es.size = kvs.length := by
    obtain ⟨es, _, h1, _, h2, _⟩ := x
    exact ⟨es, _, h1, by rw [← Array.length_toList]; exact h2.length⟩
  obtain ⟨es, n, hdat, hsz⟩ := hdat
  have nr := noRef x hdat
  refine wpAny_bind (wpAny_pure (wpAny_bind ?_))
  unfold nsSet
  refine wpAny_bind (wpAny_bind (wpAny_askSetting (wpAny_pure (wpAny_bind (wpAny_mkText (wpAny_bind (wpAny_loadPart hd ?_)))))))
  rw [hdat]
  dsimp only
  rw [aRefKeyMayBeTheName_at, nr, Bool.and_false]
  refine wpAny_updatePart hd ?_
  have D' : (h.update dx (Obj.putName name (PyData.keyHash w.params name) (.str name t) v)).get? dx = some (Obj.putName name (PyData.keyHash w.params name) (.str name t) v od) :=
    Heap.get?_update_self _ hd (freed_of D)
  obtain ⟨es', q1, q2, q3, q4, q5⟩ := id D
  have sz : es'.size = (stored kvs name v).length := by rw [← Array.length_toList]; exact q4.length
  have sz2 : (stored kvs name v).length ≤ kvs.length + 1 := by unfold stored; split <;> simp
  refine wpAny_bind (wpAny_lookBehind D' (by rw [q2]; exact pastItsLine_dict (by rw [sizeLine_eq]; lia)) ?_)
  exact wpAny_pure (hq _ _ _ D' D (Heap.SameBut.update ..))

/-- a class whose instances' stores go to their own table -/
structure SetOk (w : World) (C : Addr) (x : Str) : Prop where
  set : findIn (KK w) (.ref C) "__setattr__" = some (some (.builtin "object.__setattr__"))
  dict : (clsIn (KK w) C).any (·.hasDict) = true
  taker : takerIn (KK w) C x = some none
  over : (∀ self cd, clsIn (KK w) C = some cd → refuseLoop self "__setattr__" cd.mro = pure ())
  sub : mroIn (KK w) C (.type "object") = some true

theorem sa_open {C x : Addr} {ox : Obj} {od : Option Obj} {name : Str} {tk : Tok} {v : Value} {R : Result → Shared → Prop} {s : Shared} (X : (KK w).In s.heap) (I : InstAt s.heap x ox C od) (K : SetOk w C name)
    (h : ∀ b, wpAny (model prog w) A.in1 (storeInOwnDict (.ref x) (.ref C) (.str name tk) name v b)
      (fun fin s' => match fin with | .done f => R (.ok f) s' | .again c' => c'.quiet = true ∧ codeAny (model prog w) A c' R s') (fun e s' => R (.error e) s') s) :
    codeAny (model prog w) A (.call (.builtin "object.__setattr__") ⟨[.ref x, .str name tk, v], []⟩) R s := by
  have SF := PySem.F.store_object
  obtain ⟨cd, hc, ho⟩ : ∃ cd, clsIn (KK w) C = some cd ∧ True := by
    have := K.dict
    cases q : clsIn (KK w) C with
    | none => rw [q] at this; cases this
    | some cd => exact ⟨cd, rfl, trivial⟩
  have sub : Looks (model prog w) s.heap (isInstance (.ref x) (.type "object")) true := I.type.andThen (looks_mroIn X K.sub)
  refine codeAny_call_builtin SF.slot.plain SF.entry (@check_slot (model prog w) _ _ s "object.__setattr__" "object" "__setattr__" (.ref x) [.str name tk, v] [] _ SF.kind SF.split sub (SF.args (.ref x) (.str name tk) v) ?_)
  obtain ⟨attr, ha, hr⟩ := Option.bind_eq_some_iff.mp K.taker
  have hm : Looks (model prog w) s.heap (mroOf (.ref C)) cd.mro := (looks_clsIn X hc).andThen .now
  have L3 : Looks (model prog w) s.heap (storeTaker? attr) none := by
    cases attr with
    | none => exact .now
    | some a =>
      obtain ⟨b, hb, hb2⟩ := Option.map_eq_some_iff.mp hr
      refine (looks_takesIn X hb).andThen ?_
      cases b with
      | true => cases hb2
      | false => exact .now
  rw [osa_eq, refuse_eq]
  refine wpAny_bind (wpAny_bind (I.type.here (wpAny_bind (hm.here ?_))))
  rw [K.over (.ref x) cd hc]
  refine wpAny_pure (wpAny_bind (I.type.here (wpAny_bind ((looks_findIn X ha).here (wpAny_bind (L3.here ?_))))))
  exact h _

/-- a store into an object's table -/
theorem sa_old {C x dx : Addr} {ox od : Obj} {name : Str} {v : Value} {kvs : List (Str × Value)} {ep : Nat} {Q : Unit → Shared → Prop} (X : (KK w).In h) (K : SetOk w C name)
    (hx : h.get? x = some ox) (hcl : ox.cls = .ref C) (hn : notCls ox = true) (hdx : ox.dict = some dx) (hd : h.get? dx = some od) (D : DictIs (PySem.strKind prog w) od kvs ep) (hz : kvs.length ≤ 1000)
    (hq : ∀ h' od' ep' tk, h'.get? dx = some od' → DictIs (PySem.strKind prog w) od' (stored kvs name v) ep' → Heap.SameBut dx h h' → Q () ⟨h', g, d, tk, os⟩) :
    wpAny (model prog w) A (setAttr (.ref x) name v) Q E ⟨h, g, d, t, os⟩ := by
  have I : InstAt h x ox C (some od) := ⟨hx, hcl, hn, by rw [hdx]; exact hd⟩
  refine set_plain (s := ⟨h, g, d, t, os⟩) X I K.set (sa_open (s := ⟨h, g, d, t + 1, os⟩) X I K fun b => ?_)
  obtain ⟨cd, hc, hd'⟩ := any_some K.dict
  obtain ⟨oc, odi, oda, osl⟩ := ox
  dsimp only at hcl hdx
  subst hcl hdx
  refine wpAny_bind (wpAny_pure (wpAny_bind (wpAny_bind (wpAny_loadPart hx (wpAny_bind ((looks_clsIn X hc).here ?_))))))
  rw [hd']
  refine wpAny_pure (a := some dx) ?_
  exact store_dict hd D hz fun h' od' ep' a b e => hq h' od' ep' _ a b e
end
end

-- part R3
section
open PySem.Builtin
open PySem.Builtin.ObjectAttr
set_option maxHeartbeats 2000000
section
variable {prog : Program} {w : World} {A : Around} {E : Value → Shared → Prop} {h : Heap} {g : Array GenState} {d : Drawn} {t : Nat} {os : OsState}

/-- the first store into an exception: its table is made -/
theorem sa_new {C x : Addr} {vs : Array Value} {name : Str} {v : Value} {Q : Unit → Shared → Prop} (X : (KK w).In h) (K : SetOk w C name)
    (hx : h.get? x = some { cls := .ref C, data := .fields vs })
    (hq : ∀ h' dx od' ep' tk, h.get? dx = none → h'.get? x = some { cls := .ref C, dict := some dx, data := .fields vs } → h'.get? dx = some od' → DictIs (PySem.strKind prog w) od' [(name, v)] ep' →
      (∀ y o, y ≠ x → h.get? y = some o → h'.get? y = some o) → Q () ⟨h', g, d, tk, os⟩) :
    wpAny (model prog w) A (setAttr (.ref x) name v) Q E ⟨h, g, d, t, os⟩ := by
  have I : InstAt h x _ C none := ⟨hx, rfl, rfl, trivial⟩
  refine set_plain (s := ⟨h, g, d, t, os⟩) X I K.set (sa_open (s := ⟨h, g, d, t + 1, os⟩) X I K fun b => ?_)
  obtain ⟨cd, hc, hd'⟩ := any_some K.dict
  let dx := h.objs.size
  have hx1 : (h.push { cls := .type "dict", data := .dict #[] }).get? x = some { cls := .ref C, data := .fields vs } := Heap.get?_push_of_some _ hx
  have ne : x ≠ dx := Nat.ne_of_lt (Heap.lt_size hx)
  refine wpAny_bind (wpAny_pure (wpAny_bind (wpAny_bind (wpAny_loadPart hx (wpAny_bind ((looks_clsIn X hc).here ?_))))))
  rw [hd']
  dsimp only
  rw [if_neg (by decide), if_neg (by simp [typeHasDict])]
  refine wpAny_bind (wpAny_alloc ?_)
  refine wpAny_bind (wpAny_update hx1 ?_)
  refine wpAny_pure (a := some dx) ?_
  have e1 : ((h.push { cls := .type "dict", data := .dict #[] }).update x fun o => { cls := o.cls, dict := some dx, data := o.data, slots := o.slots }).get? x = some { cls := .ref C, dict := some dx, data := .fields vs } :=
    Heap.get?_update_self _ hx1 rfl
  have e2 : ((h.push { cls := .type "dict", data := .dict #[] }).update x fun o => { cls := o.cls, dict := some dx, data := o.data, slots := o.slots }).get? dx = some { cls := .type "dict", data := .dict #[] } :=
    (Heap.get?_update_other _ _ ne).trans (Heap.get?_push_size _ rfl)
  refine store_dict e2 (kvs := []) (ep := 0) ⟨#[], ⟨rfl, rfl, rfl⟩, rfl, (fun _ he => by simp at he), Pairs.nil, List.nodup_nil⟩ (by simp) fun h' od' ep' a b e => ?_
  refine hq h' dx od' ep' _ (none_of_le (Nat.le_refl _)) ((e.2 x ne).trans e1) a b fun y o hy ho => ?_
  have hyd : y ≠ dx := Nat.ne_of_lt (Heap.lt_size ho)
  exact (e.2 y hyd).trans ((Heap.get?_update_other _ _ (Ne.symm hy)).trans (Heap.get?_push_of_some _ ho))
end
end

-- part R4
section
open PySem.Builtin
open PySem.Builtin.ObjectAttr
set_option maxHeartbeats 2000000
class ProgOk (prog : Program) : Prop where
  file : ((prog.main.file : Str) == ("/claim/cut.py" : Str)) = true
  top : (prog.main.scope.names.lookup ("super" : Str)).isSome = false
theorem progOk : ProgOk PySem.Challenge.pw_sm0004_01 := ⟨by kernel_rfl, by kernel_rfl⟩

section
variable {prog : Program} {c : Cx} {m : Loc} {n : Led} {X : Str → Led → Prop}

theorem Sit.size {s : Shared} (S : Sit prog c m n s) : c.base.objs.size ≤ s.heap.objs.size := by
  cases Nat.lt_or_ge s.heap.objs.size c.base.objs.size with
  | inr h => exact h
  | inl h => exact absurd (Nat.lt_of_lt_of_le S.loc.lt (Nat.le_of_lt h)) (Nat.not_lt.mpr S.loc.1)

/-- into a new namespace -/
theorem Sit.enter {s : Shared} (S : Sit prog c m n s) {env' : Env} {A' : Around} {lv' tk : Nat} {m' : Loc} {h₁ : Heap} {mv : Str → Option Value} (hL : env'.locals = s.heap.objs.size) (hns : h₁.Ns s.heap.objs.size mv)
    (hk : ∀ b o, s.heap.get? b = some o → h₁.get? b = some o) (hm : ∀ x v, m'.lookup x = some v → ∃ v', mv x = some v' ∧ VIs v v') :
    Sit prog ⟨c.w, c.s₀, c.base, A', env', (c.env.locals, m) :: c.outs, lv'⟩ m' n { s with heap := h₁, toks := tk } := {
  gens := S.gens
  drawn := S.drawn
  os := S.os
  keep := fun b o e => hk b o (S.keep b o e)
  loc := by
    show NsOk c.base env'.locals m' h₁
    rw [hL]
    exact ⟨S.size, _, hns, hm⟩
  outs := fun g hg => by
    rcases List.mem_cons.mp hg with rfl | hg
    · exact S.loc.of fun o e => hk _ o e
    · exact (S.outs g hg).of fun o e => hk _ o e
  apart := by
    show (env'.locals :: c.env.locals :: c.outs.map (·.1)).Nodup
    rw [hL]
    exact List.nodup_cons.mpr ⟨fun q => absurd (S.ns _ q).1 (Nat.lt_irrefl _), S.apart⟩
  led := fun a o e => by
    obtain ⟨⟨ob, h1, h2⟩, h3, h4⟩ := S.led a o e
    refine ⟨⟨ob, hk _ _ h1, h2⟩, h3, fun q => ?_⟩
    replace q : a ∈ env'.locals :: c.env.locals :: c.outs.map (·.1) := q
    rw [hL] at q
    rcases List.mem_cons.mp q with q | q
    · exact absurd (S.lt e) (by rw [q]; exact Nat.lt_irrefl _)
    · exact h4 q }

theorem COk.enter (H : COk c) {env' : Env} {A' : Around} {lv' : Nat} (hk : env'.scope.kind = .function) (hg : env'.globals = mainGlobals) (hb : env'.builtins = builtinsNs) (hf : env'.frame = some env'.locals)
    (dp : A'.depth + lv' ≤ 900) (un : A'.units + 10 * lv' ≤ 9000) (fr : ∀ l, c.A.frames = some l → A'.frames = some (env' :: l)) :
    COk ⟨c.w, c.s₀, c.base, A', env', (c.env.locals, m) :: c.outs, lv'⟩ := {
  X := H.X
  T := H.T
  fk := hk
  gl := hg
  bu := hb
  dp := dp
  un := un
  sm := H.sm
  fr := by
    obtain ⟨l, hl, hfr⟩ := H.fr
    refine ⟨env' :: l, fr l hl, fun e he => ?_⟩
    rcases List.mem_cons.mp he with rfl | he
    · exact ⟨by rw [hk]; decide, _, hf, .head _⟩
    · obtain ⟨a, L, b, d⟩ := hfr e he
      exact ⟨a, L, b, .tail _ d⟩ }

theorem setOk34 (w : World) (x : Str) (hx : takerIn (KK w) 34 x = some none) : SetOk w 34 x := {
  set := by kernel_rfl
  dict := by kernel_rfl
  taker := hx
  over := fun self cd h => by
    have e : (clsIn (KK w) 34).map (·.mro) = some [.ref 34, .type "Exception", .type "BaseException", .type "object"] := by kernel_rfl
    rw [h] at e
    have e : cd.mro = _ := Option.some.inj e
    rw [e]
    kernel_rfl
  sub := by kernel_rfl }
theorem setOk_code (w : World) : SetOk w 34 "code" := setOk34 w _ (by kernel_rfl)
theorem setOk_told (w : World) : SetOk w 34 "told" := setOk34 w _ (by kernel_rfl)

theorem opaque34 (w : World) : nsIn (KK w) cStatics "thirdparty.any" = some none := by kernel_rfl
theorem along34 (w : World) : alongIn (KK w) "__init__" [.type "Exception", .type "BaseException", .type "object"] = some (some (.builtin "Exception.__init__")) := by kernel_rfl
end
end

-- part R5
section
open PySem.Builtin
open PySem.Builtin.ObjectAttr
set_option maxHeartbeats 2000000
set_option tactic.hygienic true in
theorem ns_some_of {K : Frag} {h : Heap} {N : Addr} {mg : Str → Option Value} {n : Str} {v : Value} (X : K.In h) (G : h.Ns N mg) (e : nsIn K N n = some (some v)) : mg n = some v := by
  obtain ⟨o, es, ep, ho, hd, _, hf⟩ := G
  unfold nsIn at e
  split at e
  · rename_i c d es' n' sl q
    have := X _ _ q
    rw [ho] at this
    cases this
    cases hd
    split at e
    · rename_i en he
      rw [← hf]
      unfold nsFind findBy
      rw [← Array.find?_toList, he]
      simpa using e
    · rename_i he
      split at e <;> cases e
  · cases e

section
variable {prog : Program} [ProgOk prog] {c : Cx} {m : Loc} {n : Led} {X : Str → Led → Prop}

theorem load_bi {A' : Around} {E' : Value → Shared → Prop} {Q' : Value → Shared → Prop} {s : Shared} {x : Str} {v : Value} (H : COk c) (S : Sit prog c m n s) (hk : c.env.kindOf x = some .globalImplicit) (g : BuiltinIs c.w x v) (h : Q' v s) :
    wpAny (model prog c.w) A' (loadName c.env x) Q' E' s := by
  obtain ⟨mg, mb, T⟩ := H.T
  unfold loadName
  simp only [Env.blockKind, H.fk, hk, ScopeKind.isAnnotationScope, Bool.false_and, Bool.false_eq_true, if_false]
  refine loadGlobal_builtin (env := c.env) (mg := mg) (mb := mb) ?_ (mg_none_of H.X T.g g.1) ?_ ((T.builtins x g.2.2).trans g.2.1) h
  · rw [H.gl]; exact T.g.keeps S.keep
  · rw [H.bu]; exact T.b.keeps S.keep

theorem bi_super (w : World) : BuiltinIs w "super" (.type "super") := ⟨by kernel_rfl, by kernel_rfl, by decide⟩
set_option tactic.hygienic true in
theorem exc_made {s : Shared} {k : Str} {t : Tok} (H : COk c) (S : Sit prog c m n s) (hlv : 2 < c.lv) :
    wpAny (model prog c.w) c.A (call (.ref 34) [.str k t]) (fun v s' => Sit prog c m n s' ∧ ExcAt prog c n k v s'.heap ∧ ∃ ea dx tp, v = .ref ea ∧ s'.heap.get? ea = some { cls := .ref 34, dict := some dx, data := .fields #[.ref tp, .none, .none, .none, .bool false, .none] }) (fun _ _ => False) s := by
  have S0 := S
  obtain ⟨h, g, d, tk, os⟩ := s
  have XK : (KK c.w).In h := fun a o e => S.keep _ _ (H.X a o e)
  have hC := XK 34 _ (by rfl)
  have hN : h.Ns 33 (h.nsMap 33) := .of_isNs (isNs_of_in XK (by kernel_rfl))
  have hI : h.nsMap 33 "__init__" = some (.ref 31) := ns_some_of XK hN (by kernel_rfl)
  have hf := XK 31 _ (by rfl)
  refine wpAny_call_exc_init PySem.F.excBase_Exception hC hN hI hf rfl fun h' e hm => ?_
  obtain ⟨tp, he, htp, htup⟩ := hm.there
  have ebase : c.base.get? e = none := by
    cases q : c.base.get? e with
    | none => rfl
    | some o => have := S.keep _ _ q; rw [hm.new] at this; cases this
  have en : n e = none := by
    cases q : n e with
    | none => rfl
    | some o => obtain ⟨⟨ob, h1, _⟩, _⟩ := S.led e o q; rw [hm.new] at h1; cases h1
  have S1 : Sit prog c m n ⟨h', g, d, tk, os⟩ := S.grow hm.keeps
  have XK1 : (KK c.w).In h' := fun a o q => S1.keep _ _ (H.X a o q)
  obtain ⟨mg, mb, TT⟩ := H.T
  have hw : (Code.builtin "type.__call__" ⟨[.ref 34, .str k t], []⟩).weight = 1 := by kernel_rfl
  have hcu : (Code.builtin "type.__call__" ⟨[.ref 34, .str k t], []⟩).cUnits = 1 := by kernel_rfl
  have hce : (Code.builtin "type.__call__" ⟨[.ref 34, .str k t], []⟩).envs = [] := by rfl
  have hdp := H.dp
  have hun := H.un
  refine wpAny_call (ks_codeAny_call_defAt (binds := [("self", .ref e), ("code", .str k t), ("told", .str "" 201)]) ?_ (XK1 31 _ (by rfl)) rfl (TT.nolimit.keeps S1.keep) ((codeRec_of H.X (by kernel_rfl)).keeps S1.keep) rfl
    (BindsTo.of_defaults (T := 23) rfl (XK1 23 _ (by rfl)) rfl rfl rfl) ?_ ?_ fun h₁ hns hk₁ => ?_)
  · show c.A.depth + _ < recursionLimit
    rw [hw]
    exact Nat.lt_of_le_of_lt (show c.A.depth + 1 ≤ 900 by lia) (by decide)
  · decide
  · intro x hx; simp only [List.mem_cons, List.not_mem_nil, or_false] at hx; rcases hx with rfl | rfl | rfl <;> rfl
  generalize hE : callEnv _ _ _ = env'
  have fsc : env'.scope = { kind := .function, names := [("self", .local), ("code", .local), ("told", .local), ("__class__", .free), ("super", .globalImplicit)], isGenerator := false, isCoroutine := false } := by rw [← hE]; rfl
  have floc : env'.locals = h'.objs.size := by rw [← hE]; rfl
  have fcell : env'.cells = [(("__class__" : Str), 18)] := by rw [← hE]; rfl
  have ffun : env'.func = some 31 := by rw [← hE]; rfl
  have fcode : env'.code = .ref 30 := by rw [← hE]; rfl
  have fgl : env'.globals = mainGlobals := by rw [← hE]; rfl
  have fbu : env'.builtins = builtinsNs := by rw [← hE]; rfl
  have ffr : env'.frame = some env'.locals := by rw [← hE]; rfl
  have fk : env'.scope.kind = .function := by rw [fsc]
  clear hE
  let c1 : Cx := ⟨c.w, c.s₀, c.base, (c.A.under (Code.builtin "type.__call__" ⟨[.ref 34, .str k t], []⟩)).deeper env', env', (c.env.locals, m) :: c.outs, c.lv - 2⟩
  have H1 : COk c1 := H.enter fk fgl fbu ffr (by show c.A.depth + _ + 1 + (c.lv - 2) ≤ 900; rw [hw]; lia) (by show c.A.units + _ + 3 + 10 * (c.lv - 2) ≤ 9000; rw [hcu]; lia) fun l hl => by
    refine Around.frames_deeper ?_
    simp only [Around.under, hce, pushEnvs]; exact hl
  have S2 : Sit prog c1 [("self", .ref e), ("code", .str k), ("told", .str "")] n ⟨h₁, g, d, tk + 3, os⟩ := S1.enter floc hns hk₁ fun x v hx => by
    rw [lookup_rev (by show [("self" : Str), "code", "told"].Nodup; decide)]
    exact zip_rel (ns := ["self", "code", "told"]) (us := [.ref e, .str k, .str ""]) (xs := [.ref e, .str k t, .str "" 201]) (.cons (.ref _) (.cons (.str _ _) (.cons (.str _ _) .nil))) hx
  have XK2 : (KK c.w).In h₁ := fun a o q => S2.keep _ _ (H.X a o q)
  have hfr : ∀ y o, h'.get? y = some o → h₁.get? y = some o := hk₁
  have kind : ∀ x k', ([(("self" : Str), NameKind.local), ("code", .local), ("told", .local), ("__class__", .free), ("super", .globalImplicit)]).lookup x = some k' → env'.kindOf x = some k' := fun x k' hx => by
    rw [Env.kindOf, fsc]; exact hx
  have locals : ∀ {s' : Shared} {x : Str} {v : V} {A' : Around} {E' : Value → Shared → Prop} {Q' : Value → Shared → Prop}, Sit prog c1 [("self", .ref e), ("code", .str k), ("told", .str "")] n s' → env'.kindOf x = some .local →
      [(("self" : Str), V.ref e), ("code", .str k), ("told", .str "")].lookup x = some v → (∀ v', VIs v v' → Q' v' s') → wpAny (model prog c.w) A' (loadName env' x) Q' E' s' := fun S' hl hx hq => by
    obtain ⟨_, mv, hn, hm'⟩ := S'.loc
    obtain ⟨v', hv, hi⟩ := hm' _ _ hx
    exact wpAny_loadName_local fk hl hn hv (hq v' hi)
  have locR : ∀ {s' : Shared} {x : Str} {a : Addr} {A' : Around} {E' : Value → Shared → Prop} {Q' : Value → Shared → Prop}, Sit prog c1 [("self", .ref e), ("code", .str k), ("told", .str "")] n s' → env'.kindOf x = some .local →
      [(("self" : Str), V.ref e), ("code", .str k), ("told", .str "")].lookup x = some (.ref a) → Q' (.ref a) s' → wpAny (model prog c.w) A' (loadName env' x) Q' E' s' := fun S' hl hx hq => locals S' hl hx fun v' hv' => by cases hv'; exact hq
  have locS : ∀ {s' : Shared} {x y : Str} {A' : Around} {E' : Value → Shared → Prop} {Q' : Value → Shared → Prop}, Sit prog c1 [("self", .ref e), ("code", .str k), ("told", .str "")] n s' → env'.kindOf x = some .local →
      [(("self" : Str), V.ref e), ("code", .str k), ("told", .str "")].lookup x = some (.str y) → (∀ t', Q' (.str y t') s') → wpAny (model prog c.w) A' (loadName env' x) Q' E' s' := fun S' hl hx hq => locals S' hl hx fun v' hv' => by cases hv'; exact hq _
  refine ks_wpAt_execs_cons (ks_wpAt_Expr_any (ks_wpAt_MethodCall (ks_wpAt_super_base (f := 31) (cc := 30) (kind _ _ (by rfl)) (kind _ _ (by rfl)) (by decide) ffun (XK2 31 _ (by rfl)) rfl (ar := ⟨"self", none, _⟩) (by rfl) fcode (XK2 30 _ (by rfl)) rfl (by rfl) ProgOk.file ProgOk.top ?_)) ?_)
  · refine load_bi H1 S2 (kind _ _ (by rfl)) (bi_super _) ⟨rfl, wpAny_loadName_free fk (kind _ _ (by rfl)) (by rw [fcell]; rfl) ⟨_, XK2 18 _ (by rfl), rfl⟩ (locR S2 (kind _ _ (by rfl)) (by rfl) ?_) (by rfl)⟩
    have he2 := hk₁ _ _ he
    refine ks_wpAny_isType_cls (XK2 34 _ (by rfl)) rfl ⟨rfl, ks_wpAny_call_super (C := 34) (XK2 34 _ (by rfl)) rfl he2 rfl (fun _ q => by cases q) (looks_mroIn XK2 (by kernel_rfl)) fun h3 hso hk3 => ?_⟩
    have XK3 : (KK c.w).In h3 := fun a o q => hk3 _ _ (XK2 a o q)
    have he3 := hk3 _ _ he2
    refine super_gm (XK3 34 _ (by rfl)) he3 rfl (by decide +kernel) hso (looks_opaque XK3 (opaque34 _)) (by rfl) XK3 (along34 _) (fun q => ?_) ?_
    · subst q
      have := S.keep 34 _ (H.X 34 _ (by rfl))
      rw [hm.new] at this; cases this
    have S3 : Sit prog c1 [("self", .ref e), ("code", .str k), ("told", .str "")] n ⟨h3.push { cls := .type "method-wrapper", data := .fields #[.builtin "Exception.__init__", .ref e] }, g, d, tk + 3 + 1, os⟩ :=
      S2.grow fun b o q => Heap.get?_push_of_some _ (hk3 b o q)
    have hmw := Heap.get?_push_size h3 (o := { cls := .type "method-wrapper", data := .fields #[.builtin "Exception.__init__", .ref e] }) rfl
    unfold callWith
    refine wpAny_bind (wpAny_holding (evalArgs_flat (by rfl) ?_))
    refine spliced_cons (wpAny_Name (locS S3 (kind _ _ (by rfl)) (by rfl) fun tv => spliced_nil (wpAny_bind (wpAny_standAt ?_))) (by rfl))
    show wpAny _ _ (keeperOf (.ref h3.objs.size) >>= _) _ _ _
    refine wpAny_bind ?_
    unfold keeperOf
    refine wpAny_bind (wpAny_load hmw ?_)
    simp only []
    rw [if_pos (by decide)]
    refine wpAny_pure ?_
    rw [if_pos (by decide)]
    show wpAny _ _ (call (.ref h3.objs.size) [.str k tv] >>= _) _ _ _
    refine wpAny_bind (mw_call PySem.F.excBase_Exception (Heap.get?_push_of_some _ (XK3 34 _ (by rfl))) (Heap.get?_push_of_some _ he3) hmw fun h4 tp' he4 hk4 => ?_)
    refine wpAny_bind (wpAny_holding (wpAny_point (wpAny_pure ?_)))
    have nl : n e = none := en
    have eL : e ∉ (c1.env.locals :: c1.outs.map (·.1)) := fun hL => by
      have q1 := S1.ns e
      rcases List.mem_cons.mp hL with q | q
      · have : e = h'.objs.size := q.trans floc
        exact absurd (Heap.lt_size he) (by rw [this]; exact Nat.lt_irrefl _)
      · have := (S.ns e q).1
        exact absurd hm.new (by
          intro _
          have : ∃ m', NsOk c.base e m' h := by
            rcases List.mem_cons.mp q with q | q
            · exact ⟨m, q ▸ S.loc⟩
            · obtain ⟨f, hf, q⟩ := List.mem_map.mp q
              exact ⟨f.2, q ▸ S.outs f hf⟩
          obtain ⟨m', _, mv, ⟨o', es, ep', ho', hd', _⟩, _⟩ := this
          rw [hm.new] at ho'; cases ho')
    have S4 : Sit prog c1 [("self", .ref e), ("code", .str k), ("told", .str "")] n ⟨h4, g, d, tk + 3 + 1, os⟩ :=
      S3.turn (fun b => b = e) (fun b q => q ▸ ⟨ebase, en, eL⟩) (fun b o hb hn _ => hk4 b o hn hb) (fun b o hb hm => ⟨o.slots, hk4 b o (fun q => eL (q ▸ hm)) hb⟩)
    refine wpAt_of_wpAny ?_
    have XK4 : (KK c.w).In h4 := fun a o q => S4.keep _ _ (H.X a o q)
    refine wpAny_execs_cons (plainObj_wpAny_Assign_Attribute (wpAny_Name (locS S4 (kind _ _ (by rfl)) (by rfl) fun t1 => ?_) (by rfl)) (by rfl))
    refine wpAny_Name (locR S4 (kind _ _ (by rfl)) (by rfl) ?_) (by rfl)
    refine sa_new XK4 (setOk_code _) he4 fun h5 dx od5 ep5 tk5 hdx he5 hd5 D5 hk5 => ?_
    have dbase : c.base.get? dx = none := by
      cases q : c.base.get? dx with
      | none => rfl
      | some o => have := S4.keep _ _ q; rw [hdx] at this; cases this
    have dn : n dx = none := by
      cases q : n dx with
      | none => rfl
      | some o => obtain ⟨⟨ob, h1, _⟩, _⟩ := S4.led dx o q; rw [hdx] at h1; cases h1
    have dL : dx ∉ (c1.env.locals :: c1.outs.map (·.1)) := fun hL => by
      have := (S4.ns dx hL).1
      obtain ⟨o, ho⟩ : ∃ o, h4.get? dx = some o := by
        have : ∃ m', NsOk c.base dx m' h4 := by
          rcases List.mem_cons.mp hL with q | q
          · exact ⟨_, q ▸ S4.loc⟩
          · obtain ⟨f, hf, q⟩ := List.mem_map.mp q
            exact ⟨f.2, q ▸ S4.outs f hf⟩
        obtain ⟨m', _, mv, ⟨o', es, ep', ho', hd', _⟩, _⟩ := this
        exact ⟨o', ho'⟩
      rw [hdx] at ho; cases ho
    have S5 : Sit prog c1 [("self", .ref e), ("code", .str k), ("told", .str "")] n ⟨h5, g, d, tk5, os⟩ :=
      S4.turn (fun b => b = e) (fun b q => q ▸ ⟨ebase, en, eL⟩) (fun b o hb hn _ => hk5 b o hn hb) (fun b o hb hm => ⟨o.slots, hk5 b o (fun q => eL (q ▸ hm)) hb⟩)
    have XK5 : (KK c.w).In h5 := fun a o q => S5.keep _ _ (H.X a o q)
    refine wpAny_execs_cons (plainObj_wpAny_Assign_Attribute (wpAny_Name (locS S5 (kind _ _ (by rfl)) (by rfl) fun t2 => ?_) (by rfl)) (by rfl))
    refine wpAny_Name (locR S5 (kind _ _ (by rfl)) (by rfl) ?_) (by rfl)
    refine sa_old XK5 (setOk_told _) he5 rfl rfl rfl hd5 D5 (by simp) fun h6 od6 ep6 tk6 hd6 D6 hk6 => ?_
    have S6 : Sit prog c1 [("self", .ref e), ("code", .str k), ("told", .str "")] n ⟨h6, g, d, tk6, os⟩ :=
      S5.turn (fun b => b = dx) (fun b q => q ▸ ⟨dbase, dn, dL⟩) (fun b o hb hn _ => (hk6.2 b hn).trans hb) (fun b o hb hm => ⟨o.slots, (hk6.2 b (fun q => dL (q ▸ hm))).trans hb⟩)
    have ned : e ≠ dx := fun q => by rw [q] at he4; rw [hdx] at he4; cases he4
    refine wpAny_execs_nil ⟨rfl, S6.leave, ⟨e, _, _, dx, od6, _, ep6, t1, rfl, (hk6.2 e ned).trans he5, rfl, rfl, rfl, by simp, ebase, en, hd6, D6, by rfl, dbase, dn, fun q => dL (.tail _ q), .inl rfl⟩, e, dx, tp', rfl, (hk6.2 e ned).trans he5⟩
  · unfold interactive; rw [fk]; rfl
end
end

-- part R6
section
open PySem.Builtin
open PySem.Builtin.ObjectAttr
set_option maxHeartbeats 2000000
section
variable {M : Model} {A : Around} {E : Value → Shared → Prop} {env : Env}
variable {nm q : Str} {C N : Addr} {bs bm : List Value} {hdct : Bool} {sn : List Str} {sub : List Value} {ab : Bool} {col : Option Bool} {dd : Option Addr} {k0 k1 k2 k3 k5 : Option Value} {newId : String}

theorem raise_made {s : Shared} {x : Sem Value} {Q : Flow → Shared → Prop} {h0 : Heap} (hC0 : h0.get? C = some (excClassObj nm q C N bs bm hdct sn sub ab col dd k0 k1 k2 k3 k5 newId)) (hbase : bm.contains (.type "BaseException") = true) (hh : A.handled = none)
    (h : wpAny M A x (fun v s₁ => ∃ e oe, v = .ref e ∧ s₁.heap.get? C = some (excClassObj nm q C N bs bm hdct sn sub ab col dd k0 k1 k2 k3 k5 newId) ∧
      s₁.heap.get? e = some oe ∧ oe.cls = .ref C ∧ (∃ vs, oe.data = .fields vs ∧ vs[1]? = some .none) ∧ E (.ref e) s₁) E s) :
    wpAny M A (raiseStmt env (some x) none) Q E s := by
  have hcB : (Value.ref C :: bm).contains (.type "BaseException") = true := by rw [List.contains_cons, hbase, Bool.or_true]
  unfold raiseStmt
  refine wpAny_bind (wpAny_mono h (fun v s₁ h₁ => ?_) fun _ _ x => x)
  obtain ⟨e, oe, rfl, hC, he, hcls, ⟨vs, hvs, hv1⟩, hE⟩ := h₁
  obtain ⟨hp, g, d, tk, os⟩ := s₁
  obtain ⟨oc, od, odt, osl⟩ := oe
  dsimp only at hcls hvs
  subst hcls hvs
  repeat (first | with_reducible refine wpAny_loadPart_at he ?_ | with_reducible refine wpAny_loadPart_at hC ?_ | (with_reducible refine wpAny_isSubtype_exc hC ?_; rw [hcB]) | wp_step)
  rw [hv1]
  refine wpAny_pure ?_
  rw [if_neg (by decide)]
  exact wpAny_pure (wpAny_raiseNew_none hh hE)
end

section
variable {prog : Program} [ProgOk prog] {c : Cx} {m : Loc} {n : Led} {X : Str → Led → Prop} {N : Loc → Led → Prop} {R : V → Led → Prop}

theorem ex_raise {k : Str} {np cpos pos kp : Pos} {kd : Nat} {sc : Scope} (hs : c.env.scope = sc) (hk : sc.names.lookup ("BasicError" : Str) = some .globalImplicit) (hh : c.A.handled = none) (hlv : 2 < c.lv) (h : X k n) :
    Ex prog c m n (exec (.Raise (some (.Call (.Name "BasicError" np) [.Constant (.str k) kd kp] [] cpos)) none pos) c.env) N R X := fun H s S => by
  rw [arm_exec_Raise]
  refine wpAny_bind (wpAny_standAt (raise_made (S.keep 34 _ (H.X 34 _ (by rfl))) (by decide +kernel) hh ?_))
  show wpAny _ _ ((eval (.Name ("BasicError" : Str) np) c.env >>= fun f => callWith cpos f [] (backTo cpos (starEach [.Constant (.str k) kd kp] c.env)) (backToKw cpos (keywordEach [] c.env))) >>= fun v => (standAt pos >>= fun _ => pure v)) _ _ s
  refine wpAny_bind (wpAny_bind (wpAny_mono (wp_global (v := .ref 34) hs hk (by show nsIn _ _ _ = _; kernel_rfl) (Q := fun v n' => v = .ref 34 ∧ n' = n) (X := fun _ _ => False) ⟨rfl, rfl⟩ (by rfl) H s S) (fun v s1 ⟨n1, S1, h1, h2⟩ => ?_) fun e s' ⟨_, _, _, _, q⟩ => q.elim))
  subst h1 h2
  unfold callWith
  refine wpAny_bind (wpAny_holding (evalArgs_flat (by rfl) ?_))
  refine spliced_cons (Constant_str (k := kd) (pos := kp) (spliced_nil (wpAny_bind (wpAny_standAt ?_))))
  have S2 := S1.toks (s1.toks + 1)
  show wpAny _ _ (keeperOf (.ref 34) >>= _) _ _ _
  have hC := S2.keep 34 _ (H.X 34 _ (by rfl))
  refine wpAny_bind (wpAny_keeperOf_exc hC ?_)
  show wpAny _ _ (call (.ref 34) [.str k s1.toks] >>= _) _ _ _
  refine wpAny_bind (wpAny_mono (exc_made H S2 hlv) (fun v s3 ⟨S3, hE, ea, dx, tp, hv, hx⟩ => ?_) fun _ _ q => q.elim)
  refine wpAny_bind (wpAny_holding (wpAny_point (wpAny_pure (wpAny_bind (wpAny_standAt (wpAny_pure ?_))))))
  exact ⟨ea, _, hv, S3.keep 34 _ (H.X 34 _ (by rfl)), hx, rfl, ⟨_, rfl, rfl⟩, m, k, _, S3, hv ▸ hE, h⟩
end
end

-- part W0
set_option maxHeartbeats 2000000
/-! ### plain tables of anything -/
section
variable {K α β : Type} [DecidableEq K]
noncomputable def aget (es : List (K × α)) (k : K) : Option α := (es.find? fun kv => kv.1 = k).map (·.2)
noncomputable def aput (es : List (K × α)) (k : K) (v : α) : List (K × α) := if es.any (fun kv => kv.1 = k) then es.map (fun kv => if kv.1 = k then (kv.1, v) else kv) else es ++ [(k, v)]
noncomputable def adel (es : List (K × α)) (k : K) : List (K × α) := es.filter fun kv => decide (kv.1 ≠ k)

theorem aget_nil (k : K) : aget ([] : List (K × α)) k = none := rfl
theorem aget_cons (k' : K) (v : α) (es : List (K × α)) (k : K) : aget ((k', v) :: es) k = if k' = k then some v else aget es k := by
  unfold aget
  by_cases e : k' = k <;> simp [e]
theorem aget_mem {es : List (K × α)} {k : K} {v : α} (h : aget es k = some v) : (k, v) ∈ es := by
  induction es with
  | nil => cases h
  | cons kv es ih =>
    obtain ⟨k', v'⟩ := kv
    rw [aget_cons] at h
    split at h
    · rename_i e; cases h; subst e; exact .head _
    · exact .tail _ (ih h)
theorem aget_none {es : List (K × α)} {k : K} : aget es k = none ↔ ∀ kv ∈ es, kv.1 ≠ k := by
  induction es with
  | nil => simp [aget_nil]
  | cons kv es ih =>
    obtain ⟨k', v'⟩ := kv
    rw [aget_cons]
    by_cases e : k' = k
    · simp [e]
    · simp [e, ih]
theorem any_isSome (es : List (K × α)) (k : K) : es.any (fun kv => kv.1 = k) = (aget es k).isSome := by
  induction es with
  | nil => rfl
  | cons kv es ih =>
    obtain ⟨k', v'⟩ := kv
    rw [aget_cons, List.any_cons, ih]
    by_cases e : k' = k <;> simp [e]
theorem aget_of_mem {es : List (K × α)} (nd : (es.map (·.1)).Nodup) {k : K} {v : α} (h : (k, v) ∈ es) : aget es k = some v := by
  induction es with
  | nil => cases h
  | cons kv es ih =>
    obtain ⟨k', v'⟩ := kv
    rw [List.map_cons, List.nodup_cons] at nd
    rw [aget_cons]
    rcases List.mem_cons.mp h with h | h
    · cases h; simp
    · have : k' ≠ k := fun e => nd.1 (e ▸ List.mem_map_of_mem (f := (·.1)) h)
      rw [if_neg this]; exact ih nd.2 h
theorem aget_aput (es : List (K × α)) (k k' : K) (v : α) : aget (aput es k v) k' = if k = k' then some v else aget es k' := by
  unfold aput
  split
  · rename_i h
    induction es with
    | nil => cases h
    | cons kv es ih =>
      obtain ⟨k1, v1⟩ := kv
      rw [List.map_cons]
      by_cases e : k1 = k
      · subst e
        rw [if_pos rfl, aget_cons]
        by_cases e2 : k1 = k'
        · simp [e2]
        · rw [if_neg e2, if_neg e2, aget_cons, if_neg e2]
          clear ih h
          induction es with
          | nil => rfl
          | cons kv es ih =>
            obtain ⟨k2, v2⟩ := kv
            rw [List.map_cons]
            by_cases e3 : k2 = k1
            · subst e3; rw [if_pos rfl, aget_cons, if_neg e2, aget_cons, if_neg e2]; exact ih
            · rw [if_neg e3, aget_cons, aget_cons, ih]
      · rw [if_neg e, aget_cons, aget_cons]
        rw [List.any_cons] at h
        simp only [e, decide_false, Bool.false_or] at h
        rw [ih h]
        by_cases e2 : k1 = k'
        · subst e2; simp [Ne.symm e]
        · simp [e2]
  · rename_i h
    have hn : ∀ kv ∈ es, kv.1 ≠ k := fun kv hk q => h (List.any_eq_true.mpr ⟨kv, hk, by simpa using q⟩)
    clear h
    induction es with
    | nil => rw [List.nil_append, aget_cons]
    | cons kv es ih =>
      obtain ⟨k1, v1⟩ := kv
      rw [List.cons_append, aget_cons, aget_cons, ih fun kv hk => hn kv (.tail _ hk)]
      by_cases e2 : k1 = k'
      · subst e2; rw [if_pos rfl, if_neg (Ne.symm (hn _ (.head _)))]
        simp
      · simp [e2]
theorem aget_adel (es : List (K × α)) (k k' : K) : aget (adel es k) k' = if k = k' then none else aget es k' := by
  unfold adel
  induction es with
  | nil => simp [aget_nil]
  | cons kv es ih =>
    obtain ⟨k1, v1⟩ := kv
    rw [List.filter_cons]
    by_cases e : k1 = k
    · subst e
      simp only [ne_eq, not_true_eq_false, decide_false, Bool.false_eq_true, if_false]
      rw [ih, aget_cons]
      by_cases e2 : k1 = k' <;> simp [e2]
    · simp only [ne_eq, e, not_false_eq_true, decide_true, if_true]
      rw [aget_cons, aget_cons, ih]
      by_cases e2 : k1 = k'
      · subst e2; simp [Ne.symm e]
      · simp [e2]

theorem keys_aput {es : List (K × α)} {k : K} {v : α} : (aput es k v).map (·.1) = if (aget es k).isSome then es.map (·.1) else es.map (·.1) ++ [k] := by
  unfold aput
  rw [any_isSome]
  split
  · rw [List.map_map]
    exact List.map_congr_left fun kv _ => by simp only [Function.comp]; split <;> rfl
  · simp
theorem nodup_aput {es : List (K × α)} {k : K} {v : α} (h : (es.map (·.1)).Nodup) : ((aput es k v).map (·.1)).Nodup := by
  rw [keys_aput]
  split
  · exact h
  · rename_i q
    rw [List.nodup_append]
    refine ⟨h, by simp, fun x hx y hy e => ?_⟩
    simp only [List.mem_singleton] at hy
    subst hy e
    obtain ⟨kv, hkv, e⟩ := List.mem_map.mp hx
    have : aget es x = none := by simpa using q
    exact aget_none.mp this kv hkv e
theorem nodup_adel {es : List (K × α)} {k : K} (h : (es.map (·.1)).Nodup) : ((adel es k).map (·.1)).Nodup := h.sublist (List.Sublist.map _ List.filter_sublist)
theorem length_aput {es : List (K × α)} {k : K} {v : α} : (aput es k v).length ≤ es.length + 1 := by
  unfold aput
  split <;> simp
theorem length_adel {es : List (K × α)} {k : K} : (adel es k).length ≤ es.length := List.length_filter_le _ _

/-! seen in the ledger -/
noncomputable def mapV (f : K → α → V) (es : List (K × α)) : List (K × V) := es.map fun kv => (kv.1, f kv.1 kv.2)
theorem kget_mapV (f : K → α → V) (es : List (K × α)) (k : K) : kget (mapV f es) k = (aget es k).map (f k) := by
  unfold mapV
  induction es with
  | nil => rfl
  | cons kv es ih =>
    obtain ⟨k', v⟩ := kv
    rw [List.map_cons, aget_cons]
    show (aget ((k', f k' v) :: _) k) = _
    rw [aget_cons]
    by_cases e : k' = k
    · subst e; simp
    · rw [if_neg e, if_neg e]; exact ih
theorem kput_mapV {f f' : K → α → V} {es : List (K × α)} {k : K} {v : α} (hf : ∀ k' u, k' ≠ k → f' k' u = f k' u) : kput (mapV f es) k (f' k v) = mapV f' (aput es k v) := by
  unfold mapV kput aput
  rw [List.any_map]
  show (if es.any (fun kv => decide (kv.1 = k)) then _ else _) = _
  split
  · rw [List.map_map, List.map_map]
    refine List.map_congr_left fun kv _ => ?_
    simp only [Function.comp]
    by_cases e : kv.1 = k
    · simp [e]
    · simp [e, hf _ _ e]
  · rename_i h
    rw [List.map_append]
    congr 1
    refine List.map_congr_left fun kv hk => ?_
    have : kv.1 ≠ k := fun q => h (List.any_eq_true.mpr ⟨kv, hk, by simpa using q⟩)
    rw [hf _ _ this]
theorem kdel_mapV (f : K → α → V) (es : List (K × α)) (k : K) : kdel (mapV f es) k = mapV f (adel es k) := by
  unfold mapV kdel adel
  rw [List.filter_map]
  rfl
theorem length_mapV (f : K → α → V) (es : List (K × α)) : (mapV f es).length = es.length := List.length_map ..
end

-- part W1
set_option maxHeartbeats 2000000
structure Rc where
  mode : Str
  name : Str
  at_ : Int
  size : Int
  buf : Str
  no : Int
  deriving DecidableEq
structure Pt3 where
  ch : Int
  at_ : Int
  many : Int
  deriving DecidableEq
structure WS where
  files : List (Str × Str)
  op : List (Int × Rc)
  fields : List (Str × Pt3)

noncomputable def recE (r : Rc) : List (Str × V) := [("mode", .str r.mode), ("name", .str r.name), ("at", .int r.at_), ("size", .int r.size), ("buffer", .str r.buf), ("record", .int r.no)]
noncomputable def ptE (p : Pt3) : List V := [.int p.ch, .int p.at_, .int p.many]

/-- where a world lies -/
structure Ads where
  wa : Addr
  da : Addr
  fa : Addr
  oa : Addr
  ia : Addr
  ra : Int → Addr
  ta : Str → Addr

noncomputable def filesE (W : WS) : List (Str × V) := mapV (fun _ t => .str t) W.files
noncomputable def openE (a : Ads) (W : WS) : List (Int × V) := mapV (fun ch _ => .ref (a.ra ch)) W.op
noncomputable def fieldsE (a : Ads) (W : WS) : List (Str × V) := mapV (fun nm _ => .ref (a.ta nm)) W.fields
noncomputable def foot (a : Ads) (W : WS) : List Addr := a.da :: a.fa :: a.oa :: a.ia :: W.op.map fun kv => a.ra kv.1

structure Rep (n : Led) (a : Ads) (W : WS) : Prop where
  inst : n a.wa = some (.inst 215 a.da)
  attrs : ∃ es ep, n a.da = some (.sd es ep) ∧ kget es "files" = some (.ref a.fa) ∧ kget es "open" = some (.ref a.oa) ∧ kget es "fields" = some (.ref a.ia)
  files : ∃ ep, n a.fa = some (.sd (filesE W) ep)
  op : ∃ ep, n a.oa = some (.idd (openE a W) ep)
  fields : ∃ ep, n a.ia = some (.sd (fieldsE a W) ep)
  recs : ∀ ch r, aget W.op ch = some r → ∃ ep, n (a.ra ch) = some (.sd (recE r) ep)
  tups : ∀ nm p, aget W.fields nm = some p → n (a.ta nm) = some (.tup (ptE p))
  apart : (foot a W).Nodup

/-- a table, not an object or a tuple -/
noncomputable def IsTab (n : Led) (b : Addr) : Prop := (∃ es ep, n b = some (.sd es ep)) ∨ ∃ es ep, n b = some (.idd es ep)

theorem Rep.tab {n : Led} {a : Ads} {W : WS} (R : Rep n a W) : ∀ b ∈ foot a W, IsTab n b := by
  intro b hb
  unfold foot at hb
  simp only [List.mem_cons, List.mem_map] at hb
  rcases hb with rfl | rfl | rfl | rfl | ⟨kv, hkv, rfl⟩
  · obtain ⟨es, ep, h, _⟩ := R.attrs; exact .inl ⟨es, ep, h⟩
  · obtain ⟨ep, h⟩ := R.files; exact .inl ⟨_, ep, h⟩
  · obtain ⟨ep, h⟩ := R.op; exact .inr ⟨_, ep, h⟩
  · obtain ⟨ep, h⟩ := R.fields; exact .inl ⟨_, ep, h⟩
  · obtain ⟨ch, r⟩ := kv
    cases q : aget W.op ch with
    | none => exact absurd rfl (aget_none.mp q _ hkv)
    | some r' => obtain ⟨ep, h⟩ := R.recs ch r' q; exact .inl ⟨_, ep, h⟩

/-- all but a few tables are kept, new objects beside -/
noncomputable def Keeps (F : List Addr) (n n' : Led) : Prop := ∀ b, n b ≠ none → b ∉ F → n' b = n b
theorem Keeps.refl (F : List Addr) (n : Led) : Keeps F n n := fun _ _ _ => rfl
theorem Keeps.trans {F : List Addr} {n n' n'' : Led} (h : Keeps F n n') (h' : Keeps F n' n'') : Keeps F n n'' := fun b hb hf => (h' b (by rw [h b hb hf]; exact hb) hf).trans (h b hb hf)
theorem Keeps.at {n n' : Led} (h : Keeps [] n n') {x : Addr} {o : O} (e : n x = some o) : n' x = some o := (h x (by rw [e]; exact Option.some_ne_none _) List.not_mem_nil).trans e
theorem Keeps.sub {F F' : List Addr} {n n' : Led} (h : Keeps F n n') (hs : ∀ b ∈ F, b ∈ F') : Keeps F' n n' := fun b hb hf => h b hb fun q => hf (hs b q)
theorem Keeps.set {F : List Addr} {n : Led} {x : Addr} {o : O} (h : x ∈ F ∨ n x = none) : Keeps F n (n.set x o) := fun b hb hf => Led.set_ne _ _ fun q => by
  subst q
  rcases h with h | h
  · exact hf h
  · exact hb h

theorem Rep.keep {n n' : Led} {a : Ads} {W : WS} (R : Rep n a W) {F : List Addr} (h : Keeps F n n') (ht : ∀ b ∈ F, IsTab n b) (hd : ∀ b ∈ foot a W, b ∉ F) : Rep n' a W := by
  have sdk : ∀ {b es ep}, n b = some (.sd es ep) → b ∈ foot a W → n' b = some (.sd es ep) := fun hb hm => (h _ (by rw [hb]; exact Option.some_ne_none _) (hd _ hm)).trans hb
  have idk : ∀ {b es ep}, n b = some (.idd es ep) → b ∈ foot a W → n' b = some (.idd es ep) := fun hb hm => (h _ (by rw [hb]; exact Option.some_ne_none _) (hd _ hm)).trans hb
  have other : ∀ {b o}, n b = some o → (∀ es ep, o ≠ .sd es ep) → (∀ es ep, o ≠ .idd es ep) → n' b = some o := fun hb h1 h2 => (h _ (by rw [hb]; exact Option.some_ne_none _) (fun q => by
    rcases ht _ q with ⟨es, ep, e⟩ | ⟨es, ep, e⟩
    · rw [hb] at e; cases e; exact h1 _ _ rfl
    · rw [hb] at e; cases e; exact h2 _ _ rfl)).trans hb
  have fm : ∀ {b}, b = a.da ∨ b = a.fa ∨ b = a.oa ∨ b = a.ia → b ∈ foot a W := fun hb => by
    unfold foot; simp only [List.mem_cons]; rcases hb with h | h | h | h <;> simp [h]
  exact {
    inst := other R.inst (fun _ _ q => nomatch q) fun _ _ q => nomatch q
    attrs := let ⟨es, ep, h1, r⟩ := R.attrs; ⟨es, ep, sdk h1 (fm (.inl rfl)), r⟩
    files := let ⟨ep, h1⟩ := R.files; ⟨ep, sdk h1 (fm (.inr (.inl rfl)))⟩
    op := let ⟨ep, h1⟩ := R.op; ⟨ep, idk h1 (fm (.inr (.inr (.inl rfl))))⟩
    fields := let ⟨ep, h1⟩ := R.fields; ⟨ep, sdk h1 (fm (.inr (.inr (.inr rfl))))⟩
    recs := fun ch r hr => let ⟨ep, h1⟩ := R.recs ch r hr; ⟨ep, sdk h1 (by
      unfold foot; simp only [List.mem_cons, List.mem_map]
      exact .inr (.inr (.inr (.inr ⟨_, aget_mem hr, rfl⟩))))⟩
    tups := fun nm p hp => other (R.tups nm p hp) (fun _ _ q => nomatch q) fun _ _ q => nomatch q
    apart := R.apart }

/-- from one world's state to the next -/
structure Step (n : Led) (a : Ads) (W : WS) (n' : Led) (a' : Ads) (W' : WS) : Prop where
  rep : Rep n' a' W'
  wa : a'.wa = a.wa
  keeps : Keeps (foot a W) n n'
  new : ∀ b ∈ foot a' W', b ∈ foot a W ∨ n b = none

theorem Rep.step {n : Led} {a : Ads} {W : WS} (R : Rep n a W) : Step n a W n a W := ⟨R, rfl, .refl _ _, fun _ h => .inl h⟩
theorem Step.trans {n n' n'' : Led} {a a' a'' : Ads} {W W' W'' : WS} (h : Step n a W n' a' W') (h' : Step n' a' W' n'' a'' W'') : Step n a W n'' a'' W'' where
  rep := h'.rep
  wa := h'.wa.trans h.wa
  keeps := fun b hb hf => by
    have e := h.keeps b hb hf
    refine (h'.keeps b (by rw [e]; exact hb) fun q => ?_).trans e
    rcases h.new b q with q | q
    · exact hf q
    · exact hb q
  new := fun b hb => by
    rcases h'.new b hb with q | q
    · exact h.new b q
    · cases q' : n b with
      | none => exact .inr rfl
      | some o =>
        refine .inl (Classical.byContradiction fun hf => ?_)
        have := h.keeps b (by rw [q']; exact Option.some_ne_none _) hf
        rw [q, q'] at this; cases this

/-- the ledger has grown -/
theorem Rep.grow {n n' : Led} {a : Ads} {W : WS} (R : Rep n a W) (h : Keeps [] n n') : Rep n' a W := R.keep h (fun _ q => nomatch q) fun _ _ q => nomatch q
theorem Rep.stepGrow {n n' : Led} {a : Ads} {W : WS} (R : Rep n a W) (h : Keeps [] n n') : Step n a W n' a W := ⟨R.grow h, rfl, h.sub (fun _ q => nomatch q), fun _ h => .inl h⟩

/-- another world stands still -/
theorem Step.other {n n' : Led} {a a' b : Ads} {W W' U : WS} (h : Step n a W n' a' W') (R₀ : Rep n a W) (R : Rep n b U) (hd : ∀ x ∈ foot b U, x ∉ foot a W) : Rep n' b U ∧ ∀ x ∈ foot b U, x ∉ foot a' W' :=
  ⟨R.keep h.keeps R₀.tab hd, fun x hx hx' => by
    rcases h.new x hx' with q | q
    · exact hd x hx q
    · rcases R.tab x hx with ⟨_, _, e⟩ | ⟨_, _, e⟩ <;> (rw [q] at e; cases e)⟩

/-! ### single changes -/
section
variable {n : Led} {a : Ads} {W : WS}

theorem foot_fa : a.fa ∈ foot a W := by simp [foot]
theorem foot_oa : a.oa ∈ foot a W := by simp [foot]
theorem foot_ia : a.ia ∈ foot a W := by simp [foot]
theorem foot_ra {ch : Int} {r : Rc} (h : aget W.op ch = some r) : a.ra ch ∈ foot a W := by
  unfold foot; simp only [List.mem_cons, List.mem_map]
  exact .inr (.inr (.inr (.inr ⟨_, aget_mem h, rfl⟩)))

theorem Rep.ne (R : Rep n a W) : a.da ≠ a.fa ∧ a.da ≠ a.oa ∧ a.da ≠ a.ia ∧ a.fa ≠ a.oa ∧ a.fa ≠ a.ia ∧ a.oa ≠ a.ia ∧
    (∀ ch r, aget W.op ch = some r → a.ra ch ≠ a.da ∧ a.ra ch ≠ a.fa ∧ a.ra ch ≠ a.oa ∧ a.ra ch ≠ a.ia) ∧ (W.op.map fun kv => a.ra kv.1).Nodup := by
  have h := R.apart
  unfold foot at h
  simp only [List.nodup_cons, List.mem_cons, not_or] at h
  obtain ⟨⟨h1, h2, h3, h4⟩, ⟨h5, h6, h7⟩, ⟨h8, h9⟩, h10, h11⟩ := h
  refine ⟨h1, h2, h3, h5, h6, h8, fun ch r hr => ?_, h11⟩
  have hm : a.ra ch ∈ W.op.map fun kv => a.ra kv.1 := List.mem_map_of_mem (f := fun kv : Int × Rc => a.ra kv.1) (aget_mem hr)
  exact ⟨fun q => h4 (q ▸ hm), fun q => h7 (q ▸ hm), fun q => h9 (q ▸ hm), fun q => h10 (q ▸ hm)⟩
theorem Rep.keysNodup (R : Rep n a W) : (W.op.map (·.1)).Nodup := by
  have h := R.ne.2.2.2.2.2.2.2
  have e : (W.op.map fun kv => a.ra kv.1) = (W.op.map (·.1)).map a.ra := by rw [List.map_map]; rfl
  rw [e] at h
  exact Nodup_of_map h
where
  Nodup_of_map {α β : Type} {f : α → β} : ∀ {l : List α}, (l.map f).Nodup → l.Nodup
    | [], _ => List.nodup_nil
    | x :: l, h => by
      rw [List.map_cons, List.nodup_cons] at h
      exact List.nodup_cons.mpr ⟨fun q => h.1 (List.mem_map_of_mem q), Nodup_of_map h.2⟩
theorem Rep.inj (R : Rep n a W) {ch ch' : Int} {r r' : Rc} (h : aget W.op ch = some r) (h' : aget W.op ch' = some r') (e : a.ra ch = a.ra ch') : ch = ch' := by
  have nd := R.ne.2.2.2.2.2.2.2
  have : ∀ {l : List (Int × Rc)}, (l.map fun kv => a.ra kv.1).Nodup → (ch, r) ∈ l → (ch', r') ∈ l → ch = ch' := by
    intro l
    induction l with
    | nil => intro _ h; cases h
    | cons kv l ih =>
      intro hn h1 h2
      rw [List.map_cons, List.nodup_cons] at hn
      rcases List.mem_cons.mp h1 with h1 | h1 <;> rcases List.mem_cons.mp h2 with h2 | h2
      · rw [← h2] at h1; cases h1; rfl
      · rw [← h1] at hn
        have hm : a.ra ch' ∈ l.map fun kv => a.ra kv.1 := List.mem_map_of_mem (f := fun kv : Int × Rc => a.ra kv.1) h2
        rw [← e] at hm
        exact absurd hm hn.1
      · rw [← h2] at hn
        have hm : a.ra ch ∈ l.map fun kv => a.ra kv.1 := List.mem_map_of_mem (f := fun kv : Int × Rc => a.ra kv.1) h1
        rw [e] at hm
        exact absurd hm hn.1
      · exact ih hn.2 h1 h2
  exact this nd (aget_mem h) (aget_mem h')
end

-- part W2
set_option maxHeartbeats 2000000
section
variable {n : Led} {a : Ads} {W : WS}

theorem foot_cong {W' : WS} (h : W'.op.map (·.1) = W.op.map (·.1)) : foot a W' = foot a W := by
  unfold foot
  have e : ∀ l : List (Int × Rc), (l.map fun kv => a.ra kv.1) = (l.map (·.1)).map a.ra := fun l => by rw [List.map_map]; rfl
  rw [e, e, h]

theorem step_files (R : Rep n a W) {F : List (Str × Str)} {ep : Nat} : Step n a W (n.set a.fa (.sd (mapV (fun _ t => .str t) F) ep)) a { W with files := F } := by
  obtain ⟨h1, h2, h3, h4, h5, h6, h7, h8⟩ := R.ne
  refine ⟨?_, rfl, Keeps.set (.inl foot_fa), fun b hb => .inl hb⟩
  have nf : ∀ {b o}, n b = some o → (∀ es ep, o ≠ .sd es ep) → (n.set a.fa (.sd (mapV (fun _ t => .str t) F) ep)) b = some o := fun hb hn => (Led.set_ne _ _ fun q => by
    obtain ⟨ep, hf⟩ := R.files
    rw [q, hf] at hb; cases hb; exact hn _ _ rfl).trans hb
  exact {
    inst := nf R.inst (fun _ _ q => nomatch q)
    attrs := let ⟨es, ep, h, r⟩ := R.attrs; ⟨es, ep, (Led.set_ne _ _ h1).trans h, r⟩
    files := ⟨ep, Led.set_self _ _ _⟩
    op := let ⟨ep, h⟩ := R.op; ⟨ep, nf h (fun _ _ q => nomatch q)⟩
    fields := let ⟨ep, h⟩ := R.fields; ⟨ep, (Led.set_ne _ _ (Ne.symm h5)).trans h⟩
    recs := fun ch r hr => let ⟨ep, h⟩ := R.recs ch r hr; ⟨ep, (Led.set_ne _ _ (h7 ch r hr).2.1).trans h⟩
    tups := fun nm p hp => nf (R.tups nm p hp) (fun _ _ q => nomatch q)
    apart := R.apart }

theorem step_rec (R : Rep n a W) {ch : Int} {r r' : Rc} {ep : Nat} (hr : aget W.op ch = some r) : Step n a W (n.set (a.ra ch) (.sd (recE r') ep)) a { W with op := aput W.op ch r' } := by
  obtain ⟨h1, h2, h3, h4, h5, h6, h7, h8⟩ := R.ne
  obtain ⟨e1, e2, e3, e4⟩ := h7 ch r hr
  have hk : (aput W.op ch r').map (·.1) = W.op.map (·.1) := by rw [keys_aput, hr]; rfl
  have hf : foot a { W with op := aput W.op ch r' } = foot a W := foot_cong hk
  have ho : openE a { W with op := aput W.op ch r' } = openE a W := by
    have e : ∀ l : List (Int × Rc), mapV (fun ch _ => V.ref (a.ra ch)) l = (l.map (·.1)).map fun ch => (ch, V.ref (a.ra ch)) := fun l => by unfold mapV; rw [List.map_map]; rfl
    unfold openE
    rw [e, e, hk]
  refine ⟨?_, rfl, Keeps.set (.inl (foot_ra hr)), fun b hb => .inl (hf ▸ hb)⟩
  have nf : ∀ {b o}, n b = some o → (∀ es ep, o ≠ .sd es ep) → (n.set (a.ra ch) (.sd (recE r') ep)) b = some o := fun hb hn => (Led.set_ne _ _ fun q => by
    obtain ⟨ep, hf⟩ := R.recs ch r hr
    rw [q, hf] at hb; cases hb; exact hn _ _ rfl).trans hb
  exact {
    inst := nf R.inst (fun _ _ q => nomatch q)
    attrs := let ⟨es, ep, h, q⟩ := R.attrs; ⟨es, ep, (Led.set_ne _ _ (Ne.symm e1)).trans h, q⟩
    files := let ⟨ep, h⟩ := R.files; ⟨ep, (Led.set_ne _ _ (Ne.symm e2)).trans h⟩
    op := let ⟨ep, h⟩ := R.op; ⟨ep, by rw [ho]; exact nf h (fun _ _ q => nomatch q)⟩
    fields := let ⟨ep, h⟩ := R.fields; ⟨ep, (Led.set_ne _ _ (Ne.symm e4)).trans h⟩
    recs := fun ch' r2 hr2 => by
      rw [aget_aput] at hr2
      split at hr2
      · rename_i e; cases hr2; subst e; exact ⟨ep, Led.set_self _ _ _⟩
      · rename_i e
        obtain ⟨ep, h⟩ := R.recs ch' r2 hr2
        exact ⟨ep, (Led.set_ne _ _ fun q => e (R.inj hr2 hr q).symm).trans h⟩
    tups := fun nm p hp => nf (R.tups nm p hp) (fun _ _ q => nomatch q)
    apart := hf ▸ R.apart }

noncomputable def upd {K : Type} [DecidableEq K] (f : K → Addr) (k : K) (x : Addr) : K → Addr := fun k' => if k' = k then x else f k'
theorem upd_self {K : Type} [DecidableEq K] (f : K → Addr) (k : K) (x : Addr) : upd f k x k = x := if_pos rfl
theorem upd_ne {K : Type} [DecidableEq K] (f : K → Addr) {k k' : K} (x : Addr) (h : k' ≠ k) : upd f k x k' = f k' := if_neg h

theorem step_open (R : Rep n a W) {n1 : Led} {ch : Int} {r : Rc} {x : Addr} {ep ep' : Nat} (hx : n x = none) (hk : Keeps [] n n1) (h1 : n1 x = some (.sd (recE r) ep)) (hn : aget W.op ch = none) :
    Step n a W (n1.set a.oa (.idd (kput (openE a W) ch (.ref x)) ep')) { a with ra := upd a.ra ch x } { W with op := aput W.op ch r } := by
  have R1 := R.grow hk
  obtain ⟨g1, g2, g3, g4, g5, g6, g7, g8⟩ := R.ne
  have ho : kput (openE a W) ch (.ref x) = openE { a with ra := upd a.ra ch x } { W with op := aput W.op ch r } := by
    unfold openE
    have := kput_mapV (f := fun ch (_ : Rc) => V.ref (a.ra ch)) (f' := fun c (_ : Rc) => V.ref (upd a.ra ch x c)) (es := W.op) (k := ch) (v := r) fun k' u hk => by rw [upd_ne _ _ hk]
    simpa [upd_self] using this
  have xf : ∀ b ∈ foot a W, b ≠ x := fun b hb q => by
    subst q
    rcases R.tab b hb with ⟨_, _, e⟩ | ⟨_, _, e⟩ <;> (rw [hx] at e; cases e)
  have hkeys : (aput W.op ch r).map (·.1) = W.op.map (·.1) ++ [ch] := by rw [keys_aput, hn]; rfl
  have hf : foot { a with ra := upd a.ra ch x } { W with op := aput W.op ch r } = foot a W ++ [x] := by
    unfold foot
    have e : ∀ (g : Int → Addr) (l : List (Int × Rc)), (l.map fun kv => g kv.1) = (l.map (·.1)).map g := fun g l => by rw [List.map_map]; rfl
    rw [e, e, hkeys, List.map_append]
    simp only [List.map_cons, List.map_nil, upd_self, List.cons_append]
    congr 5
    refine List.map_congr_left fun k' hk' => upd_ne _ _ fun q => ?_
    obtain ⟨kv, hkv, e⟩ := List.mem_map.mp hk'
    exact aget_none.mp hn kv hkv (e.trans q)
  have keepD : ∀ {b : Addr} {o : O}, n b = some o → b ≠ a.oa → (n1.set a.oa (.idd (kput (openE a W) ch (.ref x)) ep')) b = some o := fun {b o} hb hne =>
    (Led.set_ne _ _ hne).trans (hk.at hb)
  have nf : ∀ {b : Addr} {o : O}, n b = some o → (∀ es ep, o ≠ .idd es ep) → b ≠ a.oa := fun hb hn q => by
    obtain ⟨ep, hf⟩ := R.op
    rw [q, hf] at hb; cases hb; exact hn _ _ rfl
  refine ⟨?_, rfl, fun b hb hf => ?_, fun b hb => ?_⟩
  · exact {
      inst := keepD R.inst (nf R.inst fun _ _ q => nomatch q)
      attrs := let ⟨es, ep, h, q⟩ := R.attrs; ⟨es, ep, keepD h g2, q⟩
      files := let ⟨ep, h⟩ := R.files; ⟨ep, keepD h g4⟩
      op := ⟨ep', by rw [ho]; exact Led.set_self _ _ _⟩
      fields := let ⟨ep, h⟩ := R.fields; ⟨ep, keepD h (Ne.symm g6)⟩
      recs := fun ch' r2 hr2 => by
        rw [aget_aput] at hr2
        split at hr2
        · rename_i e; cases hr2; subst e
          refine ⟨ep, ?_⟩
          show (n1.set a.oa _) (upd a.ra ch x ch) = _
          rw [upd_self, Led.set_ne _ _ (Ne.symm (xf _ foot_oa))]; exact h1
        · rename_i e
          obtain ⟨ep, h⟩ := R.recs ch' r2 hr2
          refine ⟨ep, ?_⟩
          show (n1.set a.oa _) (upd a.ra ch x ch') = _
          rw [upd_ne _ _ (Ne.symm e)]
          exact keepD h (g7 ch' r2 hr2).2.2.1
      tups := fun nm p hp => keepD (R.tups nm p hp) (nf (R.tups nm p hp) fun _ _ q => nomatch q)
      apart := by
        rw [hf, List.nodup_append]
        exact ⟨R.apart, by simp, fun b hb y hy e => xf b hb (by simp only [List.mem_singleton] at hy; rw [e, hy])⟩ }
  · have hne : b ≠ a.oa := fun q => hf (by rw [q]; exact foot_oa)
    exact (Led.set_ne _ _ hne).trans (hk b hb fun q => nomatch q)
  · rw [hf] at hb
    rcases List.mem_append.mp hb with h | h
    · exact .inl h
    · exact .inr (by simp only [List.mem_singleton] at h; rw [h]; exact hx)

theorem step_close (R : Rep n a W) {ch : Int} {ep : Nat} : Step n a W (n.set a.oa (.idd (kdel (openE a W) ch) ep)) a { W with op := adel W.op ch } := by
  obtain ⟨g1, g2, g3, g4, g5, g6, g7, g8⟩ := R.ne
  have ho : kdel (openE a W) ch = openE a { W with op := adel W.op ch } := kdel_mapV _ _ _
  have sub : (foot a { W with op := adel W.op ch }).Sublist (foot a W) := by
    unfold foot
    refine .cons_cons _ (.cons_cons _ (.cons_cons _ (.cons_cons _ (.map _ List.filter_sublist))))
  have nf : ∀ {b : Addr} {o : O}, n b = some o → (∀ es ep, o ≠ .idd es ep) → b ≠ a.oa := fun hb hn q => by
    obtain ⟨ep, hf⟩ := R.op
    rw [q, hf] at hb; cases hb; exact hn _ _ rfl
  have keepD : ∀ {b : Addr} {o : O}, n b = some o → b ≠ a.oa → (n.set a.oa (.idd (kdel (openE a W) ch) ep)) b = some o := fun {b o} hb hne => (Led.set_ne _ _ hne).trans hb
  refine ⟨?_, rfl, Keeps.set (.inl foot_oa), fun b hb => .inl (sub.subset hb)⟩
  exact {
    inst := keepD R.inst (nf R.inst fun _ _ q => nomatch q)
    attrs := let ⟨es, ep, h, q⟩ := R.attrs; ⟨es, ep, keepD h g2, q⟩
    files := let ⟨ep, h⟩ := R.files; ⟨ep, keepD h g4⟩
    op := ⟨ep, by rw [ho]; exact Led.set_self _ _ _⟩
    fields := let ⟨ep, h⟩ := R.fields; ⟨ep, keepD h (Ne.symm g6)⟩
    recs := fun ch' r2 hr2 => by
      rw [aget_adel] at hr2
      split at hr2
      · cases hr2
      · obtain ⟨ep, h⟩ := R.recs ch' r2 hr2
        exact ⟨ep, keepD h (g7 ch' r2 hr2).2.2.1⟩
    tups := fun nm p hp => keepD (R.tups nm p hp) (nf (R.tups nm p hp) fun _ _ q => nomatch q)
    apart := R.apart.sublist sub }

theorem step_field (R : Rep n a W) {nm : Str} {p : Pt3} {x : Addr} {ep : Nat} (hx : n x = some (.tup (ptE p))) :
    Step n a W (n.set a.ia (.sd (kput (fieldsE a W) nm (.ref x)) ep)) { a with ta := upd a.ta nm x } { W with fields := aput W.fields nm p } := by
  obtain ⟨g1, g2, g3, g4, g5, g6, g7, g8⟩ := R.ne
  have ho : kput (fieldsE a W) nm (.ref x) = fieldsE { a with ta := upd a.ta nm x } { W with fields := aput W.fields nm p } := by
    unfold fieldsE
    have := kput_mapV (f := fun nm (_ : Pt3) => V.ref (a.ta nm)) (f' := fun c (_ : Pt3) => V.ref (upd a.ta nm x c)) (es := W.fields) (k := nm) (v := p) fun k' u hk => by rw [upd_ne _ _ hk]
    simpa [upd_self] using this
  have nf : ∀ {b : Addr} {o : O}, n b = some o → (∀ es ep, o ≠ .sd es ep) → b ≠ a.ia := fun hb hn q => by
    obtain ⟨ep, hf⟩ := R.fields
    rw [q, hf] at hb; cases hb; exact hn _ _ rfl
  have keepD : ∀ {b : Addr} {o : O}, n b = some o → b ≠ a.ia → (n.set a.ia (.sd (kput (fieldsE a W) nm (.ref x)) ep)) b = some o := fun {b o} hb hne => (Led.set_ne _ _ hne).trans hb
  refine ⟨?_, rfl, Keeps.set (.inl foot_ia), fun b hb => .inl hb⟩
  exact {
    inst := keepD R.inst (nf R.inst fun _ _ q => nomatch q)
    attrs := let ⟨es, ep, h, q⟩ := R.attrs; ⟨es, ep, keepD h g3, q⟩
    files := let ⟨ep, h⟩ := R.files; ⟨ep, keepD h g5⟩
    op := let ⟨ep, h⟩ := R.op; ⟨ep, keepD h g6⟩
    fields := ⟨ep, by rw [ho]; exact Led.set_self _ _ _⟩
    recs := fun ch' r2 hr2 => let ⟨ep, h⟩ := R.recs ch' r2 hr2; ⟨ep, keepD h (g7 ch' r2 hr2).2.2.2⟩
    tups := fun nm' p' hp => by
      rw [aget_aput] at hp
      split at hp
      · rename_i e; cases hp; subst e
        show (n.set a.ia _) (upd a.ta nm x nm) = _
        rw [upd_self]
        exact keepD hx (nf hx fun _ _ q => nomatch q)
      · rename_i e
        show (n.set a.ia _) (upd a.ta nm x nm') = _
        rw [upd_ne _ _ (Ne.symm e)]
        exact keepD (R.tups nm' p' hp) (nf (R.tups nm' p' hp) fun _ _ q => nomatch q)
    apart := R.apart }

theorem step_unfield (R : Rep n a W) {nm : Str} {ep : Nat} : Step n a W (n.set a.ia (.sd (kdel (fieldsE a W) nm) ep)) a { W with fields := adel W.fields nm } := by
  obtain ⟨g1, g2, g3, g4, g5, g6, g7, g8⟩ := R.ne
  have ho : kdel (fieldsE a W) nm = fieldsE a { W with fields := adel W.fields nm } := kdel_mapV _ _ _
  have nf : ∀ {b : Addr} {o : O}, n b = some o → (∀ es ep, o ≠ .sd es ep) → b ≠ a.ia := fun hb hn q => by
    obtain ⟨ep, hf⟩ := R.fields
    rw [q, hf] at hb; cases hb; exact hn _ _ rfl
  have keepD : ∀ {b : Addr} {o : O}, n b = some o → b ≠ a.ia → (n.set a.ia (.sd (kdel (fieldsE a W) nm) ep)) b = some o := fun {b o} hb hne => (Led.set_ne _ _ hne).trans hb
  refine ⟨?_, rfl, Keeps.set (.inl foot_ia), fun b hb => .inl hb⟩
  exact {
    inst := keepD R.inst (nf R.inst fun _ _ q => nomatch q)
    attrs := let ⟨es, ep, h, q⟩ := R.attrs; ⟨es, ep, keepD h g3, q⟩
    files := let ⟨ep, h⟩ := R.files; ⟨ep, keepD h g5⟩
    op := let ⟨ep, h⟩ := R.op; ⟨ep, keepD h g6⟩
    fields := ⟨ep, by rw [ho]; exact Led.set_self _ _ _⟩
    recs := fun ch' r2 hr2 => let ⟨ep, h⟩ := R.recs ch' r2 hr2; ⟨ep, keepD h (g7 ch' r2 hr2).2.2.2⟩
    tups := fun nm' p' hp => by
      rw [aget_adel] at hp
      split at hp
      · cases hp
      · exact keepD (R.tups nm' p' hp) (nf (R.tups nm' p' hp) fun _ _ q => nomatch q)
    apart := R.apart }
end

-- part W3
set_option maxHeartbeats 2000000
theorem ok215 (w : World) {x : Str} (h : ∃ a, findIn (KK w) (.ref 215) x = some a ∧ noGet (KK w) a = true) : ClsOk w 215 x := ⟨by kernel_rfl, by kernel_rfl, h⟩
theorem ok_files (w : World) : ClsOk w 215 "files" := ok215 w ⟨none, by kernel_rfl, by kernel_rfl⟩
theorem ok_open (w : World) : ClsOk w 215 "open" := ok215 w ⟨none, by kernel_rfl, by kernel_rfl⟩
theorem ok_fields (w : World) : ClsOk w 215 "fields" := ok215 w ⟨none, by kernel_rfl, by kernel_rfl⟩

section
variable {prog : Program} {c : Cx} {m : Loc} {n : Led} {X : Str → Led → Prop} {Q : V → Led → Prop} {pos : Pos} {a : Ads} {W : WS} {P : Led → Prop}

theorem at_files (R : Rep n a W) (h : Q (.ref a.fa) n) : At prog c m n (.ref a.wa) "files" Q X := let ⟨es, ep, h1, h2, h3, h4⟩ := R.attrs; at_inst R.inst h1 (ok_files _) h2 h
theorem at_open (R : Rep n a W) (h : Q (.ref a.oa) n) : At prog c m n (.ref a.wa) "open" Q X := let ⟨es, ep, h1, h2, h3, h4⟩ := R.attrs; at_inst R.inst h1 (ok_open _) h3 h
theorem at_fields (R : Rep n a W) (h : Q (.ref a.ia) n) : At prog c m n (.ref a.wa) "fields" Q X := let ⟨es, ep, h1, h2, h3, h4⟩ := R.attrs; at_inst R.inst h1 (ok_fields _) h4 h

theorem sub_files {e s : Expr} {nm t : Str} (R : Rep n a W) (hk : aget W.files nm = some t) (h : Q (.str t) n) (hs : Plain s := by with_unfolding_all (intro _ _; rfl)) : Sub prog c m n e s (.ref a.fa) (.str nm) Q X :=
  let ⟨ep, h1⟩ := R.files; sub_sd h1 (by unfold filesE; rw [kget_mapV, hk]; rfl) h hs
theorem sub_open {e s : Expr} {ch : Int} {r : Rc} (R : Rep n a W) (hk : aget W.op ch = some r) (h : Q (.ref (a.ra ch)) n) (hs : Plain s := by with_unfolding_all (intro _ _; rfl)) : Sub prog c m n e s (.ref a.oa) (.int ch) Q X :=
  let ⟨ep, h1⟩ := R.op; sub_idd h1 (by unfold openE; rw [kget_mapV, hk]; rfl) h hs
theorem sub_fields {e s : Expr} {nm : Str} {p : Pt3} (R : Rep n a W) (hk : aget W.fields nm = some p) (h : Q (.ref (a.ta nm)) n) (hs : Plain s := by with_unfolding_all (intro _ _; rfl)) : Sub prog c m n e s (.ref a.ia) (.str nm) Q X :=
  let ⟨ep, h1⟩ := R.fields; sub_sd h1 (by unfold fieldsE; rw [kget_mapV, hk]; rfl) h hs
theorem sub_rec {e s : Expr} {ch : Int} {r : Rc} {k : Str} {v : V} (R : Rep n a W) (hr : aget W.op ch = some r) (hk : kget (recE r) k = some v) (h : Q v n) (hs : Plain s := by with_unfolding_all (intro _ _; rfl)) : Sub prog c m n e s (.ref (a.ra ch)) (.str k) Q X :=
  let ⟨ep, h1⟩ := R.recs ch r hr; sub_sd h1 hk h hs

theorem in_files {nm : Str} (R : Rep n a W) (h : Q (.bool (aget W.files nm).isSome) n) : Cmp prog c m n .In (.str nm) (.ref a.fa) Q X :=
  let ⟨ep, h1⟩ := R.files; cmp_in_sd h1 (by unfold filesE; rw [kget_mapV, Option.isSome_map]; exact h)
theorem notin_files {nm : Str} (R : Rep n a W) (h : Q (.bool (!(aget W.files nm).isSome)) n) : Cmp prog c m n .NotIn (.str nm) (.ref a.fa) Q X :=
  let ⟨ep, h1⟩ := R.files; cmp_notin_sd h1 (by unfold filesE; rw [kget_mapV, Option.isSome_map]; exact h)
theorem in_fields {nm : Str} (R : Rep n a W) (h : Q (.bool (aget W.fields nm).isSome) n) : Cmp prog c m n .In (.str nm) (.ref a.ia) Q X :=
  let ⟨ep, h1⟩ := R.fields; cmp_in_sd h1 (by unfold fieldsE; rw [kget_mapV, Option.isSome_map]; exact h)
theorem notin_fields {nm : Str} (R : Rep n a W) (h : Q (.bool (!(aget W.fields nm).isSome)) n) : Cmp prog c m n .NotIn (.str nm) (.ref a.ia) Q X :=
  let ⟨ep, h1⟩ := R.fields; cmp_notin_sd h1 (by unfold fieldsE; rw [kget_mapV, Option.isSome_map]; exact h)
theorem in_open {ch : Int} (R : Rep n a W) (h : Q (.bool (aget W.op ch).isSome) n) : Cmp prog c m n .In (.int ch) (.ref a.oa) Q X :=
  let ⟨ep, h1⟩ := R.op; cmp_in_idd h1 (by unfold openE; rw [kget_mapV, Option.isSome_map]; exact h)
theorem notin_open {ch : Int} (R : Rep n a W) (h : Q (.bool (!(aget W.op ch).isSome)) n) : Cmp prog c m n .NotIn (.int ch) (.ref a.oa) Q X :=
  let ⟨ep, h1⟩ := R.op; cmp_notin_idd h1 (by unfold openE; rw [kget_mapV, Option.isSome_map]; exact h)

theorem st_rec {ch : Int} {r r' : Rc} {k : Str} {v : V} (R : Rep n a W) (hr : aget W.op ch = some r) (hk : kput (recE r) k v = recE r') (h : ∀ n', Step n a W n' a { W with op := aput W.op ch r' } → P n') : St prog c m n (.ref (a.ra ch)) (.str k) v P X :=
  let ⟨ep, h1⟩ := R.recs ch r hr; st_sd h1 (by show 6 ≤ sizeLine; decide) fun ep' => h _ (hk ▸ step_rec R hr)
theorem st_files {nm t : Str} (R : Rep n a W) (hz : W.files.length ≤ sizeLine) (h : ∀ n', Step n a W n' a { W with files := aput W.files nm t } → P n') : St prog c m n (.ref a.fa) (.str nm) (.str t) P X :=
  let ⟨ep, h1⟩ := R.files; st_sd h1 (by unfold filesE; rw [length_mapV]; exact hz) fun ep' => h _ (by
    have e : kput (filesE W) nm (.str t) = mapV (fun _ t => V.str t) (aput W.files nm t) := kput_mapV (f := fun _ t => V.str t) (f' := fun _ t => V.str t) fun _ _ _ => rfl
    rw [e]; exact step_files R)
theorem st_fields {nm : Str} {p : Pt3} {x : Addr} (R : Rep n a W) (hz : W.fields.length ≤ sizeLine) (hx : n x = some (.tup (ptE p))) (h : ∀ n', Step n a W n' { a with ta := upd a.ta nm x } { W with fields := aput W.fields nm p } → P n') : St prog c m n (.ref a.ia) (.str nm) (.ref x) P X :=
  let ⟨ep, h1⟩ := R.fields; st_sd h1 (by unfold fieldsE; rw [length_mapV]; exact hz) fun ep' => h _ (step_field R hx)

theorem pop_files {nm t : Str} {tk : Tok} (R : Rep n a W) (hz : W.files.length ≤ sizeLine) (hk : aget W.files nm = some t) (h : ∀ n', Step n a W n' a { W with files := adel W.files nm } → Q (.str t) n') : Ev prog c m n (call (.builtin "dict.pop") [.ref a.fa, .str nm tk]) Q X :=
  let ⟨ep, h1⟩ := R.files; call_pop_sd h1 (by unfold filesE; rw [kget_mapV, hk]; rfl) (by unfold filesE; rw [length_mapV]; exact hz) fun ep' => h _ (by
    have e : kdel (filesE W) nm = mapV (fun _ t => V.str t) (adel W.files nm) := kdel_mapV _ _ _
    rw [e]; exact step_files R)
theorem pop_open {ch : Int} {r : Rc} {tk : Tok} (R : Rep n a W) (hz : W.op.length ≤ sizeLine) (hk : aget W.op ch = some r) (h : ∀ n', Step n a W n' a { W with op := adel W.op ch } → Q (.ref (a.ra ch)) n') : Ev prog c m n (call (.builtin "dict.pop") [.ref a.oa, .int ch tk]) Q X :=
  let ⟨ep, h1⟩ := R.op; call_pop_idd h1 (by unfold openE; rw [kget_mapV, hk]; rfl) (by unfold openE; rw [length_mapV]; exact hz) fun ep' => h _ (step_close R)
theorem pop_fields {nm : Str} {p : Pt3} {tk : Tok} (R : Rep n a W) (hz : W.fields.length ≤ sizeLine) (hk : aget W.fields nm = some p) (h : ∀ n', Step n a W n' a { W with fields := adel W.fields nm } → Q (.ref (a.ta nm)) n') : Ev prog c m n (call (.builtin "dict.pop") [.ref a.ia, .str nm tk]) Q X :=
  let ⟨ep, h1⟩ := R.fields; call_pop_sd h1 (by unfold fieldsE; rw [kget_mapV, hk]; rfl) (by unfold fieldsE; rw [length_mapV]; exact hz) fun ep' => h _ (step_unfield R)
end

section
variable {prog : Program} {c : Cx} {m : Loc} {n : Led} {X : Str → Led → Prop} {Q : V → Led → Prop} {pos : Pos} {a : Ads} {W : WS} {P : Led → Prop} {e s : Expr} {ch : Int} {r : Rc}
theorem sub_mode (R : Rep n a W) (hr : aget W.op ch = some r) (h : Q (.str r.mode) n) (hs : Plain s := by with_unfolding_all (intro _ _; rfl)) : Sub prog c m n e s (.ref (a.ra ch)) (.str "mode") Q X := sub_rec R hr (by rfl) h hs
theorem sub_name (R : Rep n a W) (hr : aget W.op ch = some r) (h : Q (.str r.name) n) (hs : Plain s := by with_unfolding_all (intro _ _; rfl)) : Sub prog c m n e s (.ref (a.ra ch)) (.str "name") Q X := sub_rec R hr (by rfl) h hs
theorem sub_at (R : Rep n a W) (hr : aget W.op ch = some r) (h : Q (.int r.at_) n) (hs : Plain s := by with_unfolding_all (intro _ _; rfl)) : Sub prog c m n e s (.ref (a.ra ch)) (.str "at") Q X := sub_rec R hr (by rfl) h hs
theorem sub_size (R : Rep n a W) (hr : aget W.op ch = some r) (h : Q (.int r.size) n) (hs : Plain s := by with_unfolding_all (intro _ _; rfl)) : Sub prog c m n e s (.ref (a.ra ch)) (.str "size") Q X := sub_rec R hr (by rfl) h hs
theorem sub_buffer (R : Rep n a W) (hr : aget W.op ch = some r) (h : Q (.str r.buf) n) (hs : Plain s := by with_unfolding_all (intro _ _; rfl)) : Sub prog c m n e s (.ref (a.ra ch)) (.str "buffer") Q X := sub_rec R hr (by rfl) h hs
theorem sub_record (R : Rep n a W) (hr : aget W.op ch = some r) (h : Q (.int r.no) n) (hs : Plain s := by with_unfolding_all (intro _ _; rfl)) : Sub prog c m n e s (.ref (a.ra ch)) (.str "record") Q X := sub_rec R hr (by rfl) h hs
theorem st_at {i : Int} (R : Rep n a W) (hr : aget W.op ch = some r) (h : ∀ n', Step n a W n' a { W with op := aput W.op ch { r with at_ := i } } → P n') : St prog c m n (.ref (a.ra ch)) (.str "at") (.int i) P X := st_rec R hr (by rfl) h
theorem st_buffer {t : Str} (R : Rep n a W) (hr : aget W.op ch = some r) (h : ∀ n', Step n a W n' a { W with op := aput W.op ch { r with buf := t } } → P n') : St prog c m n (.ref (a.ra ch)) (.str "buffer") (.str t) P X := st_rec R hr (by rfl) h
theorem st_record {i : Int} (R : Rep n a W) (hr : aget W.op ch = some r) (h : ∀ n', Step n a W n' a { W with op := aput W.op ch { r with no := i } } → P n') : St prog c m n (.ref (a.ra ch)) (.str "record") (.int i) P X := st_rec R hr (by rfl) h

theorem br_some {α : Type} {o : Option α} {P Q : Prop} (h1 : ∀ x, o = some x → P) (h2 : o = none → Q) : Br o.isSome P Q := ⟨fun h => by
  obtain ⟨x, hx⟩ := Option.isSome_iff_exists.mp h; exact h1 x hx, fun h => h2 (by simpa using h)⟩
theorem br_any {b : Bool} {P Q : Prop} (h1 : b = true → P) (h2 : b = false → Q) : Br b P Q := ⟨h1, h2⟩

noncomputable abbrev CB (prog : Program) (c : Cx) (m : Loc) (n : Led) (id : String) (us : List V) (Q : V → Led → Prop) (X : Str → Led → Prop) : Prop := ∀ vs, VRel us vs → Ev prog c m n (call (.builtin id) vs) Q X
theorem cb_len_s {x : Str} (hz : x.length ≤ sizeLine) (h : Q (.int x.length) n) : CB prog c m n "len" [.str x] Q X := by
  rintro _ (_ | ⟨⟨⟩, ⟨⟩⟩); exact call_len_s (by have : sizeLine = 2 ^ 24 := rfl; lia) h
theorem cb_len_l {x : Addr} {xs : List V} (ha : n x = some (.list xs)) (hz : xs.length ≤ sizeLine) (h : Q (.int xs.length) n) : CB prog c m n "len" [.ref x] Q X := by
  rintro _ (_ | ⟨⟨⟩, ⟨⟩⟩); exact call_len_l ha (by have : sizeLine = 2 ^ 24 := rfl; lia) h
theorem cb_chr {i : Int} (h0 : 0 ≤ i) (h1 : i ≤ 1114111) (h : Q (.str ⟨#[i.toNat]⟩) n) : CB prog c m n "chr" [.int i] Q X := by
  rintro _ (_ | ⟨⟨⟩, ⟨⟩⟩); exact call_chr h0 h1 h
theorem cb_min {i j : Int} (hh : c.A.handled = none) (h : Q (.int (min i j)) n) : CB prog c m n "min" [.int i, .int j] Q X := by
  rintro _ (_ | ⟨⟨⟩, _ | ⟨⟨⟩, ⟨⟩⟩⟩); exact call_min hh h
noncomputable abbrev MB (prog : Program) (c : Cx) (m : Loc) (n : Led) (o : V) (id : String) (us : List V) (Q : V → Led → Prop) (X : Str → Led → Prop) : Prop := ∀ x, VIs o x → ∀ vs, VRel us vs → Ev prog c m n (call (.builtin id) (x :: vs)) Q X
theorem mb_find {x y : Str} (h : Q (.int (Txt.find x y)) n) : MB prog c m n (.str x) "str.find" [.str y] Q X := by
  rintro _ ⟨⟩ _ (_ | ⟨⟨⟩, ⟨⟩⟩); exact call_find h
theorem mb_append {x : Addr} {xs : List V} {v : V} (ha : n x = some (.list xs)) (hz : xs.length ≤ sizeLine) (h : Q .none (n.set x (.list (xs ++ [v])))) : MB prog c m n (.ref x) "list.append" [v] Q X := by
  rintro _ ⟨⟩ _ (_ | ⟨hv, ⟨⟩⟩); exact call_append ha hv hz h
theorem mb_pop_files {nm t : Str} (R : Rep n a W) (hz : W.files.length ≤ sizeLine) (hk : aget W.files nm = some t) (h : ∀ n', Step n a W n' a { W with files := adel W.files nm } → Q (.str t) n') : MB prog c m n (.ref a.fa) "dict.pop" [.str nm] Q X := by
  rintro _ ⟨⟩ _ (_ | ⟨⟨⟩, ⟨⟩⟩); exact pop_files R hz hk h
theorem mb_pop_open (R : Rep n a W) (hz : W.op.length ≤ sizeLine) (hk : aget W.op ch = some r) (h : ∀ n', Step n a W n' a { W with op := adel W.op ch } → Q (.ref (a.ra ch)) n') : MB prog c m n (.ref a.oa) "dict.pop" [.int ch] Q X := by
  rintro _ ⟨⟩ _ (_ | ⟨⟨⟩, ⟨⟩⟩); exact pop_open R hz hk h
theorem mb_pop_fields {nm : Str} {p : Pt3} (R : Rep n a W) (hz : W.fields.length ≤ sizeLine) (hk : aget W.fields nm = some p) (h : ∀ n', Step n a W n' a { W with fields := adel W.fields nm } → Q (.ref (a.ta nm)) n') : MB prog c m n (.ref a.ia) "dict.pop" [.str nm] Q X := by
  rintro _ ⟨⟩ _ (_ | ⟨⟨⟩, ⟨⟩⟩); exact pop_fields R hz hk h
end

/-! built-in names -/
theorem bi_dict (w : World) : BuiltinIs w "dict" (.type "dict") := ⟨by kernel_rfl, by kernel_rfl, by decide⟩
theorem bi_range (w : World) : BuiltinIs w "range" (.type "range") := ⟨by kernel_rfl, by kernel_rfl, by decide⟩

-- part W4
set_option maxHeartbeats 2000000
section
variable {prog : Program} {c : Cx} {m : Loc} {n : Led} {X : Str → Led → Prop} {Q : V → Led → Prop} {pos : Pos}
noncomputable abbrev KMB (prog : Program) (c : Cx) (m : Loc) (ov : V) (id : String) (Q : V → Led → Prop) (X : Str → Led → Prop) (us : List V) (n : Led) : Prop := MB prog c m n ov id us Q X
noncomputable abbrev KMeth (prog : Program) (c : Cx) (m : Loc) (T id : String) (pos : Pos) (args : List Expr) (Q : V → Led → Prop) (X : Str → Led → Prop) (ov : V) (n : Led) : Prop := HasT prog c m n ov T ∧ Es prog c m n (spliced (backTo pos (starEach args c.env))) (KMB prog c m ov id Q X) X
noncomputable abbrev KPt (P : Option Int → Led → Prop) (v : V) (n : Led) : Prop := ∃ i, v = .int i ∧ P (some i) n
theorem em_find {o : Expr} {apos : Pos} {args : List Expr} {pl : Value → Sem Bool}
    (h : Ev prog c m n (eval o c.env) (KMeth prog c m "str" "str.find" pos args Q X) X)
    (he : eval (.Call (.Attribute o "find" apos) args [] pos) c.env = (do let ov ← eval o c.env; standAt apos.atName; let (f, first) ← holding [ov] (getMethod ov "find" (pl ov)); callWith pos f first (backTo pos (starEach args c.env)) (backToKw pos (keywordEach [] c.env))) := by with_unfolding_all rfl)
    (hp : (backTo pos (starEach args c.env)).any (·.1) = false := by with_unfolding_all rfl) : Ev prog c m n (eval (.Call (.Attribute o "find" apos) args [] pos) c.env) Q X :=
  ev_method (T := "str") (id := "str.find") F.plainAttrs_str F.slot_str_find (by kernel_rfl) h he hp
theorem em_append {o : Expr} {apos : Pos} {args : List Expr} {pl : Value → Sem Bool}
    (h : Ev prog c m n (eval o c.env) (KMeth prog c m "list" "list.append" pos args Q X) X)
    (he : eval (.Call (.Attribute o "append" apos) args [] pos) c.env = (do let ov ← eval o c.env; standAt apos.atName; let (f, first) ← holding [ov] (getMethod ov "append" (pl ov)); callWith pos f first (backTo pos (starEach args c.env)) (backToKw pos (keywordEach [] c.env))) := by with_unfolding_all rfl)
    (hp : (backTo pos (starEach args c.env)).any (·.1) = false := by with_unfolding_all rfl) : Ev prog c m n (eval (.Call (.Attribute o "append" apos) args [] pos) c.env) Q X :=
  ev_method (T := "list") (id := "list.append") F.plainAttrs_list F.slot_list_append (by kernel_rfl) h he hp
theorem em_pop {o : Expr} {apos : Pos} {args : List Expr} {pl : Value → Sem Bool}
    (h : Ev prog c m n (eval o c.env) (KMeth prog c m "dict" "dict.pop" pos args Q X) X)
    (he : eval (.Call (.Attribute o "pop" apos) args [] pos) c.env = (do let ov ← eval o c.env; standAt apos.atName; let (f, first) ← holding [ov] (getMethod ov "pop" (pl ov)); callWith pos f first (backTo pos (starEach args c.env)) (backToKw pos (keywordEach [] c.env))) := by with_unfolding_all rfl)
    (hp : (backTo pos (starEach args c.env)).any (·.1) = false := by with_unfolding_all rfl) : Ev prog c m n (eval (.Call (.Attribute o "pop" apos) args [] pos) c.env) Q X :=
  ev_method (T := "dict") (id := "dict.pop") F.plainAttrs_dict F.slot_dict_pop (by kernel_rfl) h he hp
theorem has_files {a : Ads} {W : WS} (R : Rep n a W) : HasT prog c m n (.ref a.fa) "dict" := let ⟨ep, h⟩ := R.files; has_sd h
theorem has_open {a : Ads} {W : WS} (R : Rep n a W) : HasT prog c m n (.ref a.oa) "dict" := let ⟨ep, h⟩ := R.op; has_idd h
theorem has_fields {a : Ads} {W : WS} (R : Rep n a W) : HasT prog c m n (.ref a.ia) "dict" := let ⟨ep, h⟩ := R.fields; has_sd h
theorem hs_str {x : Str} {p : Prop} (h : p) : HasT prog c m n (.str x) "str" ∧ p := ⟨has_str, h⟩
theorem hs_list {x : Addr} {xs : List V} {p : Prop} (ha : n x = some (.list xs)) (h : p) : HasT prog c m n (.ref x) "list" ∧ p := ⟨has_list ha, h⟩
theorem hs_files {a : Ads} {W : WS} {p : Prop} (R : Rep n a W) (h : p) : HasT prog c m n (.ref a.fa) "dict" ∧ p := ⟨has_files R, h⟩
theorem hs_open {a : Ads} {W : WS} {p : Prop} (R : Rep n a W) (h : p) : HasT prog c m n (.ref a.oa) "dict" ∧ p := ⟨has_open R, h⟩
theorem hs_fields {a : Ads} {W : WS} {p : Prop} (R : Rep n a W) (h : p) : HasT prog c m n (.ref a.ia) "dict" ∧ p := ⟨has_fields R, h⟩
theorem exq {α : Type} {q P : α → Prop} {w : α} (hq : q w) (h : P w) : ∃ x, q x ∧ P x := ⟨w, hq, h⟩
theorem kpt {P : Option Int → Led → Prop} {i : Int} (h : P (some i) n) : KPt P (.int i) n := ⟨i, rfl, h⟩
theorem pt_none {P : Option Int → Led → Prop} (h : P none n) : Pt prog c m n none P X := h
theorem pt_some {e : Expr} {P : Option Int → Led → Prop} (h : Ev prog c m n (eval e c.env) (KPt P) X) : Pt prog c m n (some e) P X := h
end

section
variable {prog : Program} {c c0 : Cx} {m : Loc} {n : Led} {X : Str → Led → Prop} {Q : V → Led → Prop} {pos : Pos} {sc : Scope} {cl : List (Str × Addr)} {x : Str}
theorem ev_loc {v : V} (h : Q v n) (I : InFn c0 c sc cl := by assumption) (hk : sc.names.lookup x = some .local := by with_unfolding_all rfl) (hm : m.lookup x = some v := by with_unfolding_all rfl)
    (hd : (x == ("__debug__" : Str)) = false := by with_unfolding_all rfl) : Ev prog c m n (eval (.Name x pos) c.env) Q X := ev_local I.scope hk hm h hd
theorem ex_as {N : Loc → Led → Prop} {R : V → Led → Prop} {e : Expr} {p p' : Pos} (h : Ev prog c m n (eval e c.env) (KAs N m x) X) (I : InFn c0 c sc cl := by assumption) (hk : sc.names.lookup x = some .local := by with_unfolding_all rfl)
    (hw : swapsWith e (some (.Name x p')) p.line c.env = pure false := by with_unfolding_all rfl) : Ex prog c m n (exec (.Assign [.Name x p'] e p) c.env) N R X := ex_assign I.scope hk h hw
theorem ex_rs {N : Loc → Led → Prop} {R : V → Led → Prop} [ProgOk prog] {k : Str} {np cpos kp : Pos} {kd : Nat} (hh : c.A.handled = none) (hlv : 2 < c.lv) (h : X k n) (I : InFn c0 c sc cl := by assumption) (hk : sc.names.lookup ("BasicError" : Str) = some .globalImplicit := by with_unfolding_all rfl) :
    Ex prog c m n (exec (.Raise (some (.Call (.Name "BasicError" np) [.Constant (.str k) kd kp] [] cpos)) none pos) c.env) N R X := ex_raise I.scope hk hh hlv h
noncomputable def biTab : List (Str × String) := [("len", "len"), ("ord", "ord"), ("chr", "chr"), ("min", "min"), ("sum", "sum"), ("sorted", "sorted")]
theorem biTab_ok (w : World) : ∀ p ∈ biTab, BuiltinIs w p.1 (.builtin p.2) := by
  simp only [biTab, List.forall_mem_cons]
  exact ⟨⟨by kernel_rfl, by kernel_rfl, by decide⟩, ⟨by kernel_rfl, by kernel_rfl, by decide⟩, ⟨by kernel_rfl, by kernel_rfl, by decide⟩, ⟨by kernel_rfl, by kernel_rfl, by decide⟩, ⟨by kernel_rfl, by kernel_rfl, by decide⟩, ⟨by kernel_rfl, by kernel_rfl, by decide⟩, fun _ h => nomatch h⟩
theorem ev_bi {id : String} {np : Pos} {args : List Expr} (h : Es prog c m n (spliced (backTo pos (starEach args c.env))) (KB prog c m id Q X) X)
    (I : InFn c0 c sc cl := by assumption) (hk : sc.names.lookup x = some .globalImplicit := by with_unfolding_all rfl) (ht : biTab.lookup x = some id := by with_unfolding_all rfl)
    (hp : (backTo pos (starEach args c.env)).any (·.1) = false := by with_unfolding_all rfl) (hd : (x == ("__debug__" : Str)) = false := by with_unfolding_all rfl) : Ev prog c m n (eval (.Call (.Name x np) args [] pos) c.env) Q X :=
  ev_callB I.scope hk (biTab_ok _ _ (mem_of_lookup ht)) h hp hd
end

/-! ### a driver's rules, told by a text: NAME/ARGS to a rule (a: an assumption, s: a side fact, r: by reduction, e: rfl, g: grown, a figure: so many names in front of what is left, ?: left), NAME alone: a call -/
def mac_n (k : Lean.Name) (xs : Array Lean.Syntax) : Lean.Syntax := .node .none k xs
def mac_t (s : String) : Lean.Syntax := .atom .none s
def mac_p (s : String) : Lean.Name := .str `Lean.Parser.Tactic s
def mac_by (t : Lean.Syntax) : Lean.Syntax := mac_n `Lean.Parser.Term.byTactic #[mac_t "by", mac_n (mac_p "tacticSeq") #[mac_n (mac_p "tacticSeq1Indented") #[mac_n `null #[t]]]]
def mac_as : Lean.Syntax := mac_n (mac_p "assumption") #[mac_t "assumption"]
def mac_w (s : String) : Lean.Syntax := mac_n `PySem.W.tacticWtm_at_ #[mac_t "wtm_at ", Lean.Syntax.mkStrLit s]
def mac_full (t : Lean.Syntax) : Lean.Syntax := mac_n (mac_p "withUnfoldingAll") #[mac_t "with_unfolding_all", mac_n (mac_p "tacticSeq") #[mac_n (mac_p "tacticSeq1Indented") #[mac_n `null #[t]]]]
def mac_hole : Lean.Syntax := mac_n `Lean.Parser.Term.hole #[mac_t "_"]
def mac_q : Lean.MacroM Lean.Syntax := return (← `(?_)).raw
def mac_fun (t : Lean.Syntax) : Nat → Lean.Syntax
  | 0 => t
  | k + 1 => mac_n `Lean.Parser.Term.fun #[mac_t "fun", mac_n `Lean.Parser.Term.basicFun #[mac_n `null #[mac_hole], mac_n `null #[], mac_t "=>", mac_fun t k]]
def mac_arg (c : Char) : Lean.MacroM Lean.Syntax := do
  if c == 'a' then return mac_by mac_as
  if c == 's' then return mac_by (mac_w "side")
  if c == 'r' then return mac_by (mac_full (mac_n (mac_p "tacticRfl") #[mac_t "rfl"]))
  if c == 'u' then return mac_by (mac_full mac_as)
  if c == 'e' then return Lean.mkIdent `rfl
  if c == 'g' then return mac_by (mac_w "grown")
  let t ← mac_q
  return mac_fun t (if c.isDigit then c.toNat - 48 else 0)
def mac_rule (r : String) : Lean.MacroM (Lean.TSyntax `tactic) := do
  match r.splitOn "/" with
  | [f, k] => do
    let as ← k.toList.toArray.mapM mac_arg
    return ⟨mac_n (mac_p "refine") #[mac_t "refine", mac_n `Lean.Parser.Term.app #[Lean.mkIdent (.str `Mine f), mac_n `null as]]⟩
  | _ => do
    let f := Lean.mkIdent (.str `Mine r)
    `(tactic| ((with_reducible apply $f); wtm_at "call"))
def mac_first (s : String) : Lean.MacroM (Lean.TSyntax `tactic) := do
  let as ← (s.splitOn " ").toArray.mapM fun r => do
    let t ← mac_rule r
    if r.contains '/' then `(tactic| with_reducible $t:tactic) else pure t
  `(tactic| first $[| $as:tactic]* | fail)
def mac_at (h s : String) : Lean.MacroM (Lean.TSyntax `tactic) := do
  let t ← mac_first s
  let os (k : Nat) : Array Lean.Syntax := Array.replicate k mac_hole
  let ap (f : Lean.Name) (xs : Array Lean.Syntax) : Lean.Syntax := mac_n `Lean.Parser.Term.app #[Lean.mkIdent f, mac_n `null xs]
  let p : Lean.TSyntax `term := ⟨match h.splitOn "." with
    | [j, k, i] =>
      let k := ap (.str (if j == "Ex" then `PySem.Stmt else `PySem.Expr) k) (os i.toNat!)
      if j == "Ev" then ap `Mine.Ev (os 4 ++ #[ap `PySem.eval #[k, mac_hole]] ++ os 2) else if j == "Ex" then ap `Mine.Ex (os 4 ++ #[ap `PySem.exec #[k, mac_hole]] ++ os 3) else ap `Mine.Tt (os 4 ++ #[ap `PySem.isTrue #[k, mac_hole, mac_hole]] ++ os 2)
    | _ => ap (.str `Mine h) #[mac_n `Lean.Parser.Term.ellipsis #[mac_t ".."]]⟩
  `(tactic| (guard_target = $p; $t:tactic))
def mac_go (l : List (String × String)) : Lean.MacroM Lean.Syntax := do
  let as ← l.toArray.mapM fun (h, s) => if h == "" then mac_first s else mac_at h s
  return (← `(tactic| first $[| $as:tactic]* | fail)).raw
def mac_chain (f : Lean.Name) : Nat → Lean.MacroM (Lean.TSyntax `term)
  | 0 => `((by assumption))
  | k + 1 => do
    let t ← mac_chain f k
    `($(Lean.mkIdent f) (by assumption) $t)
local macro_rules | `(tactic| wtm_at "go1") => mac_go [
  ("Ev.Name.2", "ev_loc/?"), ("Ev.Constant.3", "ev_int/? ev_str/? ev_none/? ev_bool/?"), ("Ev.Call.4", "em_find/? em_append/? em_pop/? ev_bi/?"), ("Ev.Compare.4", "ev_cmp/?"), ("Ev", "ev_slice/? ev_sub/? ev_attr/? ev_bin/? ev_if/?"),
  ("Ex.Assign.3", "ex_as/? ex_setitem/?"), ("Ex.Expr.2", "ex_expr/?"), ("Ex.Raise.3", "ex_rs/???"), ("Ex", "ex_cons/? ex_nil/? ex_if/? ex_ret/?"),
  ("Tt.Compare.4", "tt_cmp/? tt_cmp2/?"), ("Tt", "tt_not/? tt_andc/? tt_and1/? tt_orc/? tt_or1/? tt_val/?"),
  ("Sub", "sub_files/aa? sub_open/aa? sub_fields/aa? sub_mode/aa? sub_name/aa? sub_at/aa? sub_size/aa? sub_buffer/aa? sub_record/aa?"),
  ("Cmp", "in_files/a? notin_files/a? in_open/a? notin_open/a? in_fields/a? notin_fields/a? cmp_lt/? cmp_le/? cmp_gt/? cmp_ge/? cmp_eq/? cmp_seq/? cmp_sne/? cmp_isNone/?"),
  ("Es", "es_nil/? es_cons/?"), ("", "tr_bool/?"), ("At", "at_files/a? at_open/a? at_fields/a?"), ("Pt", "pt_none/? pt_some/?"), ("", "sl_str/??"),
  ("Bin", "bin_add/? bin_sub/? bin_mul/?? bin_cat/?? bin_rep/????"), ("Br", "br_dec/11 br_some/21 br_not/? br_any/11"),
  ("", "hs_str/? hs_files/a? hs_open/a? hs_fields/a? hs_list/a? kpt/? exq/e?"),
  ("CB", "cb_len_s/?? cb_len_l/a?? cb_chr/??? cb_min/??"), ("MB", "mb_find/? mb_append/a?? mb_pop_files/a?a? mb_pop_open/a?a? mb_pop_fields/a?a?")]
local macro_rules | `(tactic| wtm_at "go") => `(tactic| repeat' (wtm_at "go1"))
local macro_rules | `(tactic| wtm_at "call") => do
  let t := Lean.mkIdent `Mine.tlen
  let t1 := Lean.mkIdent `Mine.tlen1
  `(tactic| all_goals first | with_reducible assumption | (intro _; intros) | wtm_at "side" | exact $t1 _ | exact $t _ | decide | fail)

-- part W5
set_option maxHeartbeats 2000000
theorem len_append (a b : Str) : (a ++ b).length = a.length + b.length := by
  show (a.cps ++ b.cps).size = _
  exact Array.size_append
theorem len_mul' {x : Str} {k : Int} (h : x.length = 1) : (Txt.mul x k).length = k.toNat := by
  have := PyProof.Rows.len_mul_k (x := x) (n := k) 1 h
  split at this <;> lia
theorem sl_len (x : Str) (l u : Option Int) : (Txt.slice x l u).length ≤ x.length := Txt.slice_le x l u
theorem one_blank : (" " : Str).length = 1 := by rfl
theorem one_nul : (⟨#[(0 : Int).toNat]⟩ : Str).length = 1 := by rfl
theorem szl : sizeLine = 16777216 := by rfl

/-! ### what the functions compute -/
noncomputable def nul : Str := ⟨#[0]⟩
noncomputable def chOf (W : WS) (ch : Int) (ms : List Str) : Except Str Rc := match aget W.op ch with
  | none => .error "BN"
  | some r => if r.mode ∈ ms then .ok r else .error "BM"
noncomputable def txt (W : WS) (nm : Str) : Str := (aget W.files nm).getD ""
noncomputable abbrev setR (W : WS) (ch : Int) (r : Rc) : WS := { W with op := aput W.op ch r }
noncomputable abbrev setF (W : WS) (nm t : Str) : WS := { W with files := aput W.files nm t }

noncomputable def placedF (x : Str) (k : Int) (r : Bool) : Str :=
  let t := Txt.slice x none (some k)
  let b := Txt.mul " " (k - t.length)
  if r then b ++ t else t ++ b

noncomputable def writeP (W : WS) (ch : Int) (t : Str) : Except Str WS := do
  let r ← chOf W ch ["O", "A"]
  pure (setR (setF W r.name (txt W r.name ++ t)) ch { r with at_ := r.at_ + t.length })
noncomputable def restP (W : WS) (ch : Int) : Except Str Str := do
  let r ← chOf W ch ["I"]
  pure (Txt.slice (txt W r.name) (some r.at_) none)
noncomputable def pastP (W : WS) (ch many : Int) : Except Str WS := do
  let r ← chOf W ch ["I"]
  pure (setR W ch { r with at_ := min (r.at_ + many) (txt W r.name).length })
noncomputable def rowOf (left : Str) : Str := if Txt.find left "\n" < 0 then left else Txt.slice left none (some (Txt.find left "\n"))
noncomputable def readRowP (W : WS) (ch : Int) : Except Str (Str × WS) := do
  let left ← restP W ch
  if left = "" then .error "EF" else
    let W' ← pastP W ch ((rowOf left).length + 1)
    pure (rowOf left, W')
noncomputable def readSignsP (W : WS) (ch many : Int) : Except Str (Str × WS) := do
  let left ← restP W ch
  if many > left.length then .error "EF" else
    let W' ← pastP W ch many
    pure (Txt.slice left none (some many), W')
noncomputable def endedP (W : WS) (ch : Int) : Except Str Bool := do
  let r ← chOf W ch ["I", "R"]
  pure (if r.mode = "R" then decide (r.no * r.size ≥ (txt W r.name).length) else decide (r.at_ ≥ (txt W r.name).length))
noncomputable def placeP (W : WS) (ch : Int) : Except Str Int := do
  let r ← chOf W ch ["I", "O", "A", "R"]
  pure (if r.mode = "R" then r.no else r.at_)
noncomputable def lengthP (W : WS) (ch : Int) : Except Str Int := do
  let r ← chOf W ch ["I", "O", "A", "R"]
  pure (txt W r.name).length
noncomputable def fieldP (W : WS) (nm : Str) : Option Str := (aget W.fields nm).bind fun p => (aget W.op p.ch).map fun r => Txt.slice r.buf (some p.at_) (some (p.at_ + p.many))
noncomputable def setPlacedP (W : WS) (nm t : Str) (right : Bool) : WS := match aget W.fields nm with
  | none => W
  | some p => match aget W.op p.ch with
    | none => W
    | some r => setR W p.ch { r with buf := Txt.slice r.buf none (some p.at_) ++ placedF t p.many right ++ Txt.slice r.buf (some (p.at_ + p.many)) none }
noncomputable def toldP (r : Rc) (num : Option Int) : Except Str Int :=
  let k := num.getD (r.no + 1)
  if 1 ≤ k ∧ k ≤ 32767 then .ok k else .error "BN"
noncomputable def getP (W : WS) (ch : Int) (num : Option Int) : Except Str WS := do
  let r ← chOf W ch ["R"]
  let k ← toldP r num
  let begun := (k - 1) * r.size
  if begun ≥ (txt W r.name).length then .error "EF" else
    pure (setR W ch { r with buf := Txt.slice (Txt.slice (txt W r.name) (some begun) (some (begun + r.size)) ++ Txt.mul nul r.size) none (some r.size), no := k })
noncomputable def putP (W : WS) (ch : Int) (num : Option Int) (room : Int) : Except Str WS := do
  let r ← chOf W ch ["R"]
  let k ← toldP r num
  let begun := (k - 1) * r.size
  if begun + r.size > room then .error "OM" else
    let t := txt W r.name ++ Txt.mul nul (begun - (txt W r.name).length)
    pure (setR (setF W r.name (Txt.slice t none (some begun) ++ r.buf ++ Txt.slice t (some (begun + r.size)) none)) ch { r with no := k })

/-- what stands throughout -/
structure Good (B : Nat) (W : WS) : Prop where
  fl : W.files.length ≤ B
  ol : W.op.length ≤ B
  il : W.fields.length ≤ B
  tx : ∀ nm t, aget W.files nm = some t → t.length ≤ B
  rc : ∀ ch r, aget W.op ch = some r → (∃ t, aget W.files r.name = some t) ∧ r.buf.length ≤ B ∧ 0 ≤ r.at_ ∧ r.at_ ≤ B ∧ 0 ≤ r.size ∧ r.size ≤ 7 ∧ 0 ≤ r.no ∧ r.no ≤ 40000
  fd : ∀ nm p, aget W.fields nm = some p → (∃ r, aget W.op p.ch = some r) ∧ 0 ≤ p.at_ ∧ p.at_ ≤ 7 ∧ 0 ≤ p.many ∧ p.many ≤ 7
noncomputable def BM : Nat := 4000000
/-- what is known of a channel found -/
structure Fd (B : Nat) (W : WS) (ch : Int) (r : Rc) (t : Str) : Prop where
  get : aget W.op ch = some r
  file : aget W.files r.name = some t
  txt : txt W r.name = t
  tl : t.length ≤ B
  bl : r.buf.length ≤ B
  a0 : 0 ≤ r.at_
  a1 : r.at_ ≤ B
  s0 : 0 ≤ r.size
  s1 : r.size ≤ 7
  n0 : 0 ≤ r.no
  n1 : r.no ≤ 40000
theorem Good.found {B : Nat} {W : WS} (G : Good B W) {ch : Int} {r : Rc} (h : aget W.op ch = some r) : ∃ t, Fd B W ch r t := by
  obtain ⟨⟨t, ht⟩, h1, h2, h3, h4, h5, h6, h7⟩ := G.rc ch r h
  exact ⟨t, h, ht, by unfold Mine.txt; rw [ht]; rfl, G.tx _ _ ht, h1, h2, h3, h4, h5, h6, h7⟩

section
variable {prog : Program} {c : Cx} {m : Loc} {n : Led} {X : Str → Led → Prop} {Q : V → Led → Prop} {a : Ads} {W : WS} {P : Led → Prop} {ch : Int} {r : Rc}
theorem st_files' {nm t : Str} (R : Rep n a W) (hz : W.files.length ≤ sizeLine) (h : ∀ n', Rep n' a (setF W nm t) → Step n a W n' a (setF W nm t) → P n') : St prog c m n (.ref a.fa) (.str nm) (.str t) P X := st_files R hz fun n' S => h n' S.rep S
theorem st_at' {i : Int} (R : Rep n a W) (hr : aget W.op ch = some r) (h : ∀ n', Rep n' a (setR W ch { r with at_ := i }) → Step n a W n' a (setR W ch { r with at_ := i }) → P n') : St prog c m n (.ref (a.ra ch)) (.str "at") (.int i) P X := st_at R hr fun n' S => h n' S.rep S
theorem st_buffer' {t : Str} (R : Rep n a W) (hr : aget W.op ch = some r) (h : ∀ n', Rep n' a (setR W ch { r with buf := t }) → Step n a W n' a (setR W ch { r with buf := t }) → P n') : St prog c m n (.ref (a.ra ch)) (.str "buffer") (.str t) P X := st_buffer R hr fun n' S => h n' S.rep S
theorem st_record' {i : Int} (R : Rep n a W) (hr : aget W.op ch = some r) (h : ∀ n', Rep n' a (setR W ch { r with no := i }) → Step n a W n' a (setR W ch { r with no := i }) → P n') : St prog c m n (.ref (a.ra ch)) (.str "record") (.int i) P X := st_record R hr fun n' S => h n' S.rep S
theorem tup_w {us : List V} {Q : V → Led → Prop} (hz : us.length ≤ sizeLine) (R : Rep n a W) (h : ∀ t n', Rep n' a W → Step n a W n' a W → Keeps [] n n' → n' t = some (.tup us) → Q (.ref t) n') :
    us.length ≤ sizeLine ∧ ∀ x, n x = none → Q (.ref x) (n.set x (.tup us)) :=
  ⟨hz, fun x hx => let S := R.stepGrow (Keeps.set (F := []) (o := .tup us) (.inr hx)); h x _ S.rep S (Keeps.set (.inr hx)) (Led.set_self _ _ _)⟩
theorem list_w {us : List V} {Q : V → Led → Prop} (hz : us.length ≤ sizeLine) (R : Rep n a W) (h : ∀ t n', Rep n' a W → Step n a W n' a W → Keeps [] n n' → n' t = some (.list us) → Q (.ref t) n') :
    us.length ≤ sizeLine ∧ ∀ x, n x = none → Q (.ref x) (n.set x (.list us)) :=
  ⟨hz, fun x hx => let S := R.stepGrow (Keeps.set (F := []) (o := .list us) (.inr hx)); h x _ S.rep S (Keeps.set (.inr hx)) (Led.set_self _ _ _)⟩
noncomputable def KTupW (Q : V → Led → Prop) (us : List V) (n : Led) : Prop := us.length ≤ sizeLine ∧ ∃ a W, Rep n a W ∧ ∀ t n'', Rep n'' a W → Step n a W n'' a W → Keeps [] n n'' → n'' t = some (.tup us) → Q (.ref t) n''
noncomputable def KListW (Q : V → Led → Prop) (us : List V) (n : Led) : Prop := us.length ≤ sizeLine ∧ ∃ a W, Rep n a W ∧ ∀ t n'', Rep n'' a W → Step n a W n'' a W → Keeps [] n n'' → n'' t = some (.list us) → Q (.ref t) n''
theorem ktw {us : List V} {Q : V → Led → Prop} {a : Ads} {W : WS} (hz : us.length ≤ sizeLine) (R : Rep n a W) (h : ∀ t n'', Rep n'' a W → Step n a W n'' a W → Keeps [] n n'' → n'' t = some (.tup us) → Q (.ref t) n'') : KTupW Q us n := ⟨hz, a, W, R, h⟩
theorem klw {us : List V} {Q : V → Led → Prop} {a : Ads} {W : WS} (hz : us.length ≤ sizeLine) (R : Rep n a W) (h : ∀ t n'', Rep n'' a W → Step n a W n'' a W → Keeps [] n n'' → n'' t = some (.list us) → Q (.ref t) n'') : KListW Q us n := ⟨hz, a, W, R, h⟩
theorem ev_tuple_w {pos : Pos} {es : List Expr} {k : Nat} (h : Es prog c m n (spliced (backTo pos (starEach es c.env))) (KTupW Q) X) :
    Ev prog c m n (eval (.Tuple es k pos) c.env) Q X := ev_tuple (Es_mono h fun us n' ⟨hz, a, W, R, q⟩ => tup_w hz R fun t n'' R' S' hk ht => q t n'' R' S' hk ht)
theorem ev_list_w {pos : Pos} {es : List Expr} (h : Es prog c m n (spliced (backTo pos (starEach es c.env))) (KListW Q) X) :
    Ev prog c m n (eval (.List es pos) c.env) Q X := ev_list (Es_mono h fun us n' ⟨hz, a, W, R, q⟩ => list_w hz R fun t n'' R' S' hk ht => q t n'' R' S' hk ht)
theorem get_setR {r' : Rc} (h : aget W.op ch = some r) : aget (setR W ch r').op ch = some r' := by unfold setR; rw [aget_aput, if_pos rfl]
end

section
variable {prog : Program} {c : Cx} {m : Loc} {n : Led} {X : Str → Led → Prop} {Q : V → Led → Prop}
theorem mem_strs {k : Str} {ms : List Str} : V.str k ∈ ms.map V.str ↔ k ∈ ms := by
  simp
theorem in_strs {t : Addr} {ms : List Str} {k : Str} (ht : n t = some (.tup (ms.map .str))) (h : Q (.bool (decide (k ∈ ms))) n) : Cmp prog c m n .In (.str k) (.ref t) Q X :=
  cmp_in_tup ht (fun u hu => by obtain ⟨y, _, rfl⟩ := List.mem_map.mp hu; exact ⟨y, rfl⟩) (by rw [show decide (V.str k ∈ ms.map V.str) = decide (k ∈ ms) from decide_eq_decide.mpr mem_strs]; exact h)
theorem notin_strs {t : Addr} {ms : List Str} {k : Str} (ht : n t = some (.tup (ms.map .str))) (h : Q (.bool (!decide (k ∈ ms))) n) : Cmp prog c m n .NotIn (.str k) (.ref t) Q X :=
  cmp_notin_tup ht (fun u hu => by obtain ⟨y, _, rfl⟩ := List.mem_map.mp hu; exact ⟨y, rfl⟩) (by rw [show decide (V.str k ∈ ms.map V.str) = decide (k ∈ ms) from decide_eq_decide.mpr mem_strs]; exact h)
end
local macro_rules | `(tactic| wtm_at "go1") => mac_go [("Cmp", "in_strs/a? notin_strs/a?"), ("St", "st_files'/a?3 st_at'/aa3 st_buffer'/aa3 st_record'/aa3"), ("Ev", "ev_tuple_w/? ev_list_w/?"), ("", "ktw/?a6 klw/?a6")]
theorem InFn.deep {c c' : Cx} {sc : Scope} {cl : List (Str × Addr)} (I : InFn c c' sc cl) {j k : Nat} (h : k < c.lv) (e : j + 1 ≤ k := by decide) : j < c'.lv := by have := I.lv; lia
theorem lt_lv {j k l : Nat} (h : k < l) (e : j ≤ k := by decide) : j < l := Nat.lt_of_le_of_lt e h
local macro_rules | `(tactic| wtm_at "args") => `(tactic| (
  intro vals hv
  repeat' (rcases hv with _ | ⟨_, hv⟩)
  rfl))
local macro_rules | `(tactic| wtm_at "enter") => `(tactic| (
  refine fn_body (by rfl) (by kernel_rfl) (Nat.zero_lt_of_lt (by assumption)) (by wtm_at "args") (by decide) (by decide) (fun c' I => ?_)
  simp only [List.map_cons, List.map_nil, List.zip_cons_cons, List.zip_nil_left]))
local macro_rules | `(tactic| wtm_at "side") => `(tactic| first
  | exact (‹InFn _ _ _ _›.hd).trans (by assumption)
  | exact ‹InFn _ _ _ _›.deep (by assumption)
  | exact lt_lv (by assumption)
  | (have hlvI := ‹InFn _ _ _ _›.lv; lia))

-- part G1
set_option maxHeartbeats 2000000
section
variable {prog : Program} [ProgOk prog] {c : Cx} {n : Led} {X : Str → Led → Prop} {a : Ads} {W : WS}
theorem fn_placed {x : Str} {k : Int} {r : Bool} (hlv : 0 < c.lv) (hx : x.length ≤ 100) (hk : k ≤ 100) (hk' : -100 ≤ k) : Fn prog c n (.ref 169) [.str x, .int k, .bool r] (fun u n' => u = .str (placedF x k r) ∧ n' = n) X := by
  wtm_at "enter"
  have h1 := sl_len x none (some k)
  have h2 := len_mul' (x := " ") (k := k - (Txt.slice x none (some k)).length) one_blank
  have h3 := szl
  wtm_at "go"
  all_goals first
    | exact one_blank
    | lia
    | (refine ⟨?_, rfl⟩; unfold placedF; simp_all)

theorem fn_channel_of {B : Nat} {ch : Int} {ms : List Str} {t : Addr} {us : List V} {Q : V → Led → Prop} (hlv : 4 < c.lv) (hh : c.A.handled = none) (R : Rep n a W) (G : Good B W) (ht : n t = some (.tup us)) (hu : us = ms.map .str)
    (h1 : ∀ r tx, Fd B W ch r tx → aget W.op ch = some r → aget W.files r.name = some tx → chOf W ch ms = .ok r → r.mode ∈ ms → Q (.ref (a.ra ch)) n) (h2 : ∀ k, chOf W ch ms = .error k → X k n) :
    Fn prog c n (.ref 63) [.ref a.wa, .int ch, .ref t] Q X := by
  subst hu
  wtm_at "enter"
  wtm_at "go"
  all_goals first
    | wtm_at "side"
    | (obtain ⟨tx, hF⟩ := G.found ‹aget W.op ch = some _›; exact h1 _ tx hF hF.get hF.file (by simp [chOf, *]) (by assumption))
    | exact h2 _ (by simp [chOf, *])
end

-- part G2
set_option maxHeartbeats 2000000
noncomputable def fnTab : List (Str × Addr) := [("check_name", 42), ("open_file", 49), ("is_written_elsewhere", 56), ("channel_of", 63), ("close_file", 70), ("kill_file", 75), ("rename_file", 80), ("write_text", 87), ("write_row", 94), ("rest_of", 101), ("go_past", 108), ("read_row", 115), ("read_signs", 122), ("file_ended", 129), ("place_of", 136), ("length_of", 143), ("set_fields", 148), ("field_text", 155), ("no_field", 162), ("placed", 169), ("set_placed", 176), ("record_told", 183), ("get_record", 190), ("put_record", 197), ("_law_cut", 226), ("_law_begun", 233), ("_law_asked", 240), ("_law_moved", 247), ("_law_deed", 254), ("_law_answers", 261), ("_law_joined", 268)]
noncomputable def fnAt (w : World) (f : Addr) : Bool := match (KK w).lookup f with
  | some o => (match o.data with | .func _ => true | _ => false)
  | none => false
set_option tactic.hygienic true in
theorem fnAt_of {w : World} {f : Addr} (h : fnAt w f = true) : isFnIn w f := by
  unfold fnAt at h
  split at h
  · rename_i o ho
    split at h
    · rename_i fd hd; exact ⟨o, fd, ho, hd⟩
    · cases h
  · cases h
theorem fnTab_ok (w : World) (p : Str × Addr) (hp : p ∈ fnTab) : GlobalIs w p.1 (.ref p.2) ∧ isFnIn w p.2 :=
  ⟨List.map_inj_left.mp (show fnTab.map (fun p => nsIn (KK w) mainGlobals p.1) = fnTab.map (fun p => some (some (.ref p.2))) by kernel_rfl) p hp,
   fnAt_of (List.all_eq_true.mp (show fnTab.all (fun p => fnAt w p.2) = true by kernel_rfl) p hp)⟩
noncomputable def glTab : List (Str × V × Value) := [("MOST_CHANNEL", .int 15, .int 15 225), ("MOST_NAME", .int 30, .int 30 227), ("MOST_SIZE", .int 255, .int 255 229), ("ROW_END", .str "\n", .str "\n" 231)]
theorem glTab_ok (w : World) : ∀ p ∈ glTab, GlobalIs w p.1 p.2.2 ∧ VIs p.2.1 p.2.2 := by
  simp only [glTab, List.forall_mem_cons]
  exact ⟨⟨by show nsIn _ _ _ = _; kernel_rfl, .int _ _⟩, ⟨by show nsIn _ _ _ = _; kernel_rfl, .int _ _⟩, ⟨by show nsIn _ _ _ = _; kernel_rfl, .int _ _⟩, ⟨by show nsIn _ _ _ = _; kernel_rfl, .str _ _⟩, fun _ h => nomatch h⟩
section
variable {prog : Program} {c c0 : Cx} {m : Loc} {n : Led} {X : Str → Led → Prop} {Q : V → Led → Prop} {pos : Pos} {sc : Scope} {cl : List (Str × Addr)} {x : Str}
theorem ev_fn {f : Addr} {np : Pos} {args : List Expr} (h : Es prog c m n (spliced (backTo pos (starEach args c.env))) (KFn prog c f Q X) X)
    (I : InFn c0 c sc cl := by assumption) (hk : sc.names.lookup x = some .globalImplicit := by with_unfolding_all rfl) (ht : fnTab.lookup x = some f := by with_unfolding_all rfl)
    (hp : (backTo pos (starEach args c.env)).any (·.1) = false := by with_unfolding_all rfl) (hd : (x == ("__debug__" : Str)) = false := by with_unfolding_all rfl) : Ev prog c m n (eval (.Call (.Name x np) args [] pos) c.env) Q X :=
  ev_call I.scope hk (fnTab_ok _ _ (mem_of_lookup ht)).1 (fnTab_ok _ _ (mem_of_lookup ht)).2 h hp hd
theorem ev_gl {u : V} {v : Value} (h : Q u n) (I : InFn c0 c sc cl := by assumption) (hk : sc.names.lookup x = some .globalImplicit := by with_unfolding_all rfl) (ht : glTab.lookup x = some (u, v) := by with_unfolding_all rfl)
    (hd : (x == ("__debug__" : Str)) = false := by with_unfolding_all rfl) : Ev prog c m n (eval (.Name x pos) c.env) Q X :=
  ev_global I.scope hk (glTab_ok _ _ (mem_of_lookup ht)).1 (glTab_ok c.w _ (mem_of_lookup ht)).2 h hd
end
noncomputable def strsOf : List V → Option (List Str)
  | [] => some []
  | .str s :: r => match strsOf r with | some l => some (s :: l) | none => none
  | _ => none
theorem strsOf_eq : ∀ {us : List V} {ms : List Str}, strsOf us = some ms → us = ms.map .str
  | [], _, h => by cases h; rfl
  | .str s :: r, _, h => by
    unfold strsOf at h
    split at h
    · rename_i l hl; cases h; rw [strsOf_eq hl]; rfl
    · cases h
section
variable {prog : Program} [ProgOk prog] {c : Cx} {n : Led} {X : Str → Led → Prop} {a : Ads} {W : WS}
theorem call_channel_of {B : Nat} {ch : Int} {ms : List Str} {t : Addr} {us : List V} {Q : V → Led → Prop} (hlv : 4 < c.lv) (hh : c.A.handled = none) (R : Rep n a W) (G : Good B W) (ht : n t = some (.tup us)) (hu : strsOf us = some ms)
    (h1 : ∀ r tx, Fd B W ch r tx → aget W.op ch = some r → aget W.files r.name = some tx → chOf W ch ms = .ok r → r.mode ∈ ms → Q (.ref (a.ra ch)) n) (h2 : ∀ k, chOf W ch ms = .error k → X k n) :
    Fn prog c n (.ref 63) [.ref a.wa, .int ch, .ref t] Q X := fn_channel_of hlv hh R G ht (strsOf_eq hu) h1 h2
end
local macro_rules | `(tactic| wtm_at "go1") => mac_go [("Ev.Call.4", "ev_fn/?"), ("Ev.Name.2", "ev_loc/? ev_gl/?"), ("Fn", "call_channel_of/ssaaar72")]
local macro_rules | `(tactic| wtm_at "chain") => do
  let as ← #[1, 2, 3, 4, 5].mapM fun k => do
    let t ← mac_chain ``Step.trans k
    `(tactic| exact $t)
  `(tactic| first | assumption | exact Rep.step (by assumption) $[| $as:tactic]* | fail)
theorem short (us : List V) (h : us.length ≤ 16 := by decide) : us.length ≤ sizeLine := by rw [szl]; lia
local macro_rules | `(tactic| wtm_at "num") => `(tactic| first
  | (have hz := szl
     have hb : BM = 4000000 := rfl
     obtain ⟨_, _, _, f1, f2, f3, f4, f5, f6, f7, f8⟩ := (by assumption : Fd _ _ _ _ _)
     obtain ⟨g1, g2, g3, _, _, _⟩ := (by assumption : Good _ _)
     lia)
  | (rw [szl]; simp only [List.length_cons, List.length_nil]; lia))

-- part U1
set_option maxHeartbeats 2000000
section
variable {prog : Program} {c : Cx} {m : Loc} {n : Led} {X : Str → Led → Prop} {N : Loc → Led → Prop} {R : V → Led → Prop}

theorem assignEach_names {env : Env} : ∀ names : List (Str × Pos), assignEach (names.map fun x => .Name x.1 x.2) env = names.map fun x => (false, assign (.Name x.1 x.2) env)
  | [] => rfl
  | x :: r => by
    have ih := assignEach_names (env := env) r
    rw [List.map_cons, List.map_cons, ← ih]
    rfl

/-- a tuple's items, for names -/
noncomputable def Tp (prog : Program) (c : Cx) (m : Loc) (n : Led) (v : V) (names : List Str) (P : List V → Prop) : Prop := ∃ t us, v = .ref t ∧ n t = some (.tup us) ∧ us.length = names.length ∧ P us

theorem bind_names {sc : Scope} (H : COk c) (hs : c.env.scope = sc) {E : Value → Shared → Prop} {us : List V} {xs : List Value} (hr : VRel us xs) : ∀ {Q : Unit → Shared → Prop} {ns : List Str} {m : Loc} {s : Shared} {fs : List (Value → Sem Unit)}, us.length = ns.length →
    (fs.length = ns.length) → (∀ (i : Nat) x f, ns[i]? = some x → fs[i]? = some f → sc.names.lookup x = some .local ∧ (f = (fun v => bindName c.env x v) ∨ ∃ p, f = assign (.Name x p) c.env)) → Sit prog c m n s → (∀ s', Sit prog c ((ns.zip us).reverse ++ m) n s' → Q () s') →
    wpAny (model prog c.w) c.A (assignInOrder fs xs) Q E s := by
  induction hr with
  | nil =>
    intro Q ns m s fs hl hl2 hf S h
    cases ns with
    | nil =>
      cases fs with
      | nil => exact wpAny_pure (h s S)
      | cons f fs => cases hl2
    | cons y ns => cases hl
  | @cons u x us xs hu hr ih =>
    intro Q ns m s fs hl hl2 hf S h
    cases ns with
    | nil => cases hl
    | cons y ns =>
      cases fs with
      | nil => cases hl2
      | cons f fs =>
        obtain ⟨hk, hfe⟩ := hf 0 y f rfl rfl
        have go : ∀ s', Sit prog c ((y, u) :: m) n s' → wpAny (model prog c.w) c.A (assignInOrder fs xs) Q E s' := fun s' S' =>
          ih (ns := ns) (fs := fs) (by simpa using hl) (by simpa using hl2) (fun i x f h1 h2 => hf (i + 1) x f (by simpa using h1) (by simpa using h2)) S' fun s'' S'' => h s'' (by simpa using S'')
        rw [show assignInOrder (f :: fs) (x :: xs) = (holding xs (f x) >>= fun _ => assignInOrder fs xs) from rfl]
        refine wpAny_bind (wpAny_holding ?_)
        rcases hfe with rfl | ⟨p, rfl⟩
        · exact wpAny_bindName (storeL H S hs hk hu fun s' S' => go s' S')
        · exact PyProof.Rows.assign_Name (storeL H S hs hk hu fun s' S' => go s' S')

theorem ex_swap {es ts : List Expr} {k k' : Nat} {p1 p2 pos : Pos} {names : List Str} {sc : Scope} (hs : c.env.scope = sc) (hk : ∀ x ∈ names, sc.names.lookup x = some .local) (hh : c.A.handled = none)
    (hw : swappedStores [.Tuple ts k p1] (.Tuple es k' p2) c.env = pure (some names))
    (h : Ev prog c m n (eval (.Tuple es k' p2) c.env) (fun v n' => Tp prog c m n' v names fun us => N (names.zip us ++ m) n') X) :
    Ex prog c m n (exec (.Assign [.Tuple ts k p1] (.Tuple es k' p2) pos) c.env) N R X := fun H s S => by
  refine Assign_Tuple_swapped (names := names) (wpAny_mono (h H s S) (fun v s1 ⟨n1, S1, u, hu, t, us, e, ht, hl, q⟩ => ?_) fun e s' q => ⟨m, q⟩) rfl hw
  subst e
  cases hu
  obtain ⟨ob, vs, g1, g2, _, g3⟩ := S1.tup ht
  have e1 : vs.size = names.length := by rw [← Array.length_toList, ← g3.length]; exact hl
  rw [← e1]
  refine wpAny_unpackItems_tuple hh g2 fun h' he => ?_
  have S2 : Sit prog c m n1 { s1 with heap := h' } := S1.grow fun b o hb => he b o (Nat.ne_of_lt (Heap.lt_size hb)) hb
  have rev : ∀ {us : List V} {xs : List Value}, VRel us xs → VRel us.reverse xs.reverse := by
    intro us xs hr
    induction hr with
    | nil => exact .nil
    | cons hv _ ih => rw [List.reverse_cons, List.reverse_cons]; exact ih.snoc hv
  refine bind_names H hs (ns := names.reverse) (us := us.reverse) (fs := names.reverse.map fun x => bindName c.env x) (rev g3) (by simpa using hl) (by simp) (fun i x f h1 h2 => ?_) S2 fun s' S' => ⟨_, n1, ?_, q⟩
  · rw [List.getElem?_map, h1] at h2
    cases h2
    exact ⟨hk x (by simpa using List.mem_of_getElem? h1), .inl rfl⟩
  · have : (names.reverse.zip us.reverse).reverse = names.zip us := by
      show (List.zipWith Prod.mk _ _).reverse = List.zipWith Prod.mk _ _
      rw [List.reverse_zipWith (by simp [hl]), List.reverse_reverse, List.reverse_reverse]
    rw [this] at S'; exact S'

theorem ex_unpack {e : Expr} {ts : List Expr} {k : Nat} {p1 pos : Pos} {names : List (Str × Pos)} {sc : Scope} (hs : c.env.scope = sc) (hts : ts = names.map fun x => .Name x.1 x.2) (hk : ∀ x ∈ names, sc.names.lookup x.1 = some .local) (hh : c.A.handled = none)
    (h : Ev prog c m n (eval e c.env) (fun v n' => Tp prog c m n' v (names.map (·.1)) fun us => N (((names.map (·.1)).zip us).reverse ++ m) n') X)
    (hsw : swapsWithSole [.Tuple ts k p1] e pos.line c.env = pure false) (hw : swappedStores [.Tuple ts k p1] e c.env = pure none) :
    Ex prog c m n (exec (.Assign [.Tuple ts k p1] e pos) c.env) N R X := fun H s S => by
  refine Assign_Tuple (wpAny_mono (h H s S) (fun v s1 ⟨n1, S1, u, hu, t, us, e, ht, hl, q⟩ => ?_) fun e s' q => ⟨m, q⟩) hsw hw
  subst e
  cases hu
  obtain ⟨ob, vs, g1, g2, _, g3⟩ := S1.tup ht
  have ae : assignEach ts c.env = names.map fun x => (false, assign (.Name x.1 x.2) c.env) := by
    rw [hts]; exact assignEach_names names
  refine wpAny_assign_Tuple hh g2 (by rw [ae, List.length_map, ← Array.length_toList, ← g3.length]; simpa using hl.symm) (by rw [ae, List.findIdx?_map]; exact List.findIdx?_eq_none_iff.mpr fun _ _ => rfl) fun h' he => ?_
  have S2 : Sit prog c m n1 { s1 with heap := h' } := S1.grow fun b o hb => he b o (Nat.ne_of_lt (Heap.lt_size hb)) hb
  rw [ae, List.map_map]
  refine bind_names H hs (ns := names.map (·.1)) (us := us) (fs := names.map _) g3 hl (by simp) (fun i x f h1 h2 => ?_) S2 fun s' S' => ⟨_, n1, S', q⟩
  rw [List.getElem?_map] at h1 h2
  cases hi : names[i]? with
  | none => rw [hi] at h1; cases h1
  | some y =>
    rw [hi] at h1 h2; cases h1; cases h2
    exact ⟨hk y (List.mem_of_getElem? hi), .inr ⟨y.2, rfl⟩⟩
end

-- part U2
set_option maxHeartbeats 2000000
local macro_rules | `(tactic| wtm_at "swp") => `(tactic| (
  intro env h
  cases env
  subst h
  rfl))
section
variable {prog : Program} {c : Cx} {m : Loc} {n : Led} {X : Str → Led → Prop} {N : Loc → Led → Prop} {R : V → Led → Prop} {a : Ads} {W : WS}
theorem ex_swapS {es ts : List Expr} {k k' : Nat} {p1 p2 pos : Pos} {names : List Str} {sc : Scope} (hs : c.env.scope = sc) (hw : ∀ env : Env, env.scope = sc → swappedStores [.Tuple ts k p1] (.Tuple es k' p2) env = pure (some names)) (hk : names.all (fun x => sc.names.lookup x == some .local) = true) (hh : c.A.handled = none)
    (h : Ev prog c m n (eval (.Tuple es k' p2) c.env) (fun v n' => Tp prog c m n' v names fun us => N (names.zip us ++ m) n') X) :
    Ex prog c m n (exec (.Assign [.Tuple ts k p1] (.Tuple es k' p2) pos) c.env) N R X :=
  ex_swap hs (fun x hx => by have := List.all_eq_true.mp hk x hx; simpa using this) hh (hw _ hs) h
theorem ex_unpackS {e : Expr} {ts : List Expr} {k : Nat} {p1 pos : Pos} {names : List (Str × Pos)} {sc : Scope} (hs : c.env.scope = sc) (hts : ts = names.map fun x => .Name x.1 x.2) (hw : ∀ env : Env, env.scope = sc → swappedStores [.Tuple ts k p1] e env = pure none)
    (hsw : ∀ env : Env, env.scope = sc → swapsWithSole [.Tuple ts k p1] e pos.line env = pure false) (hk : names.all (fun x => sc.names.lookup x.1 == some .local) = true) (hh : c.A.handled = none)
    (h : Ev prog c m n (eval e c.env) (fun v n' => Tp prog c m n' v (names.map (·.1)) fun us => N (((names.map (·.1)).zip us).reverse ++ m) n') X) :
    Ex prog c m n (exec (.Assign [.Tuple ts k p1] e pos) c.env) N R X :=
  ex_unpack hs hts (fun x hx => by have := List.all_eq_true.mp hk x hx; simpa using this) hh h (hsw _ hs) (hw _ hs)
theorem ex_unpack3 {e : Expr} {x1 x2 x3 : Str} {q1 q2 q3 : Pos} {k : Nat} {p1 pos : Pos} {sc : Scope} (hs : c.env.scope = sc) (hw : ∀ env : Env, env.scope = sc → swappedStores [.Tuple [.Name x1 q1, .Name x2 q2, .Name x3 q3] k p1] e env = pure none)
    (hsw : ∀ env : Env, env.scope = sc → swapsWithSole [.Tuple [.Name x1 q1, .Name x2 q2, .Name x3 q3] k p1] e pos.line env = pure false) (hk : [x1, x2, x3].all (fun x => sc.names.lookup x == some .local) = true) (hh : c.A.handled = none)
    (h : Ev prog c m n (eval e c.env) (fun v n' => Tp prog c m n' v [x1, x2, x3] fun us => N (([x1, x2, x3].zip us).reverse ++ m) n') X) :
    Ex prog c m n (exec (.Assign [.Tuple [.Name x1 q1, .Name x2 q2, .Name x3 q3] k p1] e pos) c.env) N R X :=
  ex_unpackS (names := [(x1, q1), (x2, q2), (x3, q3)]) hs rfl hw hsw (by simpa using hk) hh h
theorem ex_swap3 {es : List Expr} {x1 x2 x3 : Str} {q1 q2 q3 : Pos} {k k' : Nat} {p1 p2 pos : Pos} {sc : Scope} (hs : c.env.scope = sc) (hw : ∀ env : Env, env.scope = sc → swappedStores [.Tuple [.Name x1 q1, .Name x2 q2, .Name x3 q3] k p1] (.Tuple es k' p2) env = pure (some [x1, x2, x3]))
    (hk : [x1, x2, x3].all (fun x => sc.names.lookup x == some .local) = true) (hh : c.A.handled = none)
    (h : Ev prog c m n (eval (.Tuple es k' p2) c.env) (fun v n' => Tp prog c m n' v [x1, x2, x3] fun us => N ([x1, x2, x3].zip us ++ m) n') X) :
    Ex prog c m n (exec (.Assign [.Tuple [.Name x1 q1, .Name x2 q2, .Name x3 q3] k p1] (.Tuple es k' p2) pos) c.env) N R X := ex_swapS hs hw hk hh h
theorem ex_swap2 {es : List Expr} {x1 x2 : Str} {q1 q2 : Pos} {k k' : Nat} {p1 p2 pos : Pos} {sc : Scope} (hs : c.env.scope = sc) (hw : ∀ env : Env, env.scope = sc → swappedStores [.Tuple [.Name x1 q1, .Name x2 q2] k p1] (.Tuple es k' p2) env = pure (some [x1, x2]))
    (hk : [x1, x2].all (fun x => sc.names.lookup x == some .local) = true) (hh : c.A.handled = none)
    (h : Ev prog c m n (eval (.Tuple es k' p2) c.env) (fun v n' => Tp prog c m n' v [x1, x2] fun us => N ([x1, x2].zip us ++ m) n') X) :
    Ex prog c m n (exec (.Assign [.Tuple [.Name x1 q1, .Name x2 q2] k p1] (.Tuple es k' p2) pos) c.env) N R X := ex_swapS hs hw hk hh h
theorem ex_sw3 {c0 : Cx} {cl : List (Str × Addr)} {es : List Expr} {x1 x2 x3 : Str} {q1 q2 q3 : Pos} {k k' : Nat} {p1 p2 pos : Pos} {sc : Scope} (h : Ev prog c m n (eval (.Tuple es k' p2) c.env) (fun v n' => Tp prog c m n' v [x1, x2, x3] fun us => N ([x1, x2, x3].zip us ++ m) n') X)
    (I : InFn c0 c sc cl := by assumption) (hw : ∀ env : Env, env.scope = sc → swappedStores [.Tuple [.Name x1 q1, .Name x2 q2, .Name x3 q3] k p1] (.Tuple es k' p2) env = pure (some [x1, x2, x3]) := by with_unfolding_all wtm_at "swp")
    (hk : [x1, x2, x3].all (fun x => sc.names.lookup x == some .local) = true := by with_unfolding_all rfl) (hh : c.A.handled = none := by with_unfolding_all wtm_at "side") :
    Ex prog c m n (exec (.Assign [.Tuple [.Name x1 q1, .Name x2 q2, .Name x3 q3] k p1] (.Tuple es k' p2) pos) c.env) N R X := ex_swap3 I.scope hw hk hh h
theorem ex_sw2 {c0 : Cx} {cl : List (Str × Addr)} {es : List Expr} {x1 x2 : Str} {q1 q2 : Pos} {k k' : Nat} {p1 p2 pos : Pos} {sc : Scope} (h : Ev prog c m n (eval (.Tuple es k' p2) c.env) (fun v n' => Tp prog c m n' v [x1, x2] fun us => N ([x1, x2].zip us ++ m) n') X)
    (I : InFn c0 c sc cl := by assumption) (hw : ∀ env : Env, env.scope = sc → swappedStores [.Tuple [.Name x1 q1, .Name x2 q2] k p1] (.Tuple es k' p2) env = pure (some [x1, x2]) := by with_unfolding_all wtm_at "swp")
    (hk : [x1, x2].all (fun x => sc.names.lookup x == some .local) = true := by with_unfolding_all rfl) (hh : c.A.handled = none := by with_unfolding_all wtm_at "side") :
    Ex prog c m n (exec (.Assign [.Tuple [.Name x1 q1, .Name x2 q2] k p1] (.Tuple es k' p2) pos) c.env) N R X := ex_swap2 I.scope hw hk hh h
theorem ex_un3 {c0 : Cx} {cl : List (Str × Addr)} {e : Expr} {x1 x2 x3 : Str} {q1 q2 q3 : Pos} {k : Nat} {p1 pos : Pos} {sc : Scope} (h : Ev prog c m n (eval e c.env) (fun v n' => Tp prog c m n' v [x1, x2, x3] fun us => N (([x1, x2, x3].zip us).reverse ++ m) n') X)
    (I : InFn c0 c sc cl := by assumption) (hw : ∀ env : Env, env.scope = sc → swappedStores [.Tuple [.Name x1 q1, .Name x2 q2, .Name x3 q3] k p1] e env = pure none := by with_unfolding_all wtm_at "swp")
    (hsw : ∀ env : Env, env.scope = sc → swapsWithSole [.Tuple [.Name x1 q1, .Name x2 q2, .Name x3 q3] k p1] e pos.line env = pure false := by with_unfolding_all wtm_at "swp")
    (hk : [x1, x2, x3].all (fun x => sc.names.lookup x == some .local) = true := by with_unfolding_all rfl) (hh : c.A.handled = none := by with_unfolding_all wtm_at "side") :
    Ex prog c m n (exec (.Assign [.Tuple [.Name x1 q1, .Name x2 q2, .Name x3 q3] k p1] e pos) c.env) N R X := ex_unpack3 I.scope hw hsw hk hh h
theorem tp_tup {t : Addr} {us : List V} {names : List Str} {P : List V → Prop} (ht : n t = some (.tup us)) (hl : us.length = names.length) (h : P us) : Tp prog c m n (.ref t) names P := ⟨t, us, rfl, ht, hl, h⟩
theorem tp_field {nm : Str} {p : Pt3} {names : List Str} {P : List V → Prop} (R : Rep n a W) (hp : aget W.fields nm = some p) (hl : names.length = 3) (h : P (ptE p)) : Tp prog c m n (.ref (a.ta nm)) names P := ⟨_, _, rfl, R.tups _ _ hp, hl.symm, h⟩
noncomputable def KSlS (prog : Program) (c : Cx) (m : Loc) (l u : Option Expr) (Q : V → Led → Prop) (X : Str → Led → Prop) (o : V) (n : Led) : Prop := ∃ y, o = .str y ∧ Pt prog c m n l (KSl1 prog c m u (.str y) Q X) X
theorem ksl {Q : V → Led → Prop} {l u : Option Expr} {y : Str} (h : Pt prog c m n l (KSl1 prog c m u (.str y) Q X) X) : KSlS prog c m l u Q X (.str y) n := ⟨y, rfl, h⟩
set_option tactic.hygienic true in
theorem ev_slice_s {Q : V → Led → Prop} {pos : Pos} {e : Expr} {l u : Option Expr} {p : Pos} (h : Ev prog c m n (eval e c.env) (KSlS prog c m l u Q X) X) :
    Ev prog c m n (eval (.Subscript e (.Slice l u none p) pos) c.env) Q X := by
  have ht : ∀ (y : Str) (t : Tok) r, letTemporaryGo e (.str y t) r = pure () := by intro y t r; cases e <;> rfl
  show Wp prog c m n (eval e c.env >>= fun o => holding [o] (valueOrNone (evalOpt l c.env) >>= fun lv => holding [lv] (valueOrNone (evalOpt u c.env)) >>= fun uv => (holding [lv, uv] (valueOrNone none) >>= fun sv => newFields "slice" [lv, uv, sv])) >>=
    fun i => (standAt pos >>= fun _ => subscriptTail e (.Slice l u none p) o i)) _ X
  refine Ev.bind (Ev.mono h (fun o n' ⟨y, hy, h'⟩ x hx => ?_) fun _ _ x => x)
  subst hy
  cases hx
  rename_i tk
  intro H s S
  refine wpAny_bind (wpAny_holding (wpAny_bind (wpAny_mono (wp_part h' H s S) (fun lx s1 ⟨n1, S1, li, hl, q1⟩ => ?_) fun _ _ x => x)))
  refine wpAny_bind (wpAny_holding (wpAny_mono (wp_part q1 H s1 S1) (fun ux s2 ⟨n2, S2, ui, hu, q2⟩ => ?_) fun _ _ x => x))
  refine wpAny_bind (wpAny_holding (wpAny_pure ?_))
  unfold newFields
  refine wpAny_newObj_type ?_ (by show [lx, ux, Value.none].toArray.size ≤ sizeLine + 2; simp; decide)
  refine wpAny_bind (wpAny_standAt ?_)
  refine wpAny_mono (q2 _ lx ux e (.Slice l u none p) (.str y tk) hl hu (fun i => rfl) (ht y tk) H s2 S2) (fun x s' ⟨u, n', a, b, d⟩ => ⟨n', b, u, a, d⟩) fun _ _ x => x
noncomputable def optV : Option Int → V
  | none => .none
  | some i => .int i
theorem mulok {a b : Int} (h0 : 0 ≤ a) (h1 : a ≤ 16000000) (h2 : 0 ≤ b) (h3 : b ≤ 16000000) : IntMulOk a b := by
  have ha : PySem.Builtin.Int.intBits a ≤ 64 := by rw [show a = ((a.toNat : Nat) : Int) by lia]; exact intBits_cast_le (by rw [szl]; lia)
  have hb : PySem.Builtin.Int.intBits b ≤ 64 := by rw [show b = ((b.toNat : Nat) : Int) by lia]; exact intBits_cast_le (by rw [szl]; lia)
  exact IntMulOk.of_le (m := 64) (n := 64) ha hb (by decide)
end
local macro_rules | `(tactic| wtm_at "go1") => mac_go [("Ev.Subscript.3", "ev_slice_s/?"), ("Ex.Assign.3", "ex_sw3/? ex_sw2/? ex_un3/?"), ("Tp", "tp_tup/ar? tp_field/aar?"), ("", "ksl/?")]
local macro_rules | `(tactic| wtm_at "off") => `(tactic| first
  | exact absurd rfl (by assumption : ¬ (V.none = V.none))
  | exact absurd (by assumption : false = true) (by decide)
  | exact absurd (by assumption : V.int _ = V.none) (fun q => nomatch q)
  | contradiction)

-- part G4
set_option maxHeartbeats 2000000
section
variable {prog : Program} [ProgOk prog] {c : Cx} {n : Led} {X : Str → Led → Prop} {a : Ads} {W : WS} {Q : V → Led → Prop}

theorem fn_record_told {B : Nat} {ch : Int} {num : Option Int} {r : Rc} {t : Str} (hlv : 6 < c.lv) (hh : c.A.handled = none) (R : Rep n a W) (F : Fd B W ch r t)
    (h1 : ∀ k, toldP r num = .ok k → 1 ≤ k → k ≤ 32767 → Q (.int k) n) (h2 : ∀ e, toldP r num = .error e → X e n) :
    Fn prog c n (.ref 183) [.ref (a.ra ch), optV num] Q X := by
  have hg := F.get
  cases num with
  | none =>
    show Fn prog c n (.ref 183) [.ref (a.ra ch), .none] Q X
    wtm_at "enter"
    wtm_at "go"
    all_goals first
      | wtm_at "off"
      | wtm_at "side"
      | exact h1 _ (by simp [toldP, *]; done) (by lia) (by lia)
      | exact h2 _ (by simp [toldP, *]; done)
      | exact h2 _ (by simp [toldP]; lia)
  | some i =>
    show Fn prog c n (.ref 183) [.ref (a.ra ch), .int i] Q X
    wtm_at "enter"
    wtm_at "go"
    all_goals first
      | wtm_at "off"
      | wtm_at "side"
      | exact h1 _ (by simp [toldP, *]; done) (by lia) (by lia)
      | exact h2 _ (by simp [toldP, *]; done)
      | exact h2 _ (by simp [toldP]; lia)
end

-- part G5
set_option maxHeartbeats 2000000
section
variable {prog : Program} [ProgOk prog] {c : Cx} {n : Led} {X : Str → Led → Prop} {a : Ads} {W : WS} {Q : V → Led → Prop}

theorem fn_write_text {B : Nat} {ch : Int} {t : Str} (hlv : 6 < c.lv) (hh : c.A.handled = none) (R : Rep n a W) (G : Good B W) (hB : B ≤ BM) (htl : t.length ≤ 100)
    (h1 : ∀ n' W', Rep n' a W' → Step n a W n' a W' → writeP W ch t = .ok W' → Q .none n') (h2 : ∀ k n', Rep n' a W → Step n a W n' a W → writeP W ch t = .error k → X k n') :
    Fn prog c n (.ref 87) [.ref a.wa, .int ch, .str t] Q X := by
  wtm_at "enter"
  wtm_at "go"
  all_goals first
    | exact h1 _ _ (by assumption) (by wtm_at "chain") (by simp [writeP, ‹chOf _ _ _ = _›, (‹Fd _ _ _ _ _›).txt, bind, Except.bind, pure, Except.pure]; done)
    | exact h2 _ _ (by assumption) (by wtm_at "chain") (by simp [writeP, ‹chOf _ _ _ = _›, bind, Except.bind, pure, Except.pure]; done)
    | wtm_at "num"

theorem fn_write_row {B : Nat} {ch : Int} {t : Str} (hlv : 7 < c.lv) (hh : c.A.handled = none) (R : Rep n a W) (G : Good B W) (hB : B ≤ BM) (htl : t.length ≤ 50)
    (h1 : ∀ n' W', Rep n' a W' → Step n a W n' a W' → writeP W ch (t ++ "\n") = .ok W' → Q .none n') (h2 : ∀ k n', Rep n' a W → Step n a W n' a W → writeP W ch (t ++ "\n") = .error k → X k n') :
    Fn prog c n (.ref 94) [.ref a.wa, .int ch, .str t] Q X := by
  have e1 : (t ++ "\n").length = t.length + 1 := by rw [len_append]; rfl
  have e2 : ("\n" : Str).length = 1 := rfl
  wtm_at "enter"
  wtm_at "go"
  · rw [e2, szl]; lia
  · exact fn_write_text (by wtm_at "side") (by wtm_at "side") R G hB (by rw [e1]; lia) (fun n' W' a b d => by wtm_at "go"; exact h1 n' W' a b d) h2

theorem fn_rest_of {B : Nat} {ch : Int} (hlv : 6 < c.lv) (hh : c.A.handled = none) (R : Rep n a W) (G : Good B W) (hB : B ≤ BM)
    (h1 : ∀ n' l r t, Fd B W ch r t → Rep n' a W → Step n a W n' a W → restP W ch = .ok l → chOf W ch ["I"] = .ok r → l.length ≤ B → Q (.str l) n') (h2 : ∀ k n', Rep n' a W → Step n a W n' a W → restP W ch = .error k → X k n') :
    Fn prog c n (.ref 101) [.ref a.wa, .int ch] Q X := by
  wtm_at "enter"
  wtm_at "go"
  all_goals first
    | exact h1 _ _ _ _ (by assumption) (by assumption) (by wtm_at "chain") (by simp [restP, ‹chOf _ _ _ = _›, (‹Fd _ _ _ _ _›).txt, bind, Except.bind, pure, Except.pure]; done) (by assumption) (Nat.le_trans (sl_len _ _ _) (‹Fd _ _ _ _ _›).tl)
    | exact h2 _ _ (by assumption) (by wtm_at "chain") (by simp [restP, ‹chOf _ _ _ = _›, bind, Except.bind, pure, Except.pure]; done)
    | wtm_at "num"

theorem fn_go_past {B : Nat} {ch many : Int} (hlv : 6 < c.lv) (hh : c.A.handled = none) (R : Rep n a W) (G : Good B W) (hB : B ≤ BM)
    (h1 : ∀ n' W', Rep n' a W' → Step n a W n' a W' → pastP W ch many = .ok W' → Q .none n') (h2 : ∀ k n', Rep n' a W → Step n a W n' a W → pastP W ch many = .error k → X k n') :
    Fn prog c n (.ref 108) [.ref a.wa, .int ch, .int many] Q X := by
  wtm_at "enter"
  wtm_at "go"
  all_goals first
    | wtm_at "side"
    | exact h1 _ _ (by assumption) (by wtm_at "chain") (by simp [pastP, ‹chOf _ _ _ = _›, (‹Fd _ _ _ _ _›).txt, bind, Except.bind, pure, Except.pure]; done)
    | exact h2 _ _ (by assumption) (by wtm_at "chain") (by simp [pastP, ‹chOf _ _ _ = _›, bind, Except.bind, pure, Except.pure]; done)
    | wtm_at "num"
end

-- part G6
set_option maxHeartbeats 2000000
local macro_rules | `(tactic| wtm_at "go1") => mac_go [("Fn", "fn_rest_of fn_go_past fn_record_told")]
section
variable {prog : Program} [ProgOk prog] {c : Cx} {n : Led} {X : Str → Led → Prop} {a : Ads} {W : WS} {Q : V → Led → Prop}

theorem fn_read_row {B : Nat} {ch : Int} (hlv : 8 < c.lv) (hh : c.A.handled = none) (R : Rep n a W) (G : Good B W) (hB : B ≤ BM)
    (h1 : ∀ n' l W', Rep n' a W' → Step n a W n' a W' → readRowP W ch = .ok (l, W') → Q (.str l) n') (h2 : ∀ k n', Rep n' a W → Step n a W n' a W → readRowP W ch = .error k → X k n') :
    Fn prog c n (.ref 115) [.ref a.wa, .int ch] Q X := by
  wtm_at "enter"
  wtm_at "go"
  all_goals first
    | wtm_at "off"
    | wtm_at "side"
    | exact h1 _ _ _ (by assumption) (by wtm_at "chain") (by simp [readRowP, rowOf, *, bind, Except.bind, pure, Except.pure]; done)
    | exact h2 _ _ (by assumption) (by wtm_at "chain") (by simp [readRowP, rowOf, *, bind, Except.bind, pure, Except.pure]; done)
    | wtm_at "num"
    | exact Nat.le_trans (sl_len _ _ _) (by wtm_at "num")
    | (obtain ⟨_, _, _, f1, f2, f3, f4, f5, f6, f7, f8⟩ := (by assumption : Fd _ _ _ _ _); exact mulok (by lia) (by lia) (by lia) (by lia))

theorem fn_read_signs {B : Nat} {ch many : Int} (hlv : 8 < c.lv) (hh : c.A.handled = none) (R : Rep n a W) (G : Good B W) (hB : B ≤ BM)
    (h1 : ∀ n' l W', Rep n' a W' → Step n a W n' a W' → readSignsP W ch many = .ok (l, W') → Q (.str l) n') (h2 : ∀ k n', Rep n' a W → Step n a W n' a W → readSignsP W ch many = .error k → X k n') :
    Fn prog c n (.ref 122) [.ref a.wa, .int ch, .int many] Q X := by
  wtm_at "enter"
  wtm_at "go"
  all_goals first
    | wtm_at "off"
    | wtm_at "side"
    | exact h1 _ _ _ (by assumption) (by wtm_at "chain") (by simp [readSignsP, *, bind, Except.bind, pure, Except.pure]; done)
    | exact h2 _ _ (by assumption) (by wtm_at "chain") (by simp [readSignsP, *, bind, Except.bind, pure, Except.pure]; done)
    | wtm_at "num"
    | exact Nat.le_trans (sl_len _ _ _) (by wtm_at "num")
    | (obtain ⟨_, _, _, f1, f2, f3, f4, f5, f6, f7, f8⟩ := (by assumption : Fd _ _ _ _ _); exact mulok (by lia) (by lia) (by lia) (by lia))

theorem fn_file_ended {B : Nat} {ch : Int} (hlv : 8 < c.lv) (hh : c.A.handled = none) (R : Rep n a W) (G : Good B W) (hB : B ≤ BM)
    (h1 : ∀ n' b, Rep n' a W → Step n a W n' a W → endedP W ch = .ok b → Q (.bool b) n') (h2 : ∀ k n', Rep n' a W → Step n a W n' a W → endedP W ch = .error k → X k n') :
    Fn prog c n (.ref 129) [.ref a.wa, .int ch] Q X := by
  wtm_at "enter"
  wtm_at "go"
  all_goals first
    | wtm_at "off"
    | wtm_at "side"
    | exact h1 _ _ (by assumption) (by wtm_at "chain") (by simp [endedP, (‹Fd _ _ _ _ _›).txt, *, bind, Except.bind, pure, Except.pure]; done)
    | exact h2 _ _ (by assumption) (by wtm_at "chain") (by simp [endedP, *, bind, Except.bind, pure, Except.pure]; done)
    | wtm_at "num"
    | exact Nat.le_trans (sl_len _ _ _) (by wtm_at "num")
    | (obtain ⟨_, _, _, f1, f2, f3, f4, f5, f6, f7, f8⟩ := (by assumption : Fd _ _ _ _ _); exact mulok (by lia) (by lia) (by lia) (by lia))

theorem fn_place_of {B : Nat} {ch : Int} (hlv : 8 < c.lv) (hh : c.A.handled = none) (R : Rep n a W) (G : Good B W) (hB : B ≤ BM)
    (h1 : ∀ n' i, Rep n' a W → Step n a W n' a W → placeP W ch = .ok i → Q (.int i) n') (h2 : ∀ k n', Rep n' a W → Step n a W n' a W → placeP W ch = .error k → X k n') :
    Fn prog c n (.ref 136) [.ref a.wa, .int ch] Q X := by
  wtm_at "enter"
  wtm_at "go"
  all_goals first
    | wtm_at "off"
    | wtm_at "side"
    | exact h1 _ _ (by assumption) (by wtm_at "chain") (by simp [placeP, *, bind, Except.bind, pure, Except.pure]; done)
    | exact h2 _ _ (by assumption) (by wtm_at "chain") (by simp [placeP, *, bind, Except.bind, pure, Except.pure]; done)
    | wtm_at "num"
    | exact Nat.le_trans (sl_len _ _ _) (by wtm_at "num")
    | (obtain ⟨_, _, _, f1, f2, f3, f4, f5, f6, f7, f8⟩ := (by assumption : Fd _ _ _ _ _); exact mulok (by lia) (by lia) (by lia) (by lia))

theorem fn_length_of {B : Nat} {ch : Int} (hlv : 8 < c.lv) (hh : c.A.handled = none) (R : Rep n a W) (G : Good B W) (hB : B ≤ BM)
    (h1 : ∀ n' i, Rep n' a W → Step n a W n' a W → lengthP W ch = .ok i → Q (.int i) n') (h2 : ∀ k n', Rep n' a W → Step n a W n' a W → lengthP W ch = .error k → X k n') :
    Fn prog c n (.ref 143) [.ref a.wa, .int ch] Q X := by
  wtm_at "enter"
  wtm_at "go"
  all_goals first
    | wtm_at "off"
    | wtm_at "side"
    | exact h1 _ _ (by assumption) (by wtm_at "chain") (by simp [lengthP, (‹Fd _ _ _ _ _›).txt, *, bind, Except.bind, pure, Except.pure]; done)
    | exact h2 _ _ (by assumption) (by wtm_at "chain") (by simp [lengthP, *, bind, Except.bind, pure, Except.pure]; done)
    | wtm_at "num"
    | exact Nat.le_trans (sl_len _ _ _) (by wtm_at "num")
    | (obtain ⟨_, _, _, f1, f2, f3, f4, f5, f6, f7, f8⟩ := (by assumption : Fd _ _ _ _ _); exact mulok (by lia) (by lia) (by lia) (by lia))

end

-- part G7
set_option maxHeartbeats 2000000
noncomputable def optS : Option Str → V
  | none => .none
  | some s => .str s
theorem placed_len (x : Str) (k : Int) (r : Bool) (hk : k ≤ 100) : (placedF x k r).length ≤ x.length + 100 := by
  have h1 := sl_len x none (some k)
  have h2 := len_mul' (x := " ") (k := k - (Txt.slice x none (some k)).length) one_blank
  unfold placedF
  simp only
  split <;> rw [len_append] <;> lia
section
variable {prog : Program} [ProgOk prog] {c : Cx} {n : Led} {X : Str → Led → Prop} {a : Ads} {W : WS} {Q : V → Led → Prop}

theorem fn_placed' {x : Str} {k : Int} {r : Bool} (hlv : 0 < c.lv) (hx : x.length ≤ 100) (hk : k ≤ 100) (hk' : -100 ≤ k) (h : Q (.str (placedF x k r)) n) : Fn prog c n (.ref 169) [.str x, .int k, .bool r] Q X :=
  Fn.mono (fn_placed (X := X) hlv hx hk hk') (fun u n' ⟨e, e'⟩ => by rw [e, e']; exact h) fun _ _ q => q

theorem fn_field_text {B : Nat} {nm : Str} (hlv : 8 < c.lv) (hh : c.A.handled = none) (R : Rep n a W) (G : Good B W) (hB : B ≤ BM)
    (h1 : ∀ v, v = optS (fieldP W nm) → Q v n) : Fn prog c n (.ref 155) [.ref a.wa, .str nm] Q X := by
  wtm_at "enter"
  wtm_at "go"
  · obtain ⟨⟨r, hr⟩, b1, b2, b3, b4⟩ := G.fd _ _ (by assumption)
    obtain ⟨t, hF⟩ := G.found hr
    wtm_at "go"
    all_goals first
      | wtm_at "num"
      | (apply h1; simp [fieldP, *, optS]; done)
  · apply h1; simp [fieldP, *, optS]; done

theorem fn_no_field {B : Nat} {nm : Str} (hlv : 8 < c.lv) (hh : c.A.handled = none) (R : Rep n a W) (hn : aget W.fields nm = none)
    (h1 : Q .none n) : Fn prog c n (.ref 162) [.ref a.wa, .str nm] Q X := by
  wtm_at "enter"
  wtm_at "go"
  all_goals first
    | exact h1
    | (exfalso; simp_all; done)

theorem fn_set_placed {B : Nat} {nm t : Str} {right : Bool} {p : Pt3} (hlv : 8 < c.lv) (hh : c.A.handled = none) (R : Rep n a W) (G : Good B W) (hB : B ≤ BM) (hp : aget W.fields nm = some p) (ht : t.length ≤ 100)
    (h1 : ∀ n', Rep n' a (setPlacedP W nm t right) → Step n a W n' a (setPlacedP W nm t right) → Q .none n') : Fn prog c n (.ref 176) [.ref a.wa, .str nm, .str t, .bool right] Q X := by
  obtain ⟨⟨r, hr⟩, b1, b2, b3, b4⟩ := G.fd _ _ hp
  obtain ⟨tx, hF⟩ := G.found hr
  have e : setPlacedP W nm t right = setR W p.ch { r with buf := Txt.slice r.buf none (some p.at_) ++ placedF t p.many right ++ Txt.slice r.buf (some (p.at_ + p.many)) none } := by
    unfold setPlacedP; simp only [hp, hr]
  rw [e] at h1
  have l1 := placed_len t p.many right (by lia)
  have l2 := sl_len r.buf none (some p.at_)
  have l3 := sl_len r.buf (some (p.at_ + p.many)) none
  have l4 := hF.bl
  wtm_at "enter"
  wtm_at "go"
  · wtm_at "num"
  refine fn_placed' (by wtm_at "side") ht (by lia) (by lia) ?_
  wtm_at "go"
  · wtm_at "num"
  · wtm_at "num"
  · rw [len_append]; wtm_at "num"
  · exact h1 _ (by assumption) (by assumption)
end

-- part G8
set_option maxHeartbeats 2000000
theorem aput_aput {K α : Type} [DecidableEq K] (es : List (K × α)) (k : K) (v v' : α) : aput (aput es k v) k v' = aput es k v' := by
  have h : (aput es k v).any (fun kv => kv.1 = k) = true := by rw [any_isSome, aget_aput, if_pos rfl]; rfl
  have e : aput (aput es k v) k v' = (aput es k v).map (fun kv => if kv.1 = k then (kv.1, v') else kv) := by
    show (if (aput es k v).any (fun kv => kv.1 = k) then _ else _) = _
    rw [h, if_pos rfl]
  rw [e]
  unfold aput
  split
  · rw [List.map_map]
    refine List.map_congr_left fun kv _ => ?_
    simp only [Function.comp]
    by_cases e : kv.1 = k <;> simp [e]
  · rename_i q
    rw [List.map_append]
    congr 1
    · conv => rhs; rw [← List.map_id es]
      exact List.map_congr_left fun kv hk => if_neg fun e => q (List.any_eq_true.mpr ⟨kv, hk, by simpa using e⟩)
    · simp
theorem setR_setR (W : WS) (ch : Int) (r r' : Rc) : setR (setR W ch r) ch r' = setR W ch r' := by
  unfold setR; simp only [aput_aput]
theorem st_record2 {prog : Program} {c : Cx} {m : Loc} {n : Led} {X : Str → Led → Prop} {a : Ads} {W : WS} {P : Led → Prop} {ch : Int} {r r0 : Rc} {i : Int} (R : Rep n a (setR W ch r)) (hr : aget W.op ch = some r0)
    (h : ∀ n', Rep n' a (setR W ch { r with no := i }) → Step n a (setR W ch r) n' a (setR W ch { r with no := i }) → P n') : St prog c m n (.ref (a.ra ch)) (.str "record") (.int i) P X :=
  st_record' R (get_setR hr) fun n' R' S' => h n' (by rw [setR_setR] at R'; exact R') (by rw [setR_setR] at S'; exact S')
local macro_rules | `(tactic| wtm_at "go1") => mac_go [("St", "st_record2/aa3")]
section
variable {prog : Program} [ProgOk prog] {c : Cx} {n : Led} {X : Str → Led → Prop} {a : Ads} {W : WS} {Q : V → Led → Prop}

theorem prod_le {k s : Int} (h1 : 1 ≤ k) (h2 : k ≤ 32767) (h3 : 0 ≤ s) (h4 : s ≤ 7) : 0 ≤ (k - 1) * s ∧ (k - 1) * s ≤ 32766 * 7 := by
  refine ⟨Int.mul_nonneg (by lia) h3, ?_⟩
  exact Int.mul_le_mul (by lia) h4 h3 (by lia)

theorem fn_get_record {B : Nat} {ch : Int} {num : Option Int} (hlv : 9 < c.lv) (hh : c.A.handled = none) (R : Rep n a W) (G : Good B W) (hB : B ≤ BM)
    (h1 : ∀ n' W', Rep n' a W' → Step n a W n' a W' → getP W ch num = .ok W' → Q .none n') (h2 : ∀ k n', Rep n' a W → Step n a W n' a W → getP W ch num = .error k → X k n') :
    Fn prog c n (.ref 190) [.ref a.wa, .int ch, optV num] Q X := by
  wtm_at "enter"
  wtm_at "go"
  all_goals first
    | wtm_at "off"
    | wtm_at "side"
    | exact h2 _ _ (by assumption) (by wtm_at "chain") (by first | (simp [getP, *, bind, Except.bind, pure, Except.pure]; done) | fail)
    | exact h1 _ _ (by assumption) (by wtm_at "chain") (by first | (simp [getP, nul, *, (by assumption : Fd _ _ _ _ _).txt, bind, Except.bind, pure, Except.pure]; done) | fail)
    | exact h2 _ _ (by assumption) (by wtm_at "chain") (by first | (simp [getP, *, (by assumption : Fd _ _ _ _ _).txt, bind, Except.bind, pure, Except.pure]; done) | fail)
    | exact one_nul
    | wtm_at "num"
    | exact Nat.le_trans (Nat.add_le_add (sl_len _ _ _) (Nat.le_of_eq (len_mul' one_nul))) (by wtm_at "num")
    | (rw [len_append]; exact Nat.le_trans (Nat.add_le_add (sl_len _ _ _) (Nat.le_of_eq (len_mul' one_nul))) (by wtm_at "num"))
    | exact Nat.le_trans (sl_len _ _ _) (by wtm_at "num")
    | (obtain ⟨_, _, _, f1, f2, f3, f4, f5, f6, f7, f8⟩ := (by assumption : Fd _ _ _ _ _); exact mulok (by lia) (by lia) (by lia) (by lia))
end

-- part G9
set_option maxHeartbeats 2000000
theorem put_bounds {B : Nat} {W : WS} {ch k room : Int} {r : Rc} {t : Str} (F : Fd B W ch r t) (h1 : 1 ≤ k) (h2 : k ≤ 32767) (h3 : ¬ room < (k - 1) * r.size + r.size) (h4 : room ≤ 100) (hB : B ≤ BM) :
    (-2 ^ 63 ≤ (k - 1) * r.size - (t.length : Int) ∧ (k - 1) * r.size - (t.length : Int) ≤ 1000000) ∧
    t.length + (Txt.mul ⟨#[Int.toNat 0]⟩ ((k - 1) * r.size - t.length)).length ≤ sizeLine ∧ (t ++ Txt.mul ⟨#[Int.toNat 0]⟩ ((k - 1) * r.size - t.length)).length ≤ sizeLine ∧
    (∀ l u, (Txt.slice (t ++ Txt.mul ⟨#[Int.toNat 0]⟩ ((k - 1) * r.size - t.length)) l u).length + r.buf.length ≤ sizeLine) ∧
    (∀ l u l' u', (Txt.slice (t ++ Txt.mul ⟨#[Int.toNat 0]⟩ ((k - 1) * r.size - t.length)) l u ++ r.buf).length + (Txt.slice (t ++ Txt.mul ⟨#[Int.toNat 0]⟩ ((k - 1) * r.size - t.length)) l' u').length ≤ sizeLine) := by
  obtain ⟨_, _, _, f1, f2, f3, f4, f5, f6, f7, f8⟩ := F
  obtain ⟨p1, p2⟩ := prod_le h1 h2 f5 f6
  have lm := len_mul' (x := ⟨#[Int.toNat 0]⟩) (k := (k - 1) * r.size - t.length) one_nul
  have la := len_append t (Txt.mul ⟨#[Int.toNat 0]⟩ ((k - 1) * r.size - t.length))
  have hb : BM = 4000000 := rfl
  have hz := szl
  generalize (k - 1) * r.size = p at *
  generalize Txt.mul ⟨#[Int.toNat 0]⟩ (p - t.length) = mm at *
  have hm : mm.length ≤ 100 := by rw [lm]; lia
  refine ⟨⟨by lia, by lia⟩, by lia, by lia, fun l u => ?_, fun l u l' u' => ?_⟩
  · have := sl_len (t ++ mm) l u
    lia
  · have := sl_len (t ++ mm) l u
    have := sl_len (t ++ mm) l' u'
    rw [len_append]
    lia
section
variable {prog : Program} [ProgOk prog] {c : Cx} {n : Led} {X : Str → Led → Prop} {a : Ads} {W : WS} {Q : V → Led → Prop}
theorem fn_put_record {B : Nat} {ch : Int} {num : Option Int} {room : Int} (hlv : 9 < c.lv) (hh : c.A.handled = none) (R : Rep n a W) (G : Good B W) (hB : B ≤ BM) (hroom : room ≤ 100)
    (h1 : ∀ n' W', Rep n' a W' → Step n a W n' a W' → putP W ch num room = .ok W' → Q .none n') (h2 : ∀ k n', Rep n' a W → Step n a W n' a W → putP W ch num room = .error k → X k n') :
    Fn prog c n (.ref 197) [.ref a.wa, .int ch, optV num, .int room] Q X := by
  wtm_at "enter"
  wtm_at "go"
  all_goals first
    | wtm_at "off"
    | wtm_at "side"
    | exact one_nul
    | wtm_at "num"
    | (with_reducible refine Nat.le_trans (sl_len _ _ _) ?_
       wtm_at "num")
    | (obtain ⟨⟨c1, c2⟩, c3, c4, c5, c6⟩ := put_bounds (by assumption) (by assumption) (by assumption) (by assumption) hroom hB
       with_reducible first | exact c1 | exact c2 | exact c3 | exact c4 | exact c5 _ _ | exact c6 _ _ _ _)
    | (obtain ⟨_, _, _, f1, f2, f3, f4, f5, f6, f7, f8⟩ := (by assumption : Fd _ _ _ _ _); (with_reducible refine mulok ?_ ?_ ?_ ?_) <;> lia)
    | (with_reducible refine h2 _ _ (by assumption) (by wtm_at "chain") ?_; simp [putP, *, bind, Except.bind, pure, Except.pure]; done)
    | (with_reducible refine h2 _ _ (by assumption) (by wtm_at "chain") ?_; simp [putP, (by assumption : Fd _ _ _ _ _).txt, *, bind, Except.bind, pure, Except.pure]; done)
    | (with_reducible refine h1 _ _ (by assumption) (by wtm_at "chain") ?_; simp [putP, nul, *, (by assumption : Fd _ _ _ _ _).txt, bind, Except.bind, pure, Except.pure]; done)
end

-- part V1
set_option maxHeartbeats 2000000
noncomputable def NoX : Str → Led → Prop := fun _ _ => False
section
variable {prog : Program} {c : Cx} {m : Loc} {n : Led} {X : Str → Led → Prop} {N : Loc → Led → Prop} {R : V → Led → Prop} {Q : V → Led → Prop}

theorem thrown_no {e : Value} {s : Shared} (h : Thrown prog c m NoX e s) : False := by obtain ⟨_, _, _, _, q⟩ := h; exact q

/-- an iterator is made -/
noncomputable def PIt (prog : Program) (c : Cx) (m : Loc) (n : Led) (v : V) (Q : Addr → Led → Prop) : Prop :=
  ∀ x, VIs v x → COk c → ∀ s, Sit prog c m n s → wpAny (model prog c.w) c.A (pyIter x) (fun y s' => ∃ it n', y = .ref it ∧ Sit prog c m n' s' ∧ Q it n') (fun _ _ => False) s
/-- what it gives next -/
noncomputable def Nxt (prog : Program) (c : Cx) (m : Loc) (n : Led) (it : Addr) (Q : Option V → Led → Prop) : Prop :=
  COk c → ∀ s, Sit prog c m n s → wpAny (model prog c.w) c.A (pyNext (.ref it)) (fun r s' => ∃ n', Sit prog c m n' s' ∧ match r with | none => Q none n' | some x => ∃ u, VIs u x ∧ Q (some u) n') (fun _ _ => False) s
noncomputable def AsgT (prog : Program) (c : Cx) (m : Loc) (n : Led) (target : Expr) (it : Addr) (u : V) (P : Loc → Led → Prop) : Prop :=
  COk c → ∀ s, Sit prog c m n s → ∀ x, VIs u x → wpAny (model prog c.w) c.A (letOwnedTupleGo target (.ref it) x) (fun _ s1 => wpAny (model prog c.w) c.A (assign target c.env x) (fun _ s2 => ∃ m' n', Sit prog c m' n' s2 ∧ P m' n') (fun _ _ => False) s1) (fun _ _ => False) s

noncomputable def LSub (m' m : Loc) : Prop := ∀ x v, m'.lookup x = some v → m.lookup x = some v
theorem LSub.refl (m : Loc) : LSub m m := fun _ _ h => h
theorem LSub.cons {m' m : Loc} {x : Str} {u : V} (hx : m'.lookup x = none) (h : LSub m' m) : LSub m' ((x, u) :: m) := fun y v hy => by
  rw [List.lookup_cons]
  cases e : y == x with
  | true => rw [eq_of_beq e, hx] at hy; cases hy
  | false => exact h y v hy
theorem LSub.head {m' m : Loc} {x : Str} {u : V} (h : LSub m' m) : LSub ((x, u) :: m') ((x, u) :: m) := fun y v hy => by
  rw [List.lookup_cons] at hy ⊢
  cases e : y == x with
  | true => rw [e] at hy; exact hy
  | false => rw [e] at hy; exact h y v hy
theorem Sit.weaken {m' : Loc} {s : Shared} (S : Sit prog c m n s) (h : LSub m' m) : Sit prog c m' n s :=
  { S with loc := let ⟨a, mv, b, d⟩ := S.loc; ⟨a, mv, b, fun x v hx => d x v (h x v hx)⟩ }

/-- one turn of a loop -/
noncomputable def Turn (prog : Program) (c : Cx) (target : Expr) (body : List Stmt) (it : Addr) (I : Nat → Loc → Led → Prop) (N : Loc → Led → Prop) (R : V → Led → Prop) (i : Nat) (m : Loc) (n : Led) : Prop :=
  Nxt prog c m n it fun r n1 => match r with
    | none => N m n1
    | some u => AsgT prog c m n1 target it u fun m2 n2 => Ex prog c m2 n2 (execs body c.env) (fun m3 n3 => ∃ m4, LSub m4 m3 ∧ I (i + 1) m4 n3) R NoX

theorem ex_for {target iter : Expr} {body : List Stmt} {p : Pos} (len : Nat) (I : Addr → Nat → Loc → Led → Prop)
    (h : Ev prog c m n (eval iter c.env) (fun v n1 => PIt prog c m n1 v fun it n2 => I it 0 m n2) X)
    (hI : ∀ it i m' n', I it i m' n' → i ≤ len ∧ Turn prog c target body it (I it) N R i m' n')
    (hs : ∀ x, foldedSetIterable iter c.env x = pure x := by with_unfolding_all (intro _; rfl)) : Ex prog c m n (exec (.For target iter body [] p) c.env) N R X := fun H s S => by
  refine wpAny_For (wpAny_mono (h H s S) (fun x s1 ⟨n1, S1, u, hu, q⟩ => wpAny_mono (q x hu H s1 S1) (fun y s2 ⟨it, n2, hy, S2, q2⟩ => ?_) fun _ _ q => q.elim) fun e s' q => ⟨m, q⟩) hs
  subst hy
  refine codeAny_forLoop_any (fun k s => ∃ i m' n', k = len - i ∧ Sit prog c m' n' s ∧ I it i m' n') (fun k s ⟨i, m', n', hk, S', hi⟩ => ?_) len ⟨0, m, n2, by lia, S2, q2⟩
  obtain ⟨hl, T⟩ := hI it i m' n' hi
  refine wpAny_mono (T H s S') (fun r s3 ⟨n3, S3, q3⟩ => ?_) fun _ _ q => q.elim
  cases r with
  | none => exact wpAny_execs_nil ⟨m', n3, S3, q3⟩
  | some x =>
    obtain ⟨u, hu, q3⟩ := q3
    refine wpAny_mono (q3 H s3 S3 x hu) (fun _ s4 h4 => wpAny_mono h4 (fun _ s5 ⟨m5, n5, S5, q5⟩ => ?_) fun _ _ q => q.elim) fun _ _ q => q.elim
    refine wpAny_mono (q5 H s5 S5) (fun f s6 q6 => ?_) fun e s' ⟨m', q⟩ => (thrown_no q).elim
    cases f with
    | next =>
      obtain ⟨m6, n6, S6, m7, hs7, h6⟩ := q6
      have := (hI it _ _ _ h6).1
      exact ⟨len - (i + 1), by lia, i + 1, m7, n6, rfl, S6.weaken hs7, h6⟩
    | ret v => exact q6
    | _ => exact q6.elim
end

-- part V2
set_option maxHeartbeats 2000000
section
variable {prog : Program} {c : Cx} {m : Loc} {n : Led} {X : Str → Led → Prop} {N : Loc → Led → Prop} {R : V → Led → Prop}

noncomputable def Led.drop (n : Led) (a : Addr) : Led := fun b => if b = a then none else n b
theorem Keeps.drop {n : Led} {a : Addr} : Keeps [a] n (n.drop a) := fun b hb hf => if_neg (by simpa using hf)

/-- an object of the ledger is lost from sight -/
theorem Sit.drop {s : Shared} (S : Sit prog c m n s) {h' : Heap} {tk : Nat} {a : Addr} {o : O} (ha : n a = some o) (k : ∀ b ob, b ≠ a → s.heap.get? b = some ob → h'.get? b = some ob) : Sit prog c m (n.drop a) { s with heap := h', toks := tk } := by
  obtain ⟨_, a2, a3⟩ := S.led a o ha
  have ns : ∀ L ∈ (c.env.locals :: c.outs.map (·.1)), L ≠ a := fun L hL q => a3 (q ▸ hL)
  exact {
    gens := S.gens
    drawn := S.drawn
    os := S.os
    keep := fun b o e => k b o (fun q => by rw [q, a2.get] at e; cases e) (S.keep b o e)
    loc := S.loc.of fun o e => k _ o (ns _ (.head _)) e
    outs := fun f hf => (S.outs f hf).of fun o e => k _ o (ns _ (.tail _ (List.mem_map_of_mem hf))) e
    apart := S.apart
    led := fun b o e => by
      unfold Led.drop at e
      split at e
      · cases e
      · rename_i hb
        obtain ⟨⟨ob, h1, h2⟩, h3⟩ := S.led b o e
        exact ⟨⟨ob, k b ob hb h1, h2⟩, h3⟩ }

noncomputable def ItOf (n : Led) (it : Addr) (cls : String) (vs : Array Value) : Prop := ∃ o, n it = some (.raw o) ∧ o.cls = .type cls ∧ o.data = .fields vs
theorem ItOf.ne {it : Addr} {cls : String} {vs : Array Value} (h : ItOf n it cls vs) {a : Addr} {o : O} (ha : n a = some o) (hr : ∀ ob, o ≠ .raw ob) : a ≠ it := fun q => by
  obtain ⟨ob, h1, _⟩ := h
  rw [q, h1] at ha; cases ha; exact hr _ rfl
theorem keeps_new {it : Addr} {o : O} (h : n it = none) : Keeps [] n (n.set it o) := Keeps.set (.inr h)
theorem keeps_set {it : Addr} {o : O} : Keeps [it] n (n.set it o) := Keeps.set (.inl (.head _))

theorem it_list {a : Addr} {us : List V} {Q : Addr → Led → Prop} (ha : n a = some (.list us)) (h : ∀ it n', n it = none → Keeps [] n n' → ItOf n' it "list_iterator" #[.ref a, .int 0 0] → Q it n') : PIt prog c m n (.ref a) Q := by
  rintro _ ⟨⟩ H s S
  obtain ⟨ob, vs, h1, h2, _, h3⟩ := S.list ha
  refine wpAny_pyIter_list h2 ?_
  obtain ⟨h0, S'⟩ := S.new (tk := s.toks) (o := .raw { cls := .type "list_iterator", data := .fields #[.ref a, .int 0 0] }) (a := s.heap.objs.size) (fun b o e => Heap.get?_push_of_some { cls := .type "list_iterator", data := .fields #[.ref a, .int 0 0] } e) (Nat.le_refl _) (Heap.get?_push_size _ rfl) rfl
  exact ⟨_, _, rfl, S', h _ _ h0 (keeps_new h0) ⟨_, Led.set_self _ _ _, rfl, rfl⟩⟩
theorem nx_list {it a : Addr} {i : Nat} {us : List V} {Q : Option V → Led → Prop} (hh : c.A.handled = none) (hi : ItOf n it "list_iterator" #[.ref a, .int i 0]) (ha : n a = some (.list us))
    (h1 : ∀ u n', us[i]? = some u → Keeps [it] n n' → ItOf n' it "list_iterator" #[.ref a, .int ((i + 1 : Nat) : Int) 0] → Q (some u) n') (h2 : ∀ n', us[i]? = none → Keeps [it] n n' → Q none n') : Nxt prog c m n it Q := fun H s S => by
  obtain ⟨o, hn, hc, hd⟩ := id hi
  obtain ⟨⟨ob, hob, e⟩, _⟩ := S.led it _ hn
  have e : ob = o := e
  subst e
  obtain ⟨_, vs, g1, g2, _, g3⟩ := S.list ha
  cases hx : vs[i]? with
  | some x =>
    refine wpAny_pyNext_list_item (i := i) ⟨_, hob, hc, hd⟩ g2 hx fun h' ⟨o', k1, k2, k3⟩ hs => ?_
    have S' := S.set (tk := s.toks) (o' := .raw o') hn hs k1 rfl
    cases hu : us[i]? with
    | none =>
      rw [List.getElem?_eq_none_iff] at hu
      have := (Array.getElem?_eq_some_iff.mp hx).1
      rw [g3.length, Array.length_toList] at hu; lia
    | some u =>
      obtain ⟨y, hy, hv⟩ := g3.at hu
      rw [Array.getElem?_toList, hx] at hy
      cases hy
      exact ⟨_, S', u, hv, h1 u _ hu keeps_set ⟨o', Led.set_self _ _ _, k2, k3⟩⟩
  | none =>
    refine wpAny_pyNext_list_end hh (i := i) ⟨_, hob, hc, hd⟩ g2 hx fun h' he => ?_
    refine ⟨_, S.drop (tk := s.toks) hn fun b ob hb hbo => he b ob hb hbo, h2 _ ?_ Keeps.drop⟩
    rw [List.getElem?_eq_none_iff, g3.length, Array.length_toList]
    exact Array.getElem?_eq_none_iff.mp hx

theorem it_tup {a : Addr} {us : List V} {Q : Addr → Led → Prop} (ha : n a = some (.tup us)) (h : ∀ it n', n it = none → Keeps [] n n' → ItOf n' it "tuple_iterator" #[.ref a, .int 0 0] → Q it n') : PIt prog c m n (.ref a) Q := by
  rintro _ ⟨⟩ H s S
  obtain ⟨ob, vs, h1, h2, _, h3⟩ := S.tup ha
  refine wpAny_pyIter_tuple h2 ?_
  obtain ⟨h0, S'⟩ := S.new (tk := s.toks) (o := .raw { cls := .type "tuple_iterator", data := .fields #[.ref a, .int 0 0] }) (a := s.heap.objs.size) (fun b o e => Heap.get?_push_of_some { cls := .type "tuple_iterator", data := .fields #[.ref a, .int 0 0] } e) (Nat.le_refl _) (Heap.get?_push_size _ rfl) rfl
  exact ⟨_, _, rfl, S', h _ _ h0 (keeps_new h0) ⟨_, Led.set_self _ _ _, rfl, rfl⟩⟩
theorem nx_tup {it a : Addr} {i : Nat} {us : List V} {Q : Option V → Led → Prop} (hh : c.A.handled = none) (hi : ItOf n it "tuple_iterator" #[.ref a, .int i 0]) (ha : n a = some (.tup us))
    (h1 : ∀ u n', us[i]? = some u → Keeps [it] n n' → ItOf n' it "tuple_iterator" #[.ref a, .int ((i + 1 : Nat) : Int) 0] → Q (some u) n') (h2 : ∀ n', us[i]? = none → Keeps [it] n n' → Q none n') : Nxt prog c m n it Q := fun H s S => by
  obtain ⟨o, hn, hc, hd⟩ := id hi
  obtain ⟨⟨ob, hob, e⟩, _⟩ := S.led it _ hn
  have e : ob = o := e
  subst e
  obtain ⟨_, vs, g1, g2, _, g3⟩ := S.tup ha
  cases hx : vs[i]? with
  | some x =>
    refine wpAny_pyNext_tuple_item (i := i) ⟨_, hob, hc, hd⟩ g2 hx fun h' ⟨o', k1, k2, k3⟩ hs => ?_
    have S' := S.set (tk := s.toks) (o' := .raw o') hn hs k1 rfl
    cases hu : us[i]? with
    | none =>
      rw [List.getElem?_eq_none_iff] at hu
      have := (Array.getElem?_eq_some_iff.mp hx).1
      rw [g3.length, Array.length_toList] at hu; lia
    | some u =>
      obtain ⟨y, hy, hv⟩ := g3.at hu
      rw [Array.getElem?_toList, hx] at hy
      cases hy
      exact ⟨_, S', u, hv, h1 u _ hu keeps_set ⟨o', Led.set_self _ _ _, k2, k3⟩⟩
  | none =>
    refine wpAny_pyNext_tuple_end hh (i := i) ⟨_, hob, hc, hd⟩ g2 hx fun h' he => ?_
    refine ⟨_, S.drop (tk := s.toks) hn fun b ob hb hbo => he b ob hb hbo, h2 _ ?_ Keeps.drop⟩
    rw [List.getElem?_eq_none_iff, g3.length, Array.length_toList]
    exact Array.getElem?_eq_none_iff.mp hx

/-! tables -/
theorem KRel.at {K : Type} [DecidableEq K] {es : List (K × V)} {kvs : List (K × Value)} (h : KRel es kvs) (i : Nat) : (es[i]?).map (·.1) = (kvs[i]?).map (·.1) := by
  have := h.keys
  rw [← List.getElem?_map, ← List.getElem?_map, this]
theorem it_idd {a : Addr} {es : List (Int × V)} {ep : Nat} {Q : Addr → Led → Prop} (ha : n a = some (.idd es ep)) (h : ∀ it n', n it = none → Keeps [] n n' → ItOf n' it "dict_keyiterator" #[.ref a, .int 0 0, .int es.length 0, .int ep 0] → Q it n') : PIt prog c m n (.ref a) Q := by
  rintro _ ⟨⟩ H s S
  obtain ⟨ob, kvs, h1, h2, h3⟩ := S.idd ha
  refine wpAny_pyIter_dict (knd := intKind prog c.w) (S.notMods H ha) (h2.at h1) ?_
  rw [← h3.length]
  obtain ⟨h0, S'⟩ := S.new (tk := s.toks) (o := .raw { cls := .type "dict_keyiterator", data := .fields #[.ref a, .int 0 0, .int es.length 0, .int ep 0] }) (a := s.heap.objs.size) (fun b o e => Heap.get?_push_of_some { cls := .type "dict_keyiterator", data := .fields #[.ref a, .int 0 0, .int es.length 0, .int ep 0] } e) (Nat.le_refl _) (Heap.get?_push_size _ rfl) rfl
  exact ⟨_, _, rfl, S', h _ _ h0 (keeps_new h0) ⟨_, Led.set_self _ _ _, rfl, rfl⟩⟩
theorem nx_idd {it a : Addr} {i : Nat} {es : List (Int × V)} {ep : Nat} {Q : Option V → Led → Prop} (hh : c.A.handled = none) (hi : ItOf n it "dict_keyiterator" #[.ref a, .int i 0, .int es.length 0, .int ep 0]) (ha : n a = some (.idd es ep))
    (h1 : ∀ kv n', es[i]? = some kv → Keeps [it] n n' → ItOf n' it "dict_keyiterator" #[.ref a, .int ((i + 1 : Nat) : Int) 0, .int es.length 0, .int ep 0] → Q (some (.int kv.1)) n') (h2 : ∀ n', es[i]? = none → Keeps [it] n n' → Q none n') : Nxt prog c m n it Q := fun H s S => by
  obtain ⟨o, hn, hc, hd⟩ := id hi
  obtain ⟨⟨ob, hob, e⟩, _⟩ := S.led it _ hn
  have e : ob = o := e
  subst e
  obtain ⟨ob2, kvs, g1, g2, g3⟩ := S.idd ha
  rw [g3.length] at hd
  have hk := g3.at i
  cases hx : kvs[i]? with
  | some x =>
    obtain ⟨k, v⟩ := x
    refine wpAny_pyNext_dict_item (knd := intKind prog c.w) (i := i) ⟨_, hob, hc, hd⟩ (g2.at g1) hx fun key h' hkey ⟨o', k1, k2, k3⟩ hs => ?_
    have S' := S.set (tk := s.toks) (o' := .raw o') hn hs k1 rfl
    rw [hx] at hk
    obtain ⟨kv, hkv, e⟩ := Option.map_eq_some_iff.mp hk
    obtain ⟨t, rfl⟩ : ∃ t, key = .int k t := by
      have : key.isInt k = true := hkey
      cases key with
      | int j t => exact ⟨t, by simp [Value.isInt] at this; rw [this]⟩
      | _ => simp [Value.isInt] at this
    exact ⟨_, S', .int kv.1, by rw [e]; exact .int _ _, h1 kv _ hkv keeps_set ⟨o', Led.set_self _ _ _, k2, by rw [g3.length]; exact k3⟩⟩
  | none =>
    refine wpAny_pyNext_dict_end (knd := intKind prog c.w) hh (i := i) ⟨_, hob, hc, hd⟩ (g2.at g1) hx fun h' he => ?_
    refine ⟨_, S.drop (tk := s.toks) hn fun b ob hb hbo => he b ob hb hbo, h2 _ ?_ Keeps.drop⟩
    rw [hx] at hk
    simpa using hk
theorem it_sd {a : Addr} {es : List (Str × V)} {ep : Nat} {Q : Addr → Led → Prop} (ha : n a = some (.sd es ep)) (h : ∀ it n', n it = none → Keeps [] n n' → ItOf n' it "dict_keyiterator" #[.ref a, .int 0 0, .int es.length 0, .int ep 0] → Q it n') : PIt prog c m n (.ref a) Q := by
  rintro _ ⟨⟩ H s S
  obtain ⟨ob, kvs, h1, h2, h3⟩ := S.sd ha
  refine wpAny_pyIter_dict (knd := PySem.strKind prog c.w) (S.notMods H ha) (h2.at h1) ?_
  rw [← h3.length]
  obtain ⟨h0, S'⟩ := S.new (tk := s.toks) (o := .raw { cls := .type "dict_keyiterator", data := .fields #[.ref a, .int 0 0, .int es.length 0, .int ep 0] }) (a := s.heap.objs.size) (fun b o e => Heap.get?_push_of_some { cls := .type "dict_keyiterator", data := .fields #[.ref a, .int 0 0, .int es.length 0, .int ep 0] } e) (Nat.le_refl _) (Heap.get?_push_size _ rfl) rfl
  exact ⟨_, _, rfl, S', h _ _ h0 (keeps_new h0) ⟨_, Led.set_self _ _ _, rfl, rfl⟩⟩
theorem nx_sd {it a : Addr} {i : Nat} {es : List (Str × V)} {ep : Nat} {Q : Option V → Led → Prop} (hh : c.A.handled = none) (hi : ItOf n it "dict_keyiterator" #[.ref a, .int i 0, .int es.length 0, .int ep 0]) (ha : n a = some (.sd es ep))
    (h1 : ∀ kv n', es[i]? = some kv → Keeps [it] n n' → ItOf n' it "dict_keyiterator" #[.ref a, .int ((i + 1 : Nat) : Int) 0, .int es.length 0, .int ep 0] → Q (some (.str kv.1)) n') (h2 : ∀ n', es[i]? = none → Keeps [it] n n' → Q none n') : Nxt prog c m n it Q := fun H s S => by
  obtain ⟨o, hn, hc, hd⟩ := id hi
  obtain ⟨⟨ob, hob, e⟩, _⟩ := S.led it _ hn
  have e : ob = o := e
  subst e
  obtain ⟨ob2, kvs, g1, g2, g3⟩ := S.sd ha
  rw [g3.length] at hd
  have hk := g3.at i
  cases hx : kvs[i]? with
  | some x =>
    obtain ⟨k, v⟩ := x
    refine wpAny_pyNext_dict_item (knd := PySem.strKind prog c.w) (i := i) ⟨_, hob, hc, hd⟩ (g2.at g1) hx fun key h' hkey ⟨o', k1, k2, k3⟩ hs => ?_
    have S' := S.set (tk := s.toks) (o' := .raw o') hn hs k1 rfl
    rw [hx] at hk
    obtain ⟨kv, hkv, e⟩ := Option.map_eq_some_iff.mp hk
    obtain ⟨t, rfl⟩ := Value.isStrOf_shape (show Value.isStrOf k key = true from hkey)
    exact ⟨_, S', .str kv.1, by rw [e]; exact .str _ _, h1 kv _ hkv keeps_set ⟨o', Led.set_self _ _ _, k2, by rw [g3.length]; exact k3⟩⟩
  | none =>
    refine wpAny_pyNext_dict_end (knd := PySem.strKind prog c.w) hh (i := i) ⟨_, hob, hc, hd⟩ (g2.at g1) hx fun h' he => ?_
    refine ⟨_, S.drop (tk := s.toks) hn fun b ob hb hbo => he b ob hb hbo, h2 _ ?_ Keeps.drop⟩
    rw [hx] at hk
    simpa using hk

/-! targets -/
theorem asg_name {x : Str} {p : Pos} {it : Addr} {u : V} {P : Loc → Led → Prop} {sc : Scope} (hs : c.env.scope = sc) (hk : sc.names.lookup x = some .local) (h : P ((x, u) :: m) n) : AsgT prog c m n (.Name x p) it u P := fun H s S v hv =>
  wpAny_of_eq (a := ()) rfl (PyProof.Rows.assign_Name (storeL H S hs hk hv fun s' S' => ⟨_, n, S', h⟩))
theorem asg_tup {ts : List Expr} {k : Nat} {p : Pos} {it a t : Addr} {i : Nat} {us : List V} {names : List (Str × Pos)} {P : Loc → Led → Prop} {sc : Scope} (hs : c.env.scope = sc) (hts : ts = names.map fun x => .Name x.1 x.2) (hk : ∀ x ∈ names, sc.names.lookup x.1 = some .local) (hh : c.A.handled = none)
    (hi : ItOf n it "list_iterator" #[.ref a, .int i 0]) (ht : n t = some (.tup us)) (hl : us.length = names.length) (h : P (((names.map (·.1)).zip us).reverse ++ m) n) : AsgT prog c m n (.Tuple ts k p) it (.ref t) P := fun H s S v hv => by
  cases hv
  obtain ⟨o, hn, hc, hd⟩ := id hi
  obtain ⟨⟨ob, hob, e⟩, _⟩ := S.led it _ hn
  have e : ob = o := e
  subst e
  refine wpAny_letOwnedTupleGo_listiter (i := i) ⟨_, hob, hc, hd⟩ ?_
  obtain ⟨ob, vs, g1, g2, _, g3⟩ := S.tup ht
  have ae : assignEach ts c.env = names.map fun x => (false, assign (.Name x.1 x.2) c.env) := by rw [hts]; exact assignEach_names names
  refine wpAny_assign_Tuple hh g2 (by rw [ae, List.length_map, ← Array.length_toList, ← g3.length]; exact hl.symm) (by rw [ae, List.findIdx?_map]; exact List.findIdx?_eq_none_iff.mpr fun _ _ => rfl) fun h' he => ?_
  have S2 : Sit prog c m n { s with heap := h' } := S.grow fun b o hb => he b o (Nat.ne_of_lt (Heap.lt_size hb)) hb
  rw [ae, List.map_map]
  refine bind_names H hs g3 (ns := names.map (·.1)) (fs := names.map _) (by simpa using hl) (by simp) (fun i x f h1 h2 => ?_) S2 fun s' S' => ⟨_, n, S', h⟩
  rw [List.getElem?_map] at h1 h2
  cases hi : names[i]? with
  | none => rw [hi] at h1; cases h1
  | some y =>
    rw [hi] at h1 h2; cases h1; cases h2
    exact ⟨hk y (List.mem_of_getElem? hi), .inr ⟨y.2, rfl⟩⟩
end

-- part H1
set_option maxHeartbeats 2000000
theorem in_strs2 {prog : Program} {c : Cx} {m : Loc} {n : Led} {X : Str → Led → Prop} {Q : V → Led → Prop} {t : Addr} {us : List V} {ms : List Str} {k : Str} (ht : n t = some (.tup us)) (hu : strsOf us = some ms) (h : Q (.bool (decide (k ∈ ms))) n) : Cmp prog c m n .In (.str k) (.ref t) Q X := in_strs (by rw [← strsOf_eq hu]; exact ht) h
local macro_rules | `(tactic| wtm_at "go1") => mac_go [("Cmp", "in_strs2/ar?"), ("Br", "br_true/? br_false/?")]
local macro_rules | `(tactic| wtm_at "grown") => do
  let as ← #[1, 2, 3].mapM fun k => do
    let t ← mac_chain ``Keeps.trans k
    `(tactic| exact $t)
  `(tactic| first | exact Keeps.refl _ _ | assumption $[| $as:tactic]* | fail)
local macro_rules | `(tactic| wtm_at "lsub") => `(tactic| repeat' (first | exact LSub.refl _ | refine LSub.cons (by rfl) ?_ | refine LSub.head ?_))
noncomputable def wm : List Str := ["O", "A"]
noncomputable def elseP (W : WS) (mode name : Str) : Bool := W.op.any fun kv => decide (kv.2.name = name) && (decide (mode ∈ wm) || decide (kv.2.mode ∈ wm))
theorem Rep.keepIt {n n' : Led} {a : Ads} {W : WS} (R : Rep n a W) {it : Addr} {cls : String} {vs : Array Value} (hi : ItOf n it cls vs) (h : Keeps [it] n n') : Rep n' a W := by
  obtain ⟨o, ho, _⟩ := hi
  have ft : ∀ b ∈ foot a W, n' b = n b := fun b hb => by
    rcases R.tab b hb with ⟨es, ep, e⟩ | ⟨es, ep, e⟩ <;> exact h b (by rw [e]; exact Option.some_ne_none _) fun q => by
      simp only [List.mem_singleton] at q; rw [q, ho] at e; cases e
  have other : ∀ {b o'}, n b = some o' → (∀ ob, o' ≠ .raw ob) → n' b = some o' := fun hb h1 => (h _ (by rw [hb]; exact Option.some_ne_none _) (fun q => by
    simp only [List.mem_singleton] at q; rw [q, ho] at hb; cases hb; exact h1 _ rfl)).trans hb
  exact {
    inst := other R.inst (fun _ q => nomatch q)
    attrs := let ⟨es, ep, h1, r⟩ := R.attrs; ⟨es, ep, other h1 (fun _ q => nomatch q), r⟩
    files := let ⟨ep, h1⟩ := R.files; ⟨ep, other h1 (fun _ q => nomatch q)⟩
    op := let ⟨ep, h1⟩ := R.op; ⟨ep, other h1 (fun _ q => nomatch q)⟩
    fields := let ⟨ep, h1⟩ := R.fields; ⟨ep, other h1 (fun _ q => nomatch q)⟩
    recs := fun ch r hr => let ⟨ep, h1⟩ := R.recs ch r hr; ⟨ep, other h1 (fun _ q => nomatch q)⟩
    tups := fun nm p hp => other (R.tups nm p hp) (fun _ q => nomatch q)
    apart := R.apart }
theorem Step.it {n n' n'' : Led} {a a' : Ads} {W W' : WS} (S : Step n a W n' a' W') {it : Addr} {cls : String} {vs : Array Value} (h0 : n it = none) (hi : ItOf n' it cls vs) (h : Keeps [it] n' n'') : Step n a W n'' a' W' where
  rep := S.rep.keepIt hi h
  wa := S.wa
  keeps := fun b hb hf => by
    have e := S.keeps b hb hf
    refine (h b (by rw [e]; exact hb) fun q => ?_).trans e
    simp only [List.mem_singleton] at q; rw [q] at hb; exact hb h0
  new := S.new
theorem ItOf.grow {n n' : Led} {it : Addr} {cls : String} {vs : Array Value} (h : ItOf n it cls vs) (hk : Keeps [] n n') : ItOf n' it cls vs := let ⟨o, ho, r⟩ := h; ⟨o, hk.at ho, r⟩
theorem open_at {a : Ads} {W : WS} {i : Nat} {kv : Int × V} (h : (openE a W)[i]? = some kv) : ∃ r, W.op[i]? = some (kv.1, r) ∧ kv.2 = .ref (a.ra kv.1) := by
  unfold openE mapV at h
  rw [List.getElem?_map] at h
  obtain ⟨x, hx, rfl⟩ := Option.map_eq_some_iff.mp h
  exact ⟨x.2, hx, rfl⟩
section
variable {prog : Program} [ProgOk prog] {c : Cx} {n : Led} {X : Str → Led → Prop} {a : Ads} {W : WS} {Q : V → Led → Prop}
theorem fn_elsewhere {B : Nat} {mode name : Str} (hlv : 6 < c.lv) (hh : c.A.handled = none) (R : Rep n a W) (G : Good B W) (hB : B ≤ BM)
    (h1 : ∀ n', Rep n' a W → Step n a W n' a W → Q (.bool (elseP W mode name)) n') : Fn prog c n (.ref 56) [.ref a.wa, .str mode, .str name] Q X := by
  wtm_at "enter"
  refine ex_cons ?_
  refine ex_for W.op.length (fun it i m' n' => m' = ([("world", .ref a.wa), ("mode", .str mode), ("name", .str name)] : Loc) ∧ i ≤ W.op.length ∧ n it = none ∧ Step n a W n' a W ∧
    (∃ ep, n' a.oa = some (.idd (openE a W) ep) ∧ ItOf n' it "dict_keyiterator" #[.ref a.oa, .int i 0, .int (openE a W).length 0, .int ep 0]) ∧
    ∀ j kv, j < i → W.op[j]? = some kv → ¬ (kv.2.name = name ∧ (mode ∈ wm ∨ kv.2.mode ∈ wm))) ?_ ?_
  · wtm_at "go"
    obtain ⟨ep, ho⟩ := R.op
    exact it_idd ho fun it n' hn hk hit => ⟨rfl, Nat.zero_le _, hn, R.stepGrow hk, ⟨ep, hk.at ho, hit⟩, fun j kv h => absurd h (Nat.not_lt_zero _)⟩
  · intro it i m' n' ⟨e, hi, hn0, S', ⟨ep, ho, hit⟩, hno⟩
    subst e
    refine ⟨hi, ?_⟩
    have R' := S'.rep
    refine nx_idd (‹InFn _ _ _ _›.hd.trans hh) hit ho (fun kv n3 hkv hk hit' => ?_) (fun n3 hn hk => ?_)
    · obtain ⟨r, hr, hv⟩ := open_at hkv
      obtain ⟨ch, v⟩ := kv
      have hg : aget W.op ch = some r := aget_of_mem R.keysNodup (List.mem_of_getElem? hr)
      have S3 := S'.it hn0 hit hk
      have R3 := S3.rep
      have ho3 : n3 a.oa = some (.idd (openE a W) ep) := (hk _ (by rw [ho]; exact Option.some_ne_none _) (by simpa using hit.ne ho fun _ q => nomatch q)).trans ho
      have hl : i < W.op.length := (List.getElem?_eq_some_iff.mp hr).1
      refine asg_name ‹InFn _ _ _ _›.scope (by rfl) ?_
      have next : ∀ n5, Keeps [] n3 n5 → ¬ (r.name = name ∧ (mode ∈ wm ∨ r.mode ∈ wm)) → ∃ m4, LSub m4 ([("other", .ref (a.ra ch)), ("channel", .int ch), ("world", .ref a.wa), ("mode", .str mode), ("name", .str name)] : Loc) ∧
          (m4 = ([("world", .ref a.wa), ("mode", .str mode), ("name", .str name)] : Loc) ∧ i + 1 ≤ W.op.length ∧ n it = none ∧ Step n a W n5 a W ∧
          (∃ ep, n5 a.oa = some (.idd (openE a W) ep) ∧ ItOf n5 it "dict_keyiterator" #[.ref a.oa, .int ((i + 1 : Nat) : Int) 0, .int (openE a W).length 0, .int ep 0]) ∧
          ∀ j kv, j < i + 1 → W.op[j]? = some kv → ¬ (kv.2.name = name ∧ (mode ∈ wm ∨ kv.2.mode ∈ wm))) := fun n5 hk5 hnot =>
        ⟨_, by wtm_at "lsub", rfl, hl, hn0, S3.trans (R3.stepGrow hk5), ⟨ep, hk5.at ho3, hit'.grow hk5⟩, fun j kv2 hj hkv2 => by
          rcases Nat.lt_succ_iff_lt_or_eq.mp hj with hj | e
          · exact hno j kv2 hj hkv2
          · rw [e, hr] at hkv2; cases hkv2; exact hnot⟩
      have yes : ∀ n5, Keeps [] n3 n5 → (r.name = name ∧ (mode ∈ wm ∨ r.mode ∈ wm)) → Q (.bool true) n5 := fun n5 hk5 hy => by
        have S5 := S3.trans (R3.stepGrow hk5)
        have e : elseP W mode name = true := by
          unfold elseP
          rw [List.any_eq_true]
          exact ⟨_, List.mem_of_getElem? hr, by simpa using hy⟩
        have := h1 n5 S5.rep S5
        rw [e] at this; exact this
      wtm_at "go"
      all_goals first
        | wtm_at "num"
        | (refine next _ (by wtm_at "grown") ?_; simp_all [wm]; done)
        | (refine yes _ (by wtm_at "grown") ?_; simp_all [wm]; done)
    · wtm_at "go"
      have hl : ¬ i < W.op.length := fun q => by
        rw [List.getElem?_eq_none_iff] at hn
        unfold openE at hn; rw [length_mapV] at hn; lia
      have S3 := S'.it hn0 hit hk
      have e : elseP W mode name = false := by
        unfold elseP
        rw [List.any_eq_false]
        intro kv hkv
        obtain ⟨j, hj, e⟩ := List.mem_iff_getElem.mp hkv
        have := hno j kv (by lia) (by rw [List.getElem?_eq_getElem hj, e])
        simpa using this
      have := h1 n3 S3.rep S3
      rw [e] at this; exact this
end

-- part C1
set_option maxHeartbeats 2000000
section
variable {prog : Program} {w : World} {A : Around} {s : Shared}
noncomputable abbrev testsOf (ifs : List Expr) (env : Env) : Sem Bool := forIn ifs true fun c r => if r = true then do let ok ← isTrue c env (eval c env); pure (ForInStep.yield ok) else pure (ForInStep.yield r)

theorem compLoop_any {elt target iter : Expr} {ifs : List Expr} {scope : Scope} {pos : Pos} {it acc : Value} {env : Env} {R : Result → Shared → Prop} (I : Nat → Shared → Prop)
    (turn : ∀ n s, I n s → wpAny (model prog w) A (pyNext it) (fun r s₁ => match r with
      | none => R (.ok .next) s₁
      | some v => wpAny (model prog w) A (letOwnedTupleGo target it v) (fun _ s₀ => wpAny (model prog w) A (assign target env v) (fun _ s₂ =>
          wpAny (model prog w) A (testsOf ifs env) (fun ok s₃ =>
            if ok = true then wpAny (model prog w) A (eval elt env) (fun x s₄ =>
              wpAny (model prog w) A (call (.builtin "list.append") [acc, x]) (fun _ s₅ => ∃ m, m < n ∧ I m s₅) (fun _ _ => False) s₄) (fun _ _ => False) s₃
            else ∃ m, m < n ∧ I m s₃) (fun _ _ => False) s₂) (fun _ _ => False) s₀) (fun _ _ => False) s₁) (fun _ _ => False) s)
    (n : Nat) (h : I n s) :
    codeAny (model prog w) A (.compLoop (.ListComp elt [⟨target, iter, ifs, 0⟩] scope pos) 0 it acc env) R s := by
  refine codeAny_loop rfl I (fun n s hI => ?_) n h
  show wpAny _ A ((compTurn (.ListComp elt [⟨target, iter, ifs, 0⟩] scope pos) 0 it acc env).onRaise (fun x => do noteFrame x env; theTreesLotGoes x)) _ _ s
  refine wpAny_noted ?_
  rw [compTurn_list]
  refine wpAny_bind (wpAny_standAt (wpAny_bind (wpAny_mono (turn n s hI) (fun r s₁ h₁ => ?_) fun _ _ h' => h'.elim)))
  cases r with
  | none => exact wpAny_pure h₁
  | some v =>
    refine wpAny_bind (wpAny_mono h₁ (fun _ s₀ h₀ => ?_) fun _ _ h' => h'.elim)
    refine wpAny_bind (wpAny_mono h₀ (fun _ s₂ h₂ => wpAny_bind (wpAny_mono h₂ (fun ok s₃ h₃ => ?_) fun _ _ h' => h'.elim)) fun _ _ h' => h'.elim)
    cases ok with
    | false => exact wpAny_pure ⟨rfl, h₃⟩
    | true =>
      exact wpAny_bind (wpAny_bind (wpAny_mono h₃ (fun x s₄ h₄ => wpAny_bind (wpAny_mono h₄ (fun _ s₅ h₅ => wpAny_pure (wpAny_pure ⟨rfl, h₅⟩)) fun _ _ h' => h'.elim)) fun _ _ h' => h'.elim))
end

section
variable {prog : Program} {c : Cx} {m : Loc} {n : Led} {X : Str → Led → Prop} {Q : V → Led → Prop}
noncomputable def SelfIt (prog : Program) (c : Cx) (m : Loc) (n : Led) (it : Addr) : Prop := ∀ s, Sit prog c m n s → ∀ {A' : Around} {E' Q' : Value → Shared → Prop}, Q' (.ref it) s → wpAny (model prog c.w) A' (pyIter (.ref it)) Q' E' s
theorem self_list {it a : Addr} {i : Nat} (h : ItOf n it "list_iterator" #[.ref a, .int i 0]) : SelfIt prog c m n it := fun s S _ _ _ hq => by
  obtain ⟨o, hn, hc, hd⟩ := h
  obtain ⟨⟨ob, hob, e⟩, _⟩ := S.led it _ hn
  have e : ob = o := e
  subst e
  exact wpAny_pyIter_listiter (i := i) ⟨_, hob, hc, hd⟩ hq
theorem self_dict {it a : Addr} {i k ep : Nat} (h : ItOf n it "dict_keyiterator" #[.ref a, .int i 0, .int k 0, .int ep 0]) : SelfIt prog c m n it := fun s S _ _ _ hq => by
  obtain ⟨o, hn, hc, hd⟩ := h
  obtain ⟨⟨ob, hob, e⟩, _⟩ := S.led it _ hn
  have e : ob = o := e
  subst e
  exact wpAny_pyIter_keyiter (i := i) ⟨_, hob, hc, hd⟩ hq

/-- a clause's tests -/
noncomputable def CT (prog : Program) (c : Cx) (m : Loc) (n : Led) (ifs : List Expr) (P : Bool → Led → Prop) : Prop := match ifs with
  | [] => P true n
  | [t] => Tt prog c m n (isTrue t c.env (eval t c.env)) P NoX
  | _ => False
noncomputable def CTurn (prog : Program) (c : Cx) (target : Expr) (ifs : List Expr) (elt : Expr) (it acc : Addr) (I : Nat → Loc → Led → Prop) (F : Led → Prop) (i : Nat) (m : Loc) (n : Led) : Prop :=
  Nxt prog c m n it fun r n1 => match r with
    | none => F n1
    | some u => AsgT prog c m n1 target it u fun m2 n2 => CT prog c m2 n2 ifs fun ok n3 => if ok = true then
        Ev prog c m2 n3 (eval elt c.env) (fun v n4 => ∃ xs, n4 acc = some (.list xs) ∧ xs.length ≤ sizeLine ∧ ∃ m4, LSub m4 m2 ∧ I (i + 1) m4 (n4.set acc (.list (xs ++ [v])))) NoX
      else ∃ m4, LSub m4 m2 ∧ I (i + 1) m4 n3

theorem ct_tests {ifs : List Expr} {P : Bool → Led → Prop} {s : Shared} (H : COk c) (S : Sit prog c m n s) (hct : CT prog c m n ifs P) : wpAny (model prog c.w) c.A (testsOf ifs c.env) (fun ok s8 => ∃ n8, Sit prog c m n8 s8 ∧ P ok n8) (fun _ _ => False) s := by
  match ifs, hct with
  | [], hct => exact wpAny_tests_nil ⟨n, S, hct⟩
  | [t], hct => exact wpAny_tests_one (wpAny_mono (hct H s S) (fun _ _ q => q) fun _ _ q => thrown_no q)
theorem ev_comp {elt target iter : Expr} {ifs : List Expr} {scope sc' : Scope} {pos : Pos} {cl : List (Str × Addr)} (len : Nat) (I : Cx → Addr → Addr → Nat → Loc → Led → Prop)
    (hclos : closureFor scope c.env = pure cl) (hrel : relabel scope c.env = sc') (hk : scope.kind = .function) (hlv : 0 < c.lv) (hcell : ∀ x ∈ scope.names, x.2 ≠ .cell) (hnames : ∀ x ∈ scope.names, x.2 = .local → scope.names.lookup x.1 = some .local)
    (h : Ev prog c m n (eval iter c.env) (fun v n1 => PIt prog c m n1 v fun it n2 => ∀ acc, n2 acc = none → ∀ c', InFn c c' sc' cl → SelfIt prog c' [] (n2.set acc (.list [])) it ∧ I c' it acc 0 [] (n2.set acc (.list []))) X)
    (hI : ∀ c' it acc i m' n', InFn c c' sc' cl → I c' it acc i m' n' → i ≤ len ∧ CTurn prog c' target ifs elt it acc (I c' it acc) (fun n' => Q (.ref acc) n') i m' n')
    (hs : ∀ x, foldedSetIterable iter c.env x = pure x := by with_unfolding_all (intro _; rfl)) :
    Ev prog c m n (eval (.ListComp elt [⟨target, iter, ifs, 0⟩] scope pos) c.env) Q X := fun H s S => by
  rw [eval_ListComp]
  refine wpAny_comprehension_free (use := none) rfl hs hclos hk hnames (wpAny_mono (h H s S) (fun x s1 ⟨n1, S1, u, hu, q1⟩ => wpAny_mono (q1 x hu H s1 S1) (fun y s2 ⟨it, n2, hy, S2, q2⟩ => ?_) fun _ _ q => q.elim) fun e s' q => ?_)
  · subst hy
    refine wpAny_newObj_type ?_ (by show 0 ≤ sizeLine; exact Nat.zero_le _)
    obtain ⟨a0, S3⟩ := S2.new (tk := s2.toks) (o := .list []) (a := s2.heap.objs.size) (fun b o e => Heap.get?_push_of_some { cls := .type "list", data := .seq ([] : List Value).toArray } e) (Nat.le_refl _) (Heap.get?_push_size _ rfl) ⟨#[], _, rfl, .nil⟩
    refine wpAny_newFunctionEnv hcell (by intro y hy; simp at hy) (fun h₁ hns₁ hsb₁ => ?_) hk
    generalize hs3 : ({ s2 with heap := s2.heap.push { cls := .type "list", data := .seq ([] : List Value).toArray }, toks := s2.toks } : Shared) = s3 at S3
    have e3 : s2.heap.push { cls := .type "list", data := .seq ([] : List Value).toArray } = s3.heap := by rw [← hs3]
    have keep1 : ∀ b o, s3.heap.get? b = some o → h₁.get? b = some o := fun b o e => hsb₁.extBut b o (by rw [e3]; exact Nat.ne_of_lt (Heap.lt_size e)) (by rw [e3]; exact Heap.get?_push_of_some _ e)
    let cenv : Env := compEnvC scope cl s3.heap.objs.size c.env
    let c' : Cx := ⟨c.w, c.s₀, c.base, c.A, cenv, (c.env.locals, m) :: c.outs, c.lv - 1⟩
    have IF : InFn c c' sc' cl := ⟨hrel, rfl, rfl, rfl, rfl, Nat.succ_pred_eq_of_pos hlv, rfl⟩
    have fkk : cenv.scope.kind = .function := hk
    have H' : COk c' := {
      X := H.X
      T := H.T
      fk := fkk
      gl := H.gl
      bu := H.bu
      dp := by show c.A.depth + (c.lv - 1) ≤ 900; have := H.dp; lia
      un := by show c.A.units + 10 * (c.lv - 1) ≤ 9000; have := H.un; lia
      sm := H.sm
      fr := by
        obtain ⟨l, hl, hfr⟩ := H.fr
        refine ⟨l, hl, fun e he => ?_⟩
        obtain ⟨a, L, b, d⟩ := hfr e he
        exact ⟨a, L, b, .tail _ d⟩ }
    have S4 : Sit prog c' [] (n2.set s2.heap.objs.size (.list [])) { s3 with heap := h₁, toks := s3.toks } := S3.enter (A' := c.A) (env' := cenv) (lv' := c.lv - 1) rfl (by rw [← e3]; exact hns₁) keep1 fun x v hx => by cases hx
    obtain ⟨hself, hinit⟩ := q2 s2.heap.objs.size a0 c' IF
    have loop : codeAny (model prog c.w) c.A (.compLoop (.ListComp elt [⟨target, iter, ifs, 0⟩] scope pos) 0 (.ref it) (.ref s2.heap.objs.size) cenv)
        (compPost (model prog c.w) c.A (Thrown prog c m X) none (fun x s' => ∃ n', Sit prog c m n' s' ∧ ∃ u, VIs u x ∧ Q u n') (.ref s2.heap.objs.size) cenv.locals) { s3 with heap := h₁, toks := s3.toks } := by
      refine compLoop_any (fun k s => ∃ i m' n', k = len - i ∧ Sit prog c' m' n' s ∧ I c' it s2.heap.objs.size i m' n') (fun k s ⟨i, m', n', hk, S', hi⟩ => ?_) len ⟨0, [], _, by lia, S4, hinit⟩
      obtain ⟨hl, T⟩ := hI c' it _ i m' n' IF hi
      refine wpAny_mono (T H' s S') (fun r s5 ⟨n5, S5, q5⟩ => ?_) fun _ _ q => q
      cases r with
      | none =>
        obtain ⟨_, mv, hns, _⟩ := S5.loc
        refine ⟨mv, hns, fun h' hs' => ⟨n5, ?_, _, .ref _, q5⟩⟩
        have SL : Sit prog c m n5 s5 := S5.leave
        have cn : n5 cenv.locals = none := by
          cases q : n5 cenv.locals with
          | none => rfl
          | some o => exact absurd (.head _) (S5.led _ _ q).2.2
        exact SL.turn (fun b => b = cenv.locals) (fun b q => q ▸ ⟨S5.loc.fresh, cn, (List.nodup_cons.mp S5.apart).1⟩) (fun b o hb hn _ => (hs'.2 b hn).trans hb)
          (fun b o hb hm => ⟨o.slots, (hs'.2 b fun q => (List.nodup_cons.mp S5.apart).1 (q ▸ hm)).trans hb⟩)
      | some x =>
        obtain ⟨u, hu, q5⟩ := q5
        refine wpAny_mono (q5 H' s5 S5 x hu) (fun _ s6 h6 => wpAny_mono h6 (fun _ s7 ⟨m7, n7, S7, q7⟩ => ?_) fun _ _ q => q) fun _ _ q => q
        refine wpAny_mono (ct_tests (c := c') H' S7 q7) (fun ok s8 ⟨n8, S8, q8⟩ => ?_) fun _ _ q => q
        cases ok with
        | false =>
          obtain ⟨m9, hs9, h9⟩ := q8
          have := (hI c' it _ _ _ _ IF h9).1
          exact ⟨len - (i + 1), by lia, i + 1, m9, n8, rfl, S8.weaken hs9, h9⟩
        | true =>
          refine wpAny_mono (q8 H' s8 S8) (fun v s9 ⟨n9, S9, u, hu, xs, hacc, hz, m9, hs9, h9⟩ => ?_) fun _ _ q => thrown_no q
          refine wpAny_mono (call_append (X := NoX) (Q := fun _ n' => n' = n9.set s2.heap.objs.size (.list (xs ++ [u]))) hacc hu hz rfl H' s9 S9) (fun r s10 ⟨n10, S10, u', _, e⟩ => ?_) fun _ _ q => thrown_no q
          subst e
          have := (hI c' it _ _ _ _ IF h9).1
          exact ⟨len - (i + 1), by lia, i + 1, m9, _, rfl, S10.weaken hs9, h9⟩
    exact codeAny_compStart_list loop (hself _ S4 loop)
  · exact q
end

-- part C2
set_option maxHeartbeats 2000000
section
variable {prog : Program} {c : Cx} {m : Loc} {n : Led} {X : Str → Led → Prop} {Q : V → Led → Prop}

/-- an object comes into sight -/
theorem Sit.see {s : Shared} (S : Sit prog c m n s) {a : Addr} {o : O} {ob : Obj} (hg : s.heap.get? a = some ob) (ho : OIs prog c.w o ob) (hb : Fresh c.base a o) (hn : a ∉ (c.env.locals :: c.outs.map (·.1))) : Sit prog c m (n.set a o) s :=
  { S with
    led := fun b o' e => by
      by_cases h : b = a
      · subst h
        rw [Led.set_self] at e
        cases e
        exact ⟨⟨ob, hg, ho⟩, hb, hn⟩
      · rw [Led.set_ne _ _ h] at e
        exact S.led b o' e }

noncomputable def Led.sets (n : Led) : List (Addr × O) → Led
  | [] => n
  | (a, o) :: r => (n.sets r).set a o
theorem Sit.sees {s : Shared} (S : Sit prog c m n s) : ∀ {l : List (Addr × O)}, (∀ p ∈ l, (∃ ob, s.heap.get? p.1 = some ob ∧ OIs prog c.w p.2 ob) ∧ c.base.objs.size ≤ p.1 ∧ p.1 ∉ (c.env.locals :: c.outs.map (·.1))) → Sit prog c m (n.sets l) s
  | [], _ => S
  | (a, o) :: r, h => by
    obtain ⟨⟨ob, h1, h2⟩, h3, h4⟩ := h _ (.head _)
    exact (S.sees fun p hp => h p (.tail _ hp)).see h1 h2 (.inl h3) h4
theorem sets_get {l : List (Addr × O)} (nd : (l.map (·.1)).Nodup) {a : Addr} {o : O} (h : (a, o) ∈ l) : n.sets l a = some o := by
  induction l with
  | nil => cases h
  | cons p r ih =>
    obtain ⟨b, o'⟩ := p
    rw [List.map_cons, List.nodup_cons] at nd
    rcases List.mem_cons.mp h with h | h
    · cases h; exact Led.set_self _ _ _
    · have : a ≠ b := fun q => nd.1 (by rw [← q]; exact List.mem_map_of_mem (f := (·.1)) h)
      exact (Led.set_ne _ _ this).trans (ih nd.2 h)
theorem sets_other : ∀ {l : List (Addr × O)} {a : Addr}, (∀ p ∈ l, p.1 ≠ a) → n.sets l a = n a
  | [], _, _ => rfl
  | (b, o) :: r, a, h => (Led.set_ne _ _ (Ne.symm (h _ (.head _)))).trans (sets_other fun p hp => h p (.tail _ hp))

theorem bindL_not {k : Str → Option NameKind} : ∀ {binds : List (Str × Value)} {m : Str → Option Value} {x : Str}, (∀ kv ∈ binds, kv.1 ≠ x) → bindL k binds m x = m x
  | [], _, _, _ => rfl
  | (y, v) :: r, m, x, h => by
    unfold bindL
    rw [bindL_not fun kv hk => h kv (.tail _ hk)]
    have : x ≠ y := Ne.symm (h _ (.head _))
    split
    · exact if_neg this
    · rfl
theorem bindL_get {k : Str → Option NameKind} : ∀ {binds : List (Str × Value)} {m : Str → Option Value} {x : Str} {v : Value}, (binds.map (·.1)).Nodup → k x = some .local → binds.lookup x = some v → bindL k binds m x = some v
  | [], _, _, _, _, _, h => by cases h
  | (y, u) :: r, m, x, v, nd, hk, h => by
    rw [List.map_cons, List.nodup_cons] at nd
    rw [List.lookup_cons] at h
    unfold bindL
    cases e : x == y with
    | true =>
      rw [e] at h; cases h
      have e := eq_of_beq e
      subst e
      rw [bindL_not fun kv hkv q => nd.1 (by have := List.mem_map_of_mem (f := (·.1)) hkv; rw [q] at this; exact this), if_pos hk, if_pos rfl]
    | false => rw [e] at h; exact bindL_get nd.2 hk h
theorem bindC_not {k : Str → Option NameKind} : ∀ {binds : List (Str × Value)} {m : Str → Option Value} {x : Str}, (∀ kv ∈ binds, kv.1 ≠ x) → bindC k binds m x = m x
  | [], _, _, _ => rfl
  | (y, v) :: r, m, x, h => by
    unfold bindC
    rw [bindC_not fun kv hk => h kv (.tail _ hk)]
    have : x ≠ y := Ne.symm (h _ (.head _))
    split
    · rfl
    · exact if_neg this
theorem bindC_get {k : Str → Option NameKind} : ∀ {binds : List (Str × Value)} {m : Str → Option Value} {x : Str} {v : Value}, (binds.map (·.1)).Nodup → k x = some .cell → binds.lookup x = some v → bindC k binds m x = some v
  | [], _, _, _, _, _, h => by cases h
  | (y, u) :: r, m, x, v, nd, hk, h => by
    rw [List.map_cons, List.nodup_cons] at nd
    rw [List.lookup_cons] at h
    unfold bindC
    cases e : x == y with
    | true =>
      rw [e] at h; cases h
      have e := eq_of_beq e
      subst e
      rw [bindC_not fun kv hkv q => nd.1 (by have := List.mem_map_of_mem (f := (·.1)) hkv; rw [q] at this; exact this), if_neg (by rw [hk]; decide), if_pos rfl]
    | false => rw [e] at h; exact bindC_get nd.2 hk h
theorem lookup_none_ne {α : Type} {l : List (Str × α)} {x : Str} (h : l.lookup x = none) : ∀ kv ∈ l, kv.1 ≠ x := by
  induction l with
  | nil => intro kv hk; cases hk
  | cons kv l ih =>
    intro kv' hk
    rw [List.lookup_cons] at h
    cases e : x == kv.1 with
    | true => rw [e] at h; cases h
    | false =>
      rw [e] at h
      rcases List.mem_cons.mp hk with rfl | hk
      · exact fun q => by rw [q] at e; simp at e
      · exact ih h kv' hk

theorem zip_none {x : Str} : ∀ {ns : List Str} {us : List V} {xs : List Value}, VRel us xs → (ns.zip us).lookup x = none → (ns.zip xs).lookup x = none
  | [], _, _, _, _ => rfl
  | _ :: _, [], _, .nil, _ => rfl
  | y :: ns, u :: us, z :: xs, .cons hu hr, h => by
    rw [List.zip_cons_cons, List.lookup_cons] at h ⊢
    cases hxy : x == y with
    | true => rw [hxy] at h; cases h
    | false => rw [hxy] at h; exact zip_none hr h

/-- the cell that a name's def made -/
noncomputable def CellFor (n : Led) (env : Env) (x : Str) (v : Option V) : Prop := ∃ a, env.cells.lookup x = some a ∧ match v with | some v => n a = some (.cell v) | none => ∃ o, n a = some (.raw o) ∧ o.data = .cell none

theorem nodup_addr {cs : List (Str × Option V)} {g : Str → Addr} (nd : (cs.map (·.1)).Nodup) (inj : ∀ p ∈ cs, ∀ q ∈ cs, g p.1 = g q.1 → p.1 = q.1) : (cs.map fun p => g p.1).Nodup := by
  induction cs with
  | nil => exact List.nodup_nil
  | cons p cs ih =>
    rw [List.map_cons, List.nodup_cons] at nd ⊢
    refine ⟨fun q => ?_, ih nd.2 fun p hp q hq => inj p (.tail _ hp) q (.tail _ hq)⟩
    obtain ⟨p', hp', e⟩ := List.mem_map.mp q
    exact nd.1 (inj p' (.tail _ hp') p (.head _) e ▸ List.mem_map_of_mem (f := (·.1)) hp')

/-- the body of a def with captured names -/
theorem fn_bodyC {f : Addr} {args : List V} {name qual : Str} {params : Arguments} {body : List Stmt} {scope : Scope} {dV kV doc pm cdv ct oc : Value} {an od : Option Addr} {osl : Array (Option Value)}
    (ho : (KK c.w).lookup f = some ⟨oc, od, .func (fnOf name qual params body scope dV kV doc pm an cdv ct), osl⟩) (hcd : codeIn (KK c.w) cdv qual = true) (hlv : 0 < c.lv)
    (hb : ∀ vals, VRel args vals → bindArgs (fnOf name qual params body scope dV kV doc pm an cdv ct) ⟨vals, []⟩ = pure ((params.args.map (·.arg)).zip vals))
    (hnd : (params.args.map (·.arg)).Nodup)
    (hkind : ∀ x ∈ params.args.map (·.arg), scope.names.lookup x = some .local ∨ (scope.names.lookup x = some .cell ∧ ∀ k, ((cellsFrom k scope.names []).lookup x).isSome = true))
    (m' : Loc) (hm' : ∀ x v, m'.lookup x = some v → scope.names.lookup x = some .local ∧ ((params.args.map (·.arg)).zip args).lookup x = some v)
    (cs : List (Str × Option V)) (hcs : ∀ p ∈ cs, scope.names.lookup p.1 = some .cell ∧ ((params.args.map (·.arg)).zip args).lookup p.1 = p.2 ∧ ∀ k, ((cellsFrom k scope.names []).lookup p.1).isSome = true) (hcn : (cs.map (·.1)).Nodup)
    (h : ∀ c' n', InFn c c' scope c'.env.cells → c'.env.frame = some c'.env.locals → (∃ l, c'.A.frames = some (c'.env :: l)) → Keeps [] n n' → (∀ p ∈ cs, CellFor n' c'.env p.1 p.2) → Ex prog c' m' n' (execs body c'.env) (fun _ n' => Q .none n') Q X)
    (hco : scope.isCoroutine = false := by rfl) (hgen : scope.isGenerator = false := by rfl) (hk : scope.kind = .function := by rfl) :
    Fn prog c n (.ref f) args Q X := fun m H s S vals hv => by
  obtain ⟨mg, mb, T⟩ := H.T
  have hroom : c.A.depth < recursionLimit := Nat.lt_of_le_of_lt (Nat.le_trans (Nat.le_add_right _ _) H.dp) (by decide)
  have keys : ((params.args.map (·.arg)).zip vals).map (·.1) |>.Nodup := by
    have : ∀ (a : List Str) (b : List Value), a.Nodup → ((a.zip b).map (·.1)).Nodup := by
      intro a
      induction a with
      | nil => intro b _; exact List.nodup_nil
      | cons x a ih =>
        intro b hx
        cases b with
        | nil => exact List.nodup_nil
        | cons y b =>
          rw [List.zip_cons_cons, List.map_cons, List.nodup_cons]
          refine ⟨fun q => ?_, ih b (List.nodup_cons.mp hx).2⟩
          obtain ⟨z, hz, e⟩ := List.mem_map.mp q
          exact (List.nodup_cons.mp hx).1 ((show z.1 = x from e) ▸ (List.of_mem_zip hz).1)
    exact this _ _ hnd
  have hdp := H.dp
  have hun := H.un
  refine codeAny_call_function hroom (S.keep _ _ (H.X _ _ ho)) rfl hco hgen rfl ((codeRec_of H.X hcd).keeps S.keep) (BindsTo.of_eq (hb vals hv) _ _ _ _ ?_)
  refine wpAny_newFunctionEnv_cells hk (fun y hy => (hkind _ (List.of_mem_zip hy).1).imp id fun q => ⟨q.1, q.2 _⟩) fun env' he s' x => ?_
  subst he
  refine ⟨(T.nolimit.keeps S.keep).keeps x.toInCall.keep, codeAny_func ?_⟩
  generalize hE : newEnv scope s.heap.objs.size _ (cellsFrom (s.heap.objs.size + 1) scope.names []) _ _ _ none _ = env' at x ⊢
  have fsc : env'.scope = scope := by rw [← hE]; rfl
  have floc : env'.locals = s.heap.objs.size := by rw [← hE]; rfl
  have fcells : env'.cells = cellsFrom (s.heap.objs.size + 1) scope.names [] := by rw [← hE]; rfl
  have fgl : env'.globals = mainGlobals := by rw [← hE]; rfl
  have fbu : env'.builtins = builtinsNs := by rw [← hE]; rfl
  have ffr : env'.frame = some env'.locals := by rw [← hE]; rfl
  have fkd : ∀ x, env'.kindOf x = scope.names.lookup x := fun x => by rw [← hE]; rfl
  clear hE
  obtain ⟨h₁, tk, rfl, hk₁⟩ := x.done
  obtain ⟨l, hl, _⟩ := H.fr
  let c' : Cx := ⟨c.w, c.s₀, c.base, c.A.deeper env', env', (c.env.locals, m) :: c.outs, c.lv - 1⟩
  have H' : COk c' := H.enter (by rw [fsc]; exact hk) fgl fbu ffr (by show c.A.depth + 1 + (c.lv - 1) ≤ 900; lia) (by show c.A.units + 3 + 10 * (c.lv - 1) ≤ 9000; lia) fun l hl => Around.frames_deeper hl
  have S' : Sit prog c' m' n { s with heap := h₁, toks := tk } := S.enter floc (floc ▸ x.toInCall.ns) hk₁ fun y v hy => by
    obtain ⟨hl, hz⟩ := hm' y v hy
    obtain ⟨v', hv', hi⟩ := zip_rel hv hz
    exact ⟨v', bindL_get keys (by rw [fkd]; exact hl) hv', hi⟩
  let g : Str → Addr := fun y => (env'.cells.lookup y).getD 0
  have hg : ∀ p ∈ cs, env'.cells.lookup p.1 = some (g p.1) := fun p hp => by
    obtain ⟨_, _, q⟩ := hcs p hp
    have := q (s.heap.objs.size + 1)
    rw [← fcells] at this
    obtain ⟨a, ha⟩ := Option.isSome_iff_exists.mp this
    show _ = some ((env'.cells.lookup p.1).getD 0)
    rw [ha]; rfl
  let o : Str × Option V → O := fun p => match p.2 with | some v => .cell v | none => .raw ((h₁.get? (g p.1)).getD { cls := .none, data := .plain })
  have cell : ∀ p ∈ cs, ∃ ob, h₁.get? (g p.1) = some ob ∧ OIs prog c.w (o p) ob ∧ (p.2 = none → ob.data = .cell none) := fun p hp => by
    obtain ⟨ob, h1, h2⟩ := x.cell p.1 (g p.1) (hg p hp)
    refine ⟨ob, h1, ?_, fun e => ?_⟩
    · obtain ⟨hk1, hz, _⟩ := hcs p hp
      cases e : p.2 with
      | none => simp only [o, e]; show ob = _; rw [h1]; rfl
      | some v =>
        rw [e] at hz
        obtain ⟨v', hv', hi⟩ := zip_rel hv hz
        simp only [o, e]
        exact ⟨v', by rw [h2, bindC_get keys (by rw [fkd]; exact hk1) hv'], hi⟩
    · obtain ⟨hk1, hz, _⟩ := hcs p hp
      rw [e] at hz
      rw [h2, bindC_not (lookup_none_ne (zip_none hv hz))]
  let l := cs.map fun p => (g p.1, o p)
  have lmem : ∀ p ∈ l, ∃ q ∈ cs, p = (g q.1, o q) := fun p hp => by
    obtain ⟨q, hq, e⟩ := List.mem_map.mp hp
    exact ⟨q, hq, e.symm⟩
  have above : ∀ p ∈ cs, s.heap.objs.size < g p.1 := fun p hp => floc ▸ x.above p.1 (g p.1) (mem_of_lookup (hg p hp))
  have nodup : (l.map (·.1)).Nodup := by
    have e : l.map (·.1) = cs.map fun p => g p.1 := by simp only [l, List.map_map]; rfl
    rw [e]
    refine nodup_addr hcn fun p hp q hq e => ?_
    have h1 := mem_of_lookup (hg p hp)
    have h2 := mem_of_lookup (hg q hq)
    rw [← e] at h2
    exact name_of_addr x.apart h1 h2
  have S'' : Sit prog c' m' (n.sets l) { s with heap := h₁, toks := tk } := S'.sees fun p hp => by
    obtain ⟨q, hq, rfl⟩ := lmem p hp
    obtain ⟨ob, h1, h2, _⟩ := cell q hq
    have ab := above q hq
    refine ⟨⟨ob, h1, h2⟩, Nat.le_trans S.size (Nat.le_of_lt ab), fun hm => ?_⟩
    rcases List.mem_cons.mp hm with e | hm
    · have e : g q.1 = env'.locals := e
      rw [e, floc] at ab; exact absurd ab (Nat.lt_irrefl _)
    · have := (S.ns _ hm).1
      exact absurd (Nat.lt_trans this ab) (Nat.lt_irrefl _)
  have kps : Keeps [] n (n.sets l) := fun b hb _ => sets_other fun p hp e => by
    obtain ⟨q, hq, rfl⟩ := lmem p hp
    cases hn : n b with
    | none => exact hb hn
    | some o' =>
      have h1 := S.lt hn
      have h2 := above q hq
      have e : g q.1 = b := e
      rw [e] at h2; exact absurd (Nat.lt_trans h1 h2) (Nat.lt_irrefl _)
  have cf : ∀ p ∈ cs, CellFor (n.sets l) env' p.1 p.2 := fun p hp => by
    have hm : (g p.1, o p) ∈ l := List.mem_map_of_mem (f := fun p => (g p.1, o p)) hp
    have e := sets_get (n := n) nodup hm
    refine ⟨g p.1, hg p hp, ?_⟩
    cases hpe : p.2 with
    | some v => simp only [o, hpe] at e; exact e
    | none =>
      obtain ⟨ob, h1, h2, h3⟩ := cell p hp
      simp only [o, hpe, h1] at e
      exact ⟨ob, e, h3 hpe⟩
  have IF : InFn c c' scope c'.env.cells := ⟨fsc, rfl, rfl, rfl, rfl, Nat.succ_pred_eq_of_pos hlv, rfl⟩
  obtain ⟨l0, hl0, _⟩ := H.fr
  refine wpAny_mono (h c' _ IF ffr ⟨l0, Around.frames_deeper hl0⟩ kps cf H' _ S'') (fun fl s' q => ?_) fun e s' ⟨m', q⟩ => ?_
  · cases fl with
    | next => obtain ⟨m', n', a, b⟩ := q; exact ⟨.none, n', .none, a.leave, b⟩
    | ret v => obtain ⟨u, m', n', i, a, b⟩ := q; exact ⟨u, n', i, a.leave, b⟩
    | _ => exact q.elim
  · exact wpAny_mono (wp_leaving H' ffr (Around.frames_deeper hl0) q) (fun _ s'' q' => q'.leave) fun _ _ q' => q'.elim
end

-- part C3
section
open PySem.SeqAt (EqAt RcNeAt)
set_option maxHeartbeats 2000000
section
variable {prog : Program} {c : Cx} {m : Loc} {n : Led} {X : Str → Led → Prop} {Q : V → Led → Prop}
theorem units_ok (H : COk c) : c.A.units < cLine := by have := H.un; have : cLine = 9900 := rfl; lia
theorem cmp_ne_nil {a b : Addr} {us : List V} (ha : n a = some (.list us)) (hb : n b = some (.list [])) (h : Q (.bool (decide (us ≠ []))) n) : Cmp prog c m n .NotEq (.ref a) (.ref b) Q X := by
  rintro _ _ ⟨⟩ ⟨⟩
  refine Ev.of fun H s S => ?_
  obtain ⟨_, vs, _, g2, _, g3⟩ := S.list ha
  obtain ⟨_, vs', _, k2, _, k3⟩ := S.list hb
  have e2 : vs'.size = 0 := by rw [← Array.length_toList, ← k3.length]; rfl
  have e1 : vs.size = us.length := by rw [← Array.length_toList, ← g3.length]
  show wpAny _ _ (richCompare .NotEq (.ref a) (.ref b)) _ _ s
  cases us with
  | nil =>
    have e : vs.size = vs'.size := by rw [e1, e2]; rfl
    refine RcNeAt.lists (e := fun _ => true) g2 k2 e (units_ok H) (fun j h1 => absurd h1 (by rw [e1]; exact Nat.not_lt_zero _)) _ _ _ _ ⟨_, n, ?_, S, h⟩
    rw [e1]; exact .bool _
  | cons u us =>
    refine RcNeAt.lists_lengths g2 k2 (by rw [e1, e2]; simp) (units_ok H) _ _ _ _ ⟨_, n, ?_, S, h⟩
    exact .bool _
end
end

-- part C4
set_option maxHeartbeats 2000000
theorem ev_cl {prog : Program} {c c0 : Cx} {m : Loc} {n : Led} {X : Str → Led → Prop} {Q : V → Led → Prop} {pos : Pos} {x : Str} {v : V} {sc : Scope} {cl : List (Str × Addr)} {a : Addr} (h : Q v n) (I : InFn c0 c sc cl := by assumption)
    (hk : sc.names.lookup x = some .cell := by with_unfolding_all first | rfl | assumption) (hc : c.env.cells.lookup x = some a := by with_unfolding_all assumption) (ha : n a = some (.cell v) := by with_unfolding_all assumption)
    (hd : (x == ("__debug__" : Str)) = false := by with_unfolding_all first | rfl | assumption) : Ev prog c m n (eval (.Name x pos) c.env) Q X := ev_cell I.scope hk hc ha h hd
local macro_rules | `(tactic| wtm_at "go1") => mac_go [("Ev.Name.2", "ev_loc/? ev_cl/?"), ("Cmp", "cmp_ne_nil/aa?")]
section
variable {prog : Program} [ProgOk prog] {c : Cx} {n : Led} {X : Str → Led → Prop} {a : Ads} {W : WS} {Q : V → Led → Prop}
noncomputable def holders (W : WS) (nm : Str) : List V := (W.op.filter fun kv => decide (kv.2.name = nm)).map fun kv => .int kv.1

theorem ev_holders {y : Str} {m : Loc} {nm : Str} {aw ax : Addr} {p1 p2 p3 p4 p5 p6 p7 p8 p9 p10 p11 p12 pos : Pos} {kd : Nat} {sc : Scope} (hlv : 2 < c.lv) (hh : c.A.handled = none) (R : Rep n a W)
    (hs : c.env.scope = sc) (hk : sc.kind = .function) (kw : sc.names.lookup ("world" : Str) = some .cell) (kx : sc.names.lookup y = some .cell)
    (hcw : c.env.cells.lookup ("world" : Str) = some aw) (hnw : n aw = some (.cell (.ref a.wa))) (hcx : c.env.cells.lookup y = some ax) (hnx : n ax = some (.cell (.str nm)))
    (h : ∀ acc n', Keeps [] n n' → n' acc = some (.list (holders W nm)) → Q (.ref acc) n') (hz : W.op.length ≤ sizeLine) (y0 : (y == (".0" : Str)) = false := by decide) (y1 : (y == ("channel" : Str)) = false := by decide) (y2 : (y == ("world" : Str)) = false := by decide) (y3 : (("world" : Str) == y) = false := by decide) (y4 : (y == ("__debug__" : Str)) = false := by decide) :
    Ev prog c m n (eval (.ListComp (.Name "channel" p1) [⟨.Name "channel" p2, .Attribute (.Name "world" p3) "open" p4, [.Compare (.Subscript (.Subscript (.Attribute (.Name "world" p5) "open" p6) (.Name "channel" p7) p8) (.Constant (.str "name") kd p9) p10) [.Eq] [.Name y p11] p12], 0⟩]
      { kind := .function, names := [((".0" : Str), .local), ("channel", .local), (y, .free), ("world", .free)], isGenerator := false, isCoroutine := false } pos) c.env) Q X := by
  have hclos : closureFor { kind := .function, names := [((".0" : Str), .local), ("channel", .local), (y, .free), ("world", .free)], isGenerator := false, isCoroutine := false } c.env = pure [(("world" : Str), aw), (y, ax)] := by
    simp [closureFor, cellOf, hcw, hcx]
  have hrel : relabel { kind := .function, names := [((".0" : Str), .local), ("channel", .local), (y, .free), ("world", .free)], isGenerator := false, isCoroutine := false } c.env =
      { kind := .function, names := [((".0" : Str), .local), ("channel", .local), (y, .cell), ("world", .cell)], isGenerator := false, isCoroutine := false } := by
    simp [relabel, hs, hk, Env.kindOf, kw, kx]
  refine ev_comp W.op.length (fun c2 it acc i m' n' => m' = [] ∧ i ≤ W.op.length ∧ n it = none ∧ n acc = none ∧ it ≠ acc ∧ Keeps [] n n' ∧
      (∃ ep, n' a.oa = some (.idd (openE a W) ep) ∧ ItOf n' it "dict_keyiterator" #[.ref a.oa, .int i 0, .int (openE a W).length 0, .int ep 0]) ∧
      n' acc = some (.list (((W.op.take i).filter fun kv => decide (kv.2.name = nm)).map fun kv => .int kv.1))) hclos hrel rfl (by lia) (by simp) (by simp [List.lookup]; rfl) ?_ ?_
  · refine ev_attr (ev_cell hs kw hcw hnw (at_open R ?_) (by rfl))
    obtain ⟨ep, ho⟩ := R.op
    refine it_idd ho fun it n1 hn hk1 hit acc hacc c2 I2 => ?_
    have ne : it ≠ acc := fun q => by subst q; obtain ⟨o, ho, _⟩ := hit; rw [hacc] at ho; cases ho
    have hn2 : n acc = none := by
      cases q : n acc with
      | none => rfl
      | some o => have := hk1 acc (by rw [q]; exact Option.some_ne_none _) List.not_mem_nil; rw [hacc, q] at this; cases this
    have hit2 := hit.grow (keeps_new (o := .list []) hacc)
    exact ⟨self_dict hit2, rfl, Nat.zero_le _, hn, hn2, ne, hk1.trans (keeps_new hacc), ⟨ep, ((keeps_new hacc) _ (by rw [hk1 _ (by rw [ho]; exact Option.some_ne_none _) List.not_mem_nil, ho]; exact fun q => nomatch q) (fun q => nomatch q)).trans (hk1.at ho), hit2⟩, Led.set_self _ _ _⟩
  · intro c2 it acc i m' n' I2 ⟨e, hi, hn1, hn2, ne, hk, ⟨ep, ho, hit⟩, hacc⟩
    subst e
    refine ⟨hi, ?_⟩
    have kp : ∀ n3, Keeps [it] n' n3 → Keeps [] n n3 := fun n3 hk3 b hb hf => (hk3 b (by rw [hk b hb hf]; exact hb) (by simp only [List.mem_singleton]; intro q; rw [q] at hb; exact hb hn1)).trans (hk b hb hf)
    have ka : ∀ n3, Keeps [it] n' n3 → n3 acc = n' acc := fun n3 hk3 => hk3 acc (by rw [hacc]; exact Option.some_ne_none _) (by simp only [List.mem_singleton]; exact Ne.symm ne)
    refine nx_idd (I2.hd.trans hh) hit ho (fun kv n3 hkv hk3 hit' => ?_) (fun n3 hnone hk3 => ?_)
    · obtain ⟨r, hr, hv⟩ := open_at hkv
      obtain ⟨ch, v⟩ := kv
      have hk4 := kp n3 hk3
      have R3 := R.grow hk4
      have hg : aget W.op ch = some r := aget_of_mem R.keysNodup (List.mem_of_getElem? hr)
      have hl : i < W.op.length := (List.getElem?_eq_some_iff.mp hr).1
      have hcw2 : c2.env.cells.lookup ("world" : Str) = some aw := by rw [I2.cells]; rfl
      have hcx2 : c2.env.cells.lookup y = some ax := by rw [I2.cells]; simp [List.lookup, y2]
      have kw2 : List.lookup ("world" : Str) [((".0" : Str), NameKind.local), ("channel", .local), (y, .cell), ("world", .cell)] = some .cell := by simp [List.lookup, y3]; decide
      have kx2 : List.lookup y [((".0" : Str), NameKind.local), ("channel", .local), (y, .cell), ("world", .cell)] = some .cell := by simp [List.lookup, y0, y1]
      have hnw3 : n3 aw = some (.cell (.ref a.wa)) := hk4.at hnw
      have hnx3 : n3 ax = some (.cell (.str nm)) := hk4.at hnx
      have hacc3 := (ka n3 hk3).trans hacc
      have ho3 : n3 a.oa = some (.idd (openE a W) ep) := (hk3 _ (by rw [ho]; exact Option.some_ne_none _) (by simpa using hit.ne ho fun _ q => nomatch q)).trans ho
      have tk := take_succ_filter (fun kv : Int × Rc => decide (kv.2.name = nm)) W.op i _ hr
      refine asg_name I2.scope (by rfl) ?_
      show Tt _ _ _ _ _ _ _
      wtm_at "go"
      by_cases q : r.name = nm
      · rw [if_pos (by simpa using q)]
        refine ev_local I2.scope (by rfl) (by rfl) ?_
        refine ⟨_, hacc3, ?_, [], fun x v h => (by cases h), rfl, hl, hn1, hn2, ne, fun b hb hf => (Led.set_ne _ _ fun e => by rw [e] at hb; exact hb hn2).trans (hk4 b hb hf), ⟨ep, (Led.set_ne _ _ fun e => by rw [e, hacc3] at ho3; cases ho3).trans ho3, ?_⟩, ?_⟩
        · rw [List.length_map]
          have := List.length_filter_le (fun kv : Int × Rc => decide (kv.2.name = nm)) (W.op.take i)
          rw [List.length_take] at this
          lia
        · obtain ⟨o, ho, r⟩ := hit'
          exact ⟨o, (Led.set_ne _ _ ne).trans ho, r⟩
        · rw [tk, Led.set_self]
          simp [q]
      · rw [if_neg (by simpa using q)]
        refine ⟨[], fun x v h => (by cases h), rfl, hl, hn1, hn2, ne, hk4, ⟨ep, ho3, hit'⟩, ?_⟩
        rw [tk, hacc3]
        simp [q]
    · refine h acc n3 (kp n3 hk3) ?_
      rw [ka n3 hk3, hacc]
      have hl : W.op.length ≤ i := by
        rw [List.getElem?_eq_none_iff] at hnone
        unfold openE at hnone; rw [length_mapV] at hnone; exact hnone
      rw [List.take_of_length_le hl]
      rfl
end

-- part C5
set_option maxHeartbeats 2000000
noncomputable def killP (W : WS) (nm : Str) : Except Str WS := if aget W.files nm = none then .error "FF" else if holders W nm ≠ [] then .error "AO" else .ok { W with files := adel W.files nm }
theorem mb_pop_files' {prog : Program} {c : Cx} {m : Loc} {n : Led} {X : Str → Led → Prop} {Q : V → Led → Prop} {a : Ads} {W : WS} {nm t : Str} (R : Rep n a W) (hk : aget W.files nm = some t) (hz : W.files.length ≤ sizeLine) (h : ∀ n', Rep n' a { W with files := adel W.files nm } → Step n a W n' a { W with files := adel W.files nm } → Q (.str t) n') : MB prog c m n (.ref a.fa) "dict.pop" [.str nm] Q X :=
  mb_pop_files R hz hk fun n' S => h n' S.rep S
theorem cmp_ne_nil2 {prog : Program} {c : Cx} {m : Loc} {n n0 : Led} {X : Str → Led → Prop} {Q : V → Led → Prop} {a b : Addr} {us : List V} (hk : Keeps [] n0 n) (ha : n0 a = some (.list us)) (hb : n b = some (.list [])) (h : Q (.bool (decide (us ≠ []))) n) : Cmp prog c m n .NotEq (.ref a) (.ref b) Q X :=
  cmp_ne_nil (hk.at ha) hb h
local macro_rules | `(tactic| wtm_at "num") => `(tactic| (
  have hz := szl
  have hb : BM = 4000000 := rfl
  obtain ⟨g1, g2, g3, _, _, _⟩ := (by assumption : Good _ _)
  lia))
theorem ev_cellK {prog : Program} {c : Cx} {m : Loc} {n n0 : Led} {X : Str → Led → Prop} {Q : V → Led → Prop} {pos : Pos} {x : Str} {v : V} {sc : Scope} {a : Addr} (hs : c.env.scope = sc) (hk : sc.names.lookup x = some .cell) (hc : c.env.cells.lookup x = some a) (ha : n0 a = some (.cell v)) (hg : Keeps [] n0 n) (h : Q v n)
    (hd : (x == ("__debug__" : Str)) = false := by with_unfolding_all rfl) : Ev prog c m n (eval (.Name x pos) c.env) Q X := ev_cell hs hk hc (hg.at ha) h hd
theorem ev_clK {prog : Program} {c c0 : Cx} {m : Loc} {n n0 : Led} {X : Str → Led → Prop} {Q : V → Led → Prop} {pos : Pos} {x : Str} {v : V} {sc : Scope} {cl : List (Str × Addr)} {a : Addr} (h : Q v n) (I : InFn c0 c sc cl := by assumption)
    (hk : sc.names.lookup x = some .cell := by with_unfolding_all rfl) (hc : c.env.cells.lookup x = some a := by with_unfolding_all assumption) (ha : n0 a = some (.cell v) := by with_unfolding_all assumption) (hg : Keeps [] n0 n := by with_unfolding_all wtm_at "grown")
    (hd : (x == ("__debug__" : Str)) = false := by with_unfolding_all rfl) : Ev prog c m n (eval (.Name x pos) c.env) Q X := ev_cellK I.scope hk hc ha hg h hd
local macro_rules | `(tactic| wtm_at "go1") => mac_go [("Ev.Name.2", "ev_loc/? ev_clK/?"), ("Cmp", "cmp_ne_nil2/aaa?"), ("MB", "mb_pop_files'/aa?3")]
section
variable {prog : Program} [ProgOk prog] {c : Cx} {n : Led} {X : Str → Led → Prop} {a : Ads} {W : WS} {Q : V → Led → Prop}
theorem fn_kill_file {B : Nat} {nm : Str} (hlv : 9 < c.lv) (hh : c.A.handled = none) (R : Rep n a W) (G : Good B W) (hB : B ≤ BM)
    (h1 : ∀ n' W', Rep n' a W' → Step n a W n' a W' → killP W nm = .ok W' → Q .none n') (h2 : ∀ k n', Rep n' a W → Step n a W n' a W → killP W nm = .error k → X k n') :
    Fn prog c n (.ref 75) [.ref a.wa, .str nm] Q X := by
  refine fn_bodyC (by rfl) (by kernel_rfl) (Nat.zero_lt_of_lt hlv) (by wtm_at "args") (by decide) ?_ [] (by intro x v h; cases h) [("world", some (.ref a.wa)), ("name", some (.str nm))] ?_ (by show [("world" : Str), "name"].Nodup; decide) ?_
  · intro x hx
    simp only [List.map_cons, List.map_nil, List.mem_cons, List.not_mem_nil, or_false] at hx
    rcases hx with rfl | rfl <;> exact .inr ⟨rfl, fun k => rfl⟩
  · intro p hp
    simp only [List.mem_cons, List.not_mem_nil, or_false] at hp
    rcases hp with rfl | rfl <;> exact ⟨rfl, rfl, fun k => rfl⟩
  intro c' n1 I hfr hfs hk1 hcf
  obtain ⟨aw, hcw, hnw⟩ := hcf _ (.head _)
  obtain ⟨an, hcn, hnn⟩ := hcf _ (.tail _ (.head _))
  have S1 := R.stepGrow hk1
  have R1 := S1.rep
  dsimp only at hcw hnw hcn hnn
  wtm_at "go"
  · refine ev_holders (by wtm_at "side") (by wtm_at "side") R1 I.scope (by rfl) (by rfl) (by rfl) hcw hnw hcn hnn (fun acc n2 hk2 hacc => ?_) (by have := G.ol; have : BM = 4000000 := rfl; rw [szl]; lia)
    have S2 := R1.stepGrow hk2
    have R2 := S2.rep
    wtm_at "go"
    all_goals first
      | wtm_at "off"
      | wtm_at "side"
      | wtm_at "num"
      | (refine h1 _ _ (by assumption) (by wtm_at "chain") ?_; simp_all [killP]; done)
      | (refine h2 _ _ (by assumption) (by wtm_at "chain") ?_; simp_all [killP]; done)
  all_goals first
    | wtm_at "off"
    | wtm_at "side"
    | (refine h2 _ _ (by assumption) (by wtm_at "chain") ?_; simp_all [killP]; done)
end

-- part C6
set_option maxHeartbeats 2000000
section
variable {prog : Program} {c : Cx} {m : Loc} {n : Led} {X : Str → Led → Prop}
set_option tactic.hygienic true in
theorem it_ascii {x : Str} {Q : Addr → Led → Prop} (hx : x.cps.all (· < 128) = true) (h : ∀ it n' t, n it = none → Keeps [] n n' → ItOf n' it "str_ascii_iterator" #[.str x t, .int 0 0] → Q it n') : PIt prog c m n (.str x) Q := by
  rintro _ ⟨⟩ H s S
  rename_i t
  refine wpAny_pyIter_ascii hx ?_
  obtain ⟨h0, S'⟩ := S.new (tk := s.toks) (o := .raw { cls := .type "str_ascii_iterator", data := .fields #[.str x t, .int 0 0] }) (a := s.heap.objs.size) (fun b o e => Heap.get?_push_of_some { cls := .type "str_ascii_iterator", data := .fields #[.str x t, .int 0 0] } e) (Nat.le_refl _) (Heap.get?_push_size _ rfl) rfl
  exact ⟨_, _, rfl, S', h _ _ t h0 (keeps_new h0) ⟨_, Led.set_self _ _ _, rfl, rfl⟩⟩
theorem self_ascii {it : Addr} {i : Nat} {x : Str} {t : Tok} (h : ItOf n it "str_ascii_iterator" #[.str x t, .int i 0]) : SelfIt prog c m n it := fun s S _ _ _ hq => by
  obtain ⟨o, hn, hc, hd⟩ := h
  obtain ⟨⟨ob, hob, e⟩, _⟩ := S.led it _ hn
  have e : ob = o := e
  subst e
  exact wpAny_pyIter_striter_ascii (i := i) ⟨_, hob, hc, hd⟩ hq
theorem nx_ascii {it : Addr} {i : Nat} {x : Str} {t : Tok} {Q : Option V → Led → Prop} (hh : c.A.handled = none) (hi : ItOf n it "str_ascii_iterator" #[.str x t, .int i 0])
    (h1 : ∀ cp n', x.cps[i]? = some cp → Keeps [it] n n' → ItOf n' it "str_ascii_iterator" #[.str x t, .int ((i + 1 : Nat) : Int) 0] → Q (some (.str ⟨#[cp]⟩)) n') (h2 : ∀ n', x.cps[i]? = none → Keeps [it] n n' → Q none n') : Nxt prog c m n it Q := fun H s S => by
  obtain ⟨o, hn, hc, hd⟩ := id hi
  obtain ⟨⟨ob, hob, e⟩, _⟩ := S.led it _ hn
  have e : ob = o := e
  subst e
  cases hx : x.cps[i]? with
  | some cp =>
    refine wpAny_pyNext_ascii_item (i := i) ⟨_, hob, hc, hd⟩ hx fun h' ⟨o', k1, k2, k3⟩ hs => ?_
    have S' := S.set (tk := s.toks + 1) (o' := .raw o') hn hs k1 rfl
    exact ⟨_, S', _, .str _ _, h1 cp _ hx keeps_set ⟨o', Led.set_self _ _ _, k2, k3⟩⟩
  | none =>
    refine wpAny_pyNext_ascii_end hh (i := i) ⟨_, hob, hc, hd⟩ hx fun h' he => ?_
    exact ⟨_, S.drop (tk := s.toks) hn fun b ob hb hbo => he b ob hb hbo, h2 _ hx Keeps.drop⟩
end
theorem cb_ord {prog : Program} {c : Cx} {m : Loc} {n : Led} {X : Str → Led → Prop} {Q : V → Led → Prop} {x : Str} (h1 : x.length = 1) (h : Q (.int (x.cps.getD 0 0 : Nat)) n) : CB prog c m n "ord" [.str x] Q X := by
  rintro _ (_ | ⟨⟨⟩, ⟨⟩⟩); exact call_ord h1 h
local macro_rules | `(tactic| wtm_at "go1") => mac_go [("CB", "cb_ord/??")]
structure GoodNm (nm : Str) : Prop where
  l0 : 1 ≤ nm.length
  l1 : nm.length ≤ 30
  ok : ∀ cp ∈ nm.cps.toList, 33 ≤ cp ∧ cp ≤ 126
section
variable {prog : Program} [ProgOk prog] {c : Cx} {n : Led} {X : Str → Led → Prop} {a : Ads} {W : WS} {Q : V → Led → Prop}
theorem fn_check_name {nm : Str} (hlv : 6 < c.lv) (hh : c.A.handled = none) (R : Rep n a W) (hg : GoodNm nm)
    (h1 : ∀ n', Rep n' a W → Step n a W n' a W → Keeps [] n n' → Q (.str nm) n') :
    Fn prog c n (.ref 42) [.str nm] Q X := by
  have hl0 := hg.l0
  have hl1 := hg.l1
  wtm_at "enter"
  wtm_at "go"
  · rw [szl]; lia
  · have I := ‹InFn _ _ _ _›
    refine ev_comp (sc' := { kind := .function, names := [(".0", .local), ("sign", .local), ("ord", .globalImplicit)], isGenerator := false, isCoroutine := false }) (cl := []) nm.cps.size
      (fun c2 it acc i m' n' => m' = [] ∧ i ≤ nm.cps.size ∧ n it = none ∧ n acc = none ∧ it ≠ acc ∧ Keeps [] n n' ∧ (∃ t, ItOf n' it "str_ascii_iterator" #[.str nm t, .int i 0]) ∧ n' acc = some (.list []))
      (by simp [closureFor]) (by simp [relabel]) rfl (by wtm_at "side") (by decide) (by decide) ?_ ?_
    · wtm_at "go"
      refine it_ascii ?_ fun it n1 t hn hk1 hit acc hacc c2 I2 => ?_
      · rw [← Array.all_toList, List.all_eq_true]
        intro cp hcp
        have := hg.ok cp hcp
        simp; lia
      have ne : it ≠ acc := fun q => by subst q; obtain ⟨o, ho, _⟩ := hit; rw [hacc] at ho; cases ho
      have hn2 : n acc = none := by
        cases q : n acc with
        | none => rfl
        | some o => have := hk1 acc (by rw [q]; exact Option.some_ne_none _) List.not_mem_nil; rw [hacc, q] at this; cases this
      have hit2 := hit.grow (keeps_new (o := .list []) hacc)
      exact ⟨self_ascii hit2, rfl, Nat.zero_le _, hn, hn2, ne, hk1.trans (keeps_new hacc), ⟨t, hit2⟩, Led.set_self _ _ _⟩
    · intro c2 it acc i m' n' I2 ⟨e, hi, hn1, hn2, ne, hk, ⟨t, hit⟩, hacc⟩
      subst e
      refine ⟨hi, ?_⟩
      have kp : ∀ n3, Keeps [it] n' n3 → Keeps [] n n3 := fun n3 hk3 b hb hf => (hk3 b (by rw [hk b hb hf]; exact hb) (by simp only [List.mem_singleton]; intro q; rw [q] at hb; exact hb hn1)).trans (hk b hb hf)
      have ka : ∀ n3, Keeps [it] n' n3 → n3 acc = n' acc := fun n3 hk3 => hk3 acc (by rw [hacc]; exact Option.some_ne_none _) (by simp only [List.mem_singleton]; exact Ne.symm ne)
      refine nx_ascii (I2.hd.trans (I.hd.trans hh)) hit (fun cp n3 hcp hk3 hit' => ?_) (fun n3 hnone hk3 => ?_)
      · have hl : i < nm.cps.size := (Array.getElem?_eq_some_iff.mp hcp).1
        have hb := hg.ok cp (by rw [← Array.getElem?_toList] at hcp; exact List.mem_of_getElem? hcp)
        have e1 : ((⟨#[cp]⟩ : Str).cps.getD 0 0 : Nat) = cp := rfl
        refine asg_name I2.scope (by rfl) ?_
        show Tt _ _ _ _ _ _ _
        wtm_at "go"
        all_goals first
          | rfl
          | (exfalso; have q : (cp : Int) < 33 := by assumption
             lia)
          | (rw [if_neg (by
               simp only [decide_eq_true_eq]
               intro q
               have q : (126 : Int) < cp := q
               lia)]
             exact ⟨[], fun x v h => (by cases h), rfl, hl, hn1, hn2, ne, kp n3 hk3, ⟨t, hit'⟩, (ka n3 hk3).trans hacc⟩)
      · have hk4 := kp n3 hk3
        have S3 := R.stepGrow hk4
        have R3 := S3.rep
        have hacc3 := (ka n3 hk3).trans hacc
        wtm_at "go"
        all_goals first
          | exact short _ (by decide)
          | exact absurd rfl (by assumption : ([] : List V) ≠ [])
          | exact h1 _ (by assumption) (by wtm_at "chain") (by wtm_at "grown")
          | exact absurd rfl (by assumption : ¬ ([] : List V) = [])
  all_goals (exfalso; lia)
end

-- part C7
set_option maxHeartbeats 2000000
local macro_rules | `(tactic| wtm_at "go1") => mac_go [("Fn", "fn_check_name")]
noncomputable def renameP (W : WS) (old new : Str) : Except Str WS := if aget W.files old = none then .error "FF" else if holders W old ≠ [] then .error "AO" else if aget W.files new ≠ none then .error "NM" else .ok { W with files := aput (adel W.files old) new (txt W old) }
theorem Step.cellK {n n0 n' : Led} {a a' : Ads} {W W' : WS} {x : Addr} {v : V} (S : Step n a W n' a' W') (R : Rep n a W) (h0 : n0 x = some (.cell v)) (hk : Keeps [] n0 n) : n' x = some (.cell v) := by
  have h : n x = some (.cell v) := hk.at h0
  refine (S.keeps x (by rw [h]; exact Option.some_ne_none _) fun q => ?_).trans h
  rcases R.tab x q with ⟨_, _, e⟩ | ⟨_, _, e⟩ <;> (rw [h] at e; cases e)
section
variable {prog : Program} [ProgOk prog] {c : Cx} {n : Led} {X : Str → Led → Prop} {a : Ads} {W : WS} {Q : V → Led → Prop}
theorem fn_rename_file {B : Nat} {old new : Str} (hlv : 12 < c.lv) (hh : c.A.handled = none) (R : Rep n a W) (G : Good B W) (hB : B ≤ BM) (hg : GoodNm new)
    (h1 : ∀ n' W', Rep n' a W' → Step n a W n' a W' → renameP W old new = .ok W' → Q .none n') (h2 : ∀ k n', Rep n' a W → Step n a W n' a W → renameP W old new = .error k → X k n') :
    Fn prog c n (.ref 80) [.ref a.wa, .str old, .str new] Q X := by
  refine fn_bodyC (by rfl) (by kernel_rfl) (Nat.zero_lt_of_lt hlv) (by wtm_at "args") (by decide) ?_ [("new", .str new)] ?_ [("world", some (.ref a.wa)), ("old", some (.str old))] ?_ (by show [("world" : Str), "old"].Nodup; decide) ?_
  · intro x hx
    simp only [List.map_cons, List.map_nil, List.mem_cons, List.not_mem_nil, or_false] at hx
    rcases hx with rfl | rfl | rfl
    · exact .inr ⟨rfl, fun k => rfl⟩
    · exact .inr ⟨rfl, fun k => rfl⟩
    · exact .inl rfl
  · intro x v h
    have hm := mem_of_lookup h
    simp only [List.mem_cons, List.not_mem_nil, or_false] at hm
    cases hm
    exact ⟨rfl, rfl⟩
  · intro p hp
    simp only [List.mem_cons, List.not_mem_nil, or_false] at hp
    rcases hp with rfl | rfl <;> exact ⟨rfl, rfl, fun k => rfl⟩
  intro c' n1 I hfr hfs hk1 hcf
  obtain ⟨aw, hcw, hnw⟩ := hcf _ (.head _)
  obtain ⟨an, hcn, hnn⟩ := hcf _ (.tail _ (.head _))
  have S1 := R.stepGrow hk1
  have R1 := S1.rep
  dsimp only at hcw hnw hcn hnn
  wtm_at "go"
  · refine ev_holders (by wtm_at "side") (by wtm_at "side") R1 I.scope (by rfl) (by rfl) (by rfl) hcw hnw hcn hnn (fun acc n2 hk2 hacc => ?_) (by have := G.ol; have : BM = 4000000 := rfl; rw [szl]; lia)
    have S2 := R1.stepGrow hk2
    have R2 := S2.rep
    wtm_at "go"
    all_goals first
      | wtm_at "off"
      | wtm_at "side"
      | wtm_at "num"
      | (with_reducible refine h2 _ _ (by assumption) (by wtm_at "chain") ?_; simp_all [renameP]; done)
      | (have hw2 := Step.cellK (by assumption : Step _ a W _ a { W with files := adel W.files old }) (by assumption) hnw (by wtm_at "grown")
         wtm_at "go"
         all_goals first
           | (have := length_adel (es := W.files) (k := old); have := G.fl; have : BM = 4000000 := rfl; rw [szl]; show (adel W.files old).length ≤ _; lia)
           | (with_reducible refine h1 _ _ (by assumption) (by wtm_at "chain") ?_
              simp_all [renameP, txt]; done))
  all_goals first
    | wtm_at "off"
    | wtm_at "side"
    | (refine h2 _ _ (by assumption) (by wtm_at "chain") ?_; simp_all [renameP]; done)
end

-- part C8
set_option maxHeartbeats 2000000
local macro_rules | `(tactic| wtm_at "go1") => mac_go [("Fn", "fn_elsewhere")]
theorem evs_nil {prog : Program} {c : Cx} {m : Loc} {n : Led} {X : Str → Led → Prop} {Q : List V → Led → Prop} (h : Q [] n) : Evs prog c m [] n Q X := h
noncomputable abbrev KEvs (prog : Program) (c : Cx) (m : Loc) (r : List Expr) (Q : List V → Led → Prop) (X : Str → Led → Prop) (u : V) (n : Led) : Prop := Evs prog c m r n (KCons Q u) X
theorem evs_cons {prog : Program} {c : Cx} {m : Loc} {n : Led} {X : Str → Led → Prop} {Q : List V → Led → Prop} {e : Expr} {r : List Expr} (h : Ev prog c m n (eval e c.env) (KEvs prog c m r Q X) X) : Evs prog c m (e :: r) n Q X := h
local macro_rules | `(tactic| wtm_at "go1") => mac_go [("Evs", "evs_cons/? evs_nil/?")]
theorem ex_seq {prog : Program} {c : Cx} {m : Loc} {n : Led} {X : Str → Led → Prop} {N : Loc → Led → Prop} {R : V → Led → Prop} {st : Stmt} {r : List Stmt} (P : Loc → Led → Prop) (h : Ex prog c m n (exec st c.env) P R X) (h' : ∀ m' n', P m' n' → Ex prog c m' n' (execs r c.env) N R X) : Ex prog c m n (execs (st :: r) c.env) N R X :=
  ex_cons (Ex.mono h h' (fun _ _ q => q) fun _ _ q => q)
noncomputable def openP (W : WS) (mode : Str) (ch : Int) (nm : Str) (size : Int) : Except Str WS :=
  if ¬ (1 ≤ ch ∧ ch ≤ 15) then .error "BN" else
  if (aget W.op ch).isSome ∨ elseP W mode nm = true then .error "AO" else
  if mode = "R" ∧ ¬ (1 ≤ size ∧ size ≤ 255) then .error "FC" else
  if mode = "I" ∧ aget W.files nm = none then .error "FF" else
  let W1 := if mode = "O" ∨ aget W.files nm = none then setF W nm "" else W
  .ok { W1 with op := aput W1.op ch ⟨mode, nm, if mode = "A" then ((txt W1 nm).length : Int) else 0, size, if mode = "R" then Txt.mul nul size else "", 0⟩ }
section
variable {prog : Program} [ProgOk prog] {c : Cx} {n : Led} {X : Str → Led → Prop} {a : Ads} {W : WS} {Q : V → Led → Prop}
theorem fn_open_file {B : Nat} {mode nm : Str} {ch size : Int} (hlv : 9 < c.lv) (hh : c.A.handled = none) (R : Rep n a W) (G : Good B W) (hB : B ≤ BM) (hg : GoodNm nm) (hs0 : 0 ≤ size) (hs1 : size ≤ 7)
    (h1 : ∀ n' a' W', Rep n' a' W' → Step n a W n' a' W' → openP W mode ch nm size = .ok W' → Q .none n') (h2 : ∀ k n', Rep n' a W → Step n a W n' a W → openP W mode ch nm size = .error k → X k n') :
    Fn prog c n (.ref 49) [.ref a.wa, .str mode, .int ch, .str nm, .int size] Q X := by
  wtm_at "enter"
  refine ex_seq (fun m' n' => m' = ([("world", .ref a.wa), ("mode", .str mode), ("channel", .int ch), ("name", .str nm), ("size", .int size)] : Loc) ∧ n = n' ∧ 1 ≤ ch ∧ ch ≤ 15) ?_ ?_
  · wtm_at "go"
    all_goals first
      | wtm_at "side"
      | exact ⟨rfl, rfl, by assumption, by assumption⟩
      | exact h2 _ _ R R.step (by unfold openP; rw [if_pos (by lia)])
      | fail
  rintro _ _ ⟨rfl, rfl, c1, c2⟩
  let m0 : Loc := [("world", .ref a.wa), ("mode", .str mode), ("channel", .int ch), ("name", .str nm), ("size", .int size)]
  refine ex_seq (fun m' n' => m' = m0 ∧ Rep n' a W ∧ Step n a W n' a W ∧ aget W.op ch = none ∧ elseP W mode nm = false) ?_ ?_
  · wtm_at "go"
    all_goals first
      | wtm_at "side"
      | exact ⟨rfl, by assumption, by wtm_at "chain", by assumption, by assumption⟩
      | exact h2 _ _ (by assumption) (by wtm_at "chain") (by unfold openP; rw [if_neg (by lia), if_pos (.inl (by rw [(by assumption : aget W.op ch = some _)]; rfl))])
      | exact h2 _ _ (by assumption) (by wtm_at "chain") (by unfold openP; rw [if_neg (by lia), if_pos (.inr (by assumption))])
      | fail
  rintro _ n2 ⟨rfl, R2, S2, hno, hel⟩
  refine ex_seq (fun m' n' => m' = m0 ∧ Rep n' a W ∧ Step n a W n' a W) ?_ ?_
  · wtm_at "go"
    exact ⟨rfl, by assumption, by wtm_at "chain"⟩
  rintro _ n3 ⟨rfl, R3, S3⟩
  refine ex_seq (fun m' n' => m' = m0 ∧ n3 = n' ∧ ¬ (mode = "R" ∧ ¬ (1 ≤ size ∧ size ≤ 255))) ?_ ?_
  · wtm_at "go"
    all_goals first
      | wtm_at "side"
      | exact ⟨rfl, rfl, fun ⟨q1, q2⟩ => (by first | exact absurd q1 (by assumption) | lia | fail)⟩
      | exact h2 _ _ R3 S3 (by unfold openP; rw [if_neg (by lia), if_neg (by rw [hno, hel]; simp), if_pos ⟨by assumption, by lia⟩])
      | fail
  rintro _ _ ⟨rfl, rfl, hsz⟩
  refine ex_seq (fun m' n' => m' = m0 ∧ n3 = n' ∧ ¬ (mode = "I" ∧ aget W.files nm = none)) ?_ ?_
  · wtm_at "go"
    all_goals first
      | wtm_at "side"
      | exact ⟨rfl, rfl, fun ⟨q1, q2⟩ => (by first | exact absurd q1 (by assumption) | (rw [(by assumption : aget W.files nm = some _)] at q2; cases q2) | fail)⟩
      | exact h2 _ _ R3 S3 (by unfold openP; rw [if_neg (by lia), if_neg (by rw [hno, hel]; simp), if_neg hsz, if_pos ⟨by assumption, by assumption⟩])
      | fail
  rintro _ _ ⟨rfl, rfl, hff⟩
  have hW1 : ∃ W1, W1 = if mode = "O" ∨ aget W.files nm = none then setF W nm "" else W := ⟨_, rfl⟩
  obtain ⟨W1, hW1⟩ := hW1
  have eop : openP W mode ch nm size = .ok { W1 with op := aput W1.op ch ⟨mode, nm, if mode = "A" then ((txt W1 nm).length : Int) else 0, size, if mode = "R" then Txt.mul nul size else "", 0⟩ } := by
    unfold openP
    rw [if_neg (by lia), if_neg (by rw [hno, hel]; simp), if_neg hsz, if_neg hff, hW1]
  refine ex_seq (fun m' n' => m' = m0 ∧ Rep n' a W1 ∧ Step n a W n' a W1) ?_ ?_
  · wtm_at "go"
    all_goals first
      | wtm_at "num"
      | exact ⟨rfl, by rw [hW1, if_pos (by first | exact .inl (by assumption) | exact .inr (by assumption) | fail)]; assumption, by rw [hW1, if_pos (by first | exact .inl (by assumption) | exact .inr (by assumption) | fail)]; wtm_at "chain"⟩
      | exact ⟨rfl, by rw [hW1, if_neg (by rintro (q | q) <;> simp_all)]; assumption, by rw [hW1, if_neg (by rintro (q | q) <;> simp_all)]; wtm_at "chain"⟩
      | fail
  rintro _ n6 ⟨rfl, R6, S6⟩
  have hfile : ∃ t, aget W1.files nm = some t ∧ txt W1 nm = t ∧ t.length ≤ B := by
    by_cases q : mode = "O" ∨ aget W.files nm = none
    · rw [hW1, if_pos q]
      refine ⟨"", ?_, ?_, Nat.zero_le _⟩
      · show aget (aput W.files nm "") nm = _
        rw [aget_aput, if_pos rfl]
      · show (aget (aput W.files nm "") nm).getD "" = _
        rw [aget_aput, if_pos rfl]; rfl
    · rw [hW1, if_neg q]
      cases e : aget W.files nm with
      | none => exact absurd (.inr e) q
      | some t => exact ⟨t, rfl, by unfold txt; rw [e]; rfl, G.tx _ _ e⟩
  obtain ⟨t, ht, htx, htl⟩ := hfile
  rw [htx] at eop
  refine ex_seq (fun m' n' => m' = ((("at" : Str), V.int (if mode = "A" then (t.length : Int) else 0)) :: m0 : Loc) ∧ n6 = n') ?_ ?_
  · wtm_at "go"
    all_goals first
      | wtm_at "num"
      | exact ⟨by rw [if_pos (by assumption)], rfl⟩
      | exact ⟨by rw [if_neg (by assumption)], rfl⟩
      | fail
  rintro _ _ ⟨rfl, rfl⟩
  have hat : ∃ atv, atv = if mode = "A" then (t.length : Int) else 0 := ⟨_, rfl⟩
  obtain ⟨atv, hat⟩ := hat
  rw [← hat] at eop ⊢
  refine ex_seq (fun m' n' => ∃ x ep, m' = (((("made" : Str), V.ref x) :: (("at" : Str), V.int atv) :: m0) : Loc) ∧ n6 x = none ∧ Keeps [] n6 n' ∧ n' x = some (.sd (recE ⟨mode, nm, atv, size, "", 0⟩) ep)) ?_ ?_
  · refine ex_assign ‹InFn _ _ _ _›.scope (by rfl) ?_
    refine ev_dict (ks := [("mode", 0, _), ("name", 0, _), ("at", 0, _), ("size", 0, _), ("buffer", 0, _), ("record", 0, _)]) (by rfl) (by rfl) (by decide) (by decide) fun x hx => ?_
    wtm_at "go"
    exact ⟨Led.set_self _ _ _, fun ep => ⟨x, ep, rfl, hx, fun b hb _ => by rw [Led.set_ne _ _ (fun q => hb (by rw [q]; exact hx)), Led.set_ne _ _ (fun q => hb (by rw [q]; exact hx))], by rw [Led.set_self]; rfl⟩⟩
  rintro _ n7 ⟨x, ep, rfl, hx, hk7, hx7⟩
  refine ex_seq (fun m' n' => m' = (((("made" : Str), V.ref x) :: (("at" : Str), V.int atv) :: m0) : Loc) ∧ Keeps [] n6 n' ∧ ∃ ep', n' x = some (.sd (recE ⟨mode, nm, atv, size, if mode = "R" then Txt.mul nul size else "", 0⟩) ep')) ?_ ?_
  · wtm_at "go"
    all_goals first
      | wtm_at "num"
      | exact ⟨rfl, hk7, ep, by rw [if_neg (by assumption)]; exact hx7⟩
      | (show Str.length ⟨#[Int.toNat 0]⟩ = 1; rfl)
      | (refine st_sd hx7 (by show 6 ≤ _; rw [szl]; decide) fun ep' => ?_
         wtm_at "go"
         exact ⟨rfl, fun b hb hf => (Led.set_ne _ _ (fun q => hb (by rw [q]; exact hx))).trans (hk7 b hb hf), ep', by rw [if_pos (by assumption), Led.set_self]; rfl⟩)
      | fail
  rintro _ n8 ⟨rfl, hk8, ep8, hx8⟩
  have R8 := R6.grow hk8
  have hopW : W1.op = W.op := by rw [hW1]; split <;> rfl
  obtain ⟨epo, hopo⟩ := R8.op
  wtm_at "go"
  refine st_idd hopo (by have := G.ol; have := szl; have : BM = 4000000 := rfl; unfold openE; rw [length_mapV, hopW]; lia) fun ep' => ?_
  wtm_at "go"
  have S9 := S6.trans (step_open (ep' := ep') R6 hx hk8 hx8 (by rw [hopW]; exact hno))
  exact h1 _ _ _ S9.rep S9 (by rw [eop])
end

-- part D1
set_option maxHeartbeats 2000000
section
variable {prog : Program} {c : Cx} {m : Loc} {n : Led} {X : Str → Led → Prop} {Q : V → Led → Prop} {s : Shared}
theorem Sit.newK (S : Sit prog c m n s) {h' : Heap} {tk : Nat} {a : Addr} {o : O} {ob : Obj} (k : ∀ b o, s.heap.get? b = some o → h'.get? b = some o) (ha : ∀ b o, s.heap.get? b = some o → b < a) (hg : h'.get? a = some ob) (ho : OIs prog c.w o ob) :
    n a = none ∧ Sit prog c m (n.set a o) { s with heap := h', toks := tk } := by
  have h0 : n a = none := by
    cases q : n a with
    | none => rfl
    | some o' =>
      obtain ⟨⟨ob', h1, _⟩, _⟩ := S.led a o' q
      exact absurd (ha _ _ h1) (Nat.lt_irrefl _)
  have nsl : ∀ {L m'}, NsOk c.base L m' s.heap → L < a ∧ c.base.objs.size ≤ L := fun h => by
    obtain ⟨hb, mv, ⟨o, es, ep, ho, r⟩, hm⟩ := h
    exact ⟨ha _ _ ho, hb⟩
  have ns : ∀ L ∈ (c.env.locals :: c.outs.map (·.1)), L < a := by
    intro L hL
    rcases List.mem_cons.mp hL with rfl | hL
    · exact (nsl S.loc).1
    · obtain ⟨f, hf, rfl⟩ := List.mem_map.mp hL
      exact (nsl (S.outs f hf)).1
  refine ⟨h0, ?_⟩
  have G := S.grow (tk := tk) k
  exact { G with
    led := fun b o e => by
      by_cases hb : b = a
      · subst hb
        rw [Led.set_self] at e
        cases e
        exact ⟨⟨ob, hg, ho⟩, .inl <| Nat.le_trans (nsl S.loc).2 (Nat.le_of_lt (nsl S.loc).1), fun hL => Nat.lt_irrefl _ (ns _ hL)⟩
      · rw [Led.set_ne _ _ hb] at e
        exact G.led b o e }

theorem call_sorted_sd {a : Addr} {es : List (Str × V)} {ep : Nat} (hh : c.A.handled = none) (ha : n a = some (.sd es ep)) (hz : es.length < 64)
    (h : ∀ b (ss : List Str) n', n b = none → Keeps [] n n' → n' b = some (.list (ss.map V.str)) → ss.Perm (es.map (·.1)) → ss.Nodup → Q (.ref b) n') : Ev prog c m n (call (.builtin "sorted") [.ref a]) Q X := Ev.of fun H s S => by
  obtain ⟨ob, kvs, h1, h2, h3⟩ := S.sd ha
  have hl : kvs.length = es.length := h3.length.symm
  have hnd : (es.map (·.1)).Nodup := by
    rw [h3.keys]
    obtain ⟨_, _, _, _, _, q⟩ := h2
    exact q
  have hzl : kvs.length ≤ sizeLine := by rw [szl]; lia
  refine call_function_entry kind_sorted plain_sorted entry_sorted (args_sorted1 _) ?_
  unfold Builtin.«sorted»
  refine wpAny_bind (m := checkCount "sorted" 1 1 _) (wpAny_pure ?_)
  refine wpAny_bind (kdu_collect (A := c.A.in1) (kdl_dict (knd := PySem.strKind prog c.w) (kvs := kvs) (ep := ep) (S.notMods H ha)) hh (h2.at h1) hzl fun h' tk acc hk hacc => ?_)
  have hal : acc.toList.length = kvs.length := by rw [Array.length_toList]; exact hacc.1
  refine wpAny_bind (wpAny_newList ?_ (by rw [hal]; exact hzl))
  have hS : StrsAre acc.toList (es.map (·.1)) := by
    rw [h3.keys]
    have : ∀ (xs : List Value) (ks : List (Str × Value)), xs.length = ks.length → (∀ (i : Nat) (v : Value), xs[i]? = some v → ∃ k x, ks[i]? = some (k, x) ∧ (PySem.strKind prog c.w).is k v = true) → StrsAre xs (ks.map (·.1)) := by
      intro xs
      induction xs with
      | nil => intro ks hl _; cases ks with | nil => exact .nil | cons _ _ => cases hl
      | cons x xs ih =>
        intro ks hl hx
        cases ks with
        | nil => cases hl
        | cons k ks =>
          obtain ⟨k', x', e, hi⟩ := hx 0 x rfl
          cases e
          obtain ⟨t, rfl⟩ := Value.isStrOf_shape hi
          exact .cons _ _ (ih ks (by simpa using hl) fun i v hv => hx (i + 1) v hv)
    exact this _ _ hal fun i v hv => hacc.2 i v (by rw [← Array.getElem?_toList]; exact hv)
  have hoL : (h'.push (seqObj "list" acc.toList.toArray 0)).get? h'.objs.size = some (seqObj "list" acc.toList.toArray 0) := Heap.get?_push_size _ rfl
  refine wpAny_bind (wpAny_holding (wpAny_call_entry slot_list_sort ⟨_, hoL, rfl⟩ entry_list_sort (list_sort_treeK strKind_oneLt hoL hS.keysOf (fun v₁ v₂ rest e => keyKind_strs (by rw [← e]; exact hS)) (by rw [hal]; lia) fun st' hp hs => ⟨_, rfl, ?_⟩) (args_list_sort _)))
  refine wpAny_pure ⟨_, rfl, ?_⟩
  obtain ⟨ss', g1, g2, g3⟩ := sorted_out_str hS hp hs
  have hlt : ∀ b o, s.heap.get? b = some o → b < h'.objs.size := fun b o e => Heap.lt_size (hk _ _ e)
  obtain ⟨e, he⟩ := sortedHeap_at (vs := acc.toList) (out := (arrOf st').map (·.2)) hoL
  have hold : ∀ b o, s.heap.get? b = some o → (sortedHeap (h'.push (seqObj "list" acc.toList.toArray 0)) h'.objs.size acc.toList ((arrOf st').map (·.2))).get? b = some o := fun b o eo => by
    have hb := hlt b o eo
    rw [sortedHeap_old (Nat.ne_of_lt hb) (by rw [size_push']; exact Nat.lt_succ_of_lt hb)]
    exact Heap.get?_push_of_some _ (hk _ _ eo)
  have hv : ∀ {xs : List Value} {ss : List Str}, StrsAre xs ss → VRel (ss.map .str) xs := by
    intro xs ss h
    induction h with
    | nil => exact .nil
    | cons y t h ih => exact .cons (.str _ _) ih
  have hv1 := hv g1
  show ∃ u n'', VIs u (.ref h'.objs.size) ∧ Sit prog c m n'' { s with heap := sortedHeap (h'.push (seqObj "list" acc.toList.toArray 0)) h'.objs.size acc.toList ((arrOf st').map (·.2)), toks := tk } ∧ Q u n''
  generalize sortedHeap (h'.push (seqObj "list" acc.toList.toArray 0)) h'.objs.size acc.toList ((arrOf st').map (·.2)) = hf at *
  generalize (arrOf st').map (·.2) = out at *
  obtain ⟨k0, S'⟩ := S.newK (tk := tk) (o := .list (ss'.map .str)) hold hlt he ⟨out, e, rfl, hv1⟩
  exact ⟨_, _, .ref _, S', h _ ss' _ k0 (Keeps.set (.inr k0)) (Led.set_self _ _ _) g2 (g2.nodup_iff.mpr hnd)⟩
end

-- part D2
set_option maxHeartbeats 2000000
noncomputable def closeF (ch : Int) (S : List Str) (fs : List (Str × Pt3)) : List (Str × Pt3) := fs.filter fun kv => decide (¬ (kv.2.ch = ch ∧ kv.1 ∈ S))
noncomputable def closeP (W : WS) (ch : Int) : WS := { W with op := adel W.op ch, fields := W.fields.filter fun kv => decide (kv.2.ch ≠ ch) }
theorem closeF_nil (ch : Int) (fs : List (Str × Pt3)) : closeF ch [] fs = fs := by simp [closeF]
theorem closeF_del {ch : Int} {S : List Str} {fs : List (Str × Pt3)} {k : Str} (h : ∀ kv ∈ fs, kv.1 = k → kv.2.ch = ch) : adel (closeF ch S fs) k = closeF ch (S ++ [k]) fs := by
  unfold adel closeF
  rw [List.filter_filter]
  refine List.filter_congr fun kv hkv => ?_
  have := h kv hkv
  by_cases q : kv.1 = k
  · simp [q, this q]
  · simp [q]
theorem closeF_keep {ch : Int} {S : List Str} {fs : List (Str × Pt3)} {k : Str} (h : ∀ kv ∈ fs, kv.1 = k → kv.2.ch ≠ ch) : closeF ch S fs = closeF ch (S ++ [k]) fs := by
  unfold closeF
  refine List.filter_congr fun kv hkv => ?_
  have := h kv hkv
  by_cases q : kv.1 = k
  · simp [q, this q]
  · simp [q]
theorem closeF_all {ch : Int} {S : List Str} {fs : List (Str × Pt3)} (h : ∀ kv ∈ fs, kv.1 ∈ S) : closeF ch S fs = fs.filter fun kv => decide (kv.2.ch ≠ ch) := by
  unfold closeF
  refine List.filter_congr fun kv hkv => ?_
  simp [h kv hkv]
theorem adel_none {K α : Type} [DecidableEq K] {es : List (K × α)} {k : K} (h : aget es k = none) : adel es k = es :=
  List.filter_eq_self.mpr fun kv hkv => decide_eq_true fun q => aget_none.mp h kv hkv q
theorem nodup_uniq {K α : Type} [DecidableEq K] {k : K} {p p' : α} : ∀ {es : List (K × α)}, (es.map (·.1)).Nodup → (k, p) ∈ es → (k, p') ∈ es → p = p'
  | [], _, h, _ => by cases h
  | kv :: es, hn, h, h' => by
    rw [List.map_cons, List.nodup_cons] at hn
    rcases List.mem_cons.mp h with h | h <;> rcases List.mem_cons.mp h' with h' | h'
    · rw [← h'] at h; cases h; rfl
    · rw [← h] at hn; exact absurd (List.mem_map_of_mem (f := Prod.fst) h') hn.1
    · rw [← h'] at hn; exact absurd (List.mem_map_of_mem (f := Prod.fst) h) hn.1
    · exact nodup_uniq hn.2 h h'
theorem mb_pop_fields' {prog : Program} {c : Cx} {m : Loc} {n : Led} {X : Str → Led → Prop} {Q : V → Led → Prop} {a : Ads} {W : WS} {nm : Str} {p : Pt3} (R : Rep n a W) (hk : aget W.fields nm = some p) (hz : W.fields.length ≤ sizeLine) (h : ∀ n', Rep n' a { W with fields := adel W.fields nm } → Step n a W n' a { W with fields := adel W.fields nm } → Q (.ref (a.ta nm)) n') : MB prog c m n (.ref a.ia) "dict.pop" [.str nm] Q X :=
  mb_pop_fields R hz hk fun n' S => h n' S.rep S
theorem mb_pop_open' {prog : Program} {c : Cx} {m : Loc} {n : Led} {X : Str → Led → Prop} {Q : V → Led → Prop} {a : Ads} {W : WS} {ch : Int} {r : Rc} (R : Rep n a W) (hk : aget W.op ch = some r) (hz : W.op.length ≤ sizeLine) (h : ∀ n', Rep n' a { W with op := adel W.op ch } → Step n a W n' a { W with op := adel W.op ch } → Q (.ref (a.ra ch)) n') : MB prog c m n (.ref a.oa) "dict.pop" [.int ch] Q X :=
  mb_pop_open R hz hk fun n' S => h n' S.rep S
theorem cb_sorted_fields {prog : Program} {c : Cx} {m : Loc} {n : Led} {X : Str → Led → Prop} {Q : V → Led → Prop} {a : Ads} {W : WS} (hh : c.A.handled = none) (R : Rep n a W) (hz : W.fields.length < 64)
    (h : ∀ b (ss : List Str) n', n b = none → Keeps [] n n' → n' b = some (.list (ss.map V.str)) → ss.Perm (W.fields.map (·.1)) → ss.Nodup → Q (.ref b) n') : CB prog c m n "sorted" [.ref a.ia] Q X := by
  obtain ⟨ep, hf⟩ := R.fields
  rintro _ (_ | ⟨⟨⟩, _ | _⟩)
  refine call_sorted_sd hh hf (by unfold fieldsE; rw [length_mapV]; exact hz) fun b ss n' h1 h2 h3 h4 h5 => h b ss n' h1 h2 h3 ?_ h5
  have e : (fieldsE a W).map (·.1) = W.fields.map (·.1) := by unfold fieldsE mapV; rw [List.map_map]; rfl
  rw [← e]; exact h4
local macro_rules | `(tactic| wtm_at "go1") => mac_go [("MB", "mb_pop_fields'/aa?3 mb_pop_open'/aa?3")]
section
variable {prog : Program} [ProgOk prog] {c : Cx} {n : Led} {X : Str → Led → Prop} {a : Ads} {W : WS} {Q : V → Led → Prop}
theorem fn_close_file' {ch : Int} (hlv : 6 < c.lv) (hh : c.A.handled = none) (R : Rep n a W) (ho : W.op.length ≤ sizeLine) (hf : W.fields.length < 64)
    (h1 : ∀ n', Rep n' a (closeP W ch) → Step n a W n' a (closeP W ch) → Q .none n') : Fn prog c n (.ref 70) [.ref a.wa, .int ch] Q X := by
  wtm_at "enter"
  let m0 : Loc := [("world", .ref a.wa), ("channel", .int ch)]
  refine ex_seq (fun m' n' => m' = m0 ∧ Rep n' a { W with op := adel W.op ch } ∧ Step n a W n' a { W with op := adel W.op ch }) ?_ ?_
  · wtm_at "go"
    all_goals first
      | exact ho
      | exact ⟨rfl, by assumption, by wtm_at "chain"⟩
      | (have e : adel W.op ch = W.op := adel_none (by assumption)
         rw [e]
         exact ⟨rfl, R, R.step⟩)
      | fail
  rintro _ n1 ⟨rfl, R1, S1⟩
  obtain ⟨W1, hW1⟩ : ∃ W1, W1 = { W with op := adel W.op ch } := ⟨_, rfl⟩
  rw [← hW1] at R1 S1
  have hf1 : W1.fields = W.fields := by rw [hW1]
  refine ex_cons ?_
  refine ex_for W.fields.length (fun it i m' n' => m' = m0 ∧ ∃ (b : Addr) (ss : List Str), i ≤ W.fields.length ∧ n1 it = none ∧ ss.Perm (W.fields.map (·.1)) ∧ ss.Nodup ∧ n' b = some (.list (ss.map V.str)) ∧ ItOf n' it "list_iterator" #[.ref b, .int i 0] ∧
    Step n1 a W1 n' a { W1 with fields := closeF ch (ss.take i) W.fields }) ?_ ?_
  · wtm_at "go"
    have e : W.fields.length = W1.fields.length := by rw [hf1]
    refine cb_sorted_fields (‹InFn _ _ _ _›.hd.trans hh) R1 (by lia) fun b ss n2 hb hk hb2 hp hnd => ?_
    refine it_list hb2 fun it n3 hn hk3 hit => ⟨rfl, b, ss, Nat.zero_le _, ?_, by rw [← hf1]; exact hp, hnd, hk3.at hb2, hit, ?_⟩
    · cases q : n1 it with
      | none => rfl
      | some o => rw [hk it (by rw [q]; exact Option.some_ne_none _) List.not_mem_nil, q] at hn; cases hn
    · rw [List.take_zero, closeF_nil, ← hf1]
      exact R1.stepGrow (hk.trans hk3)
  · rintro it i _ n' ⟨rfl, b, ss, hi, hn0, hp, hnd, hb, hit, S'⟩
    refine ⟨hi, ?_⟩
    have R' := S'.rep
    have hlen : ss.length = W.fields.length := by rw [hp.length_eq, List.length_map]
    refine nx_list (‹InFn _ _ _ _›.hd.trans hh) hit hb (fun u n3 hu hk hit' => ?_) (fun n3 hn hk => ?_)
    · rw [List.getElem?_map] at hu
      obtain ⟨nm, hnm, rfl⟩ := Option.map_eq_some_iff.mp hu
      have hl : i < ss.length := (List.getElem?_eq_some_iff.mp hnm).1
      have S3 := S'.it hn0 hit hk
      have R3 := S3.rep
      have hb3 : n3 b = some (.list (ss.map V.str)) := (hk _ (by rw [hb]; exact Option.some_ne_none _) (by simpa using hit.ne hb fun _ q => nomatch q)).trans hb
      have htk : ss.take (i + 1) = ss.take i ++ [nm] := by rw [List.take_add_one, hnm]; rfl
      have hkn : (W.fields.map (·.1)).Nodup := hp.nodup_iff.mp hnd
      have hnt : nm ∉ ss.take i := fun q => by
        obtain ⟨j, hj, e⟩ := List.mem_iff_getElem.mp q
        rw [List.getElem_take] at e
        have hj' : j < i := by rw [List.length_take] at hj; lia
        have e2 := (List.getElem?_eq_some_iff.mp hnm).2
        exact absurd ((List.getElem_inj hnd).mp (e.trans e2.symm)) (by lia)
      obtain ⟨⟨nm', p⟩, hmem, rfl⟩ := List.mem_map.mp (hp.mem_iff.mp (List.mem_of_getElem? hnm))
      dsimp only at *
      have huniq : ∀ kv ∈ W.fields, kv.1 = nm' → kv.2 = p := fun kv hkv e => nodup_uniq hkn (by rw [← e]; exact hkv) hmem
      have hg : aget (closeF ch (ss.take i) W.fields) nm' = some p := by
        refine aget_of_mem ?_ ?_
        · exact (hkn.sublist (List.filter_sublist.map _))
        · exact List.mem_filter.mpr ⟨hmem, decide_eq_true fun q => hnt q.2⟩
      have hle : (closeF ch (ss.take i) W.fields).length ≤ W.fields.length := List.length_filter_le _ _
      refine asg_name ‹InFn _ _ _ _›.scope (by rfl) ?_
      obtain ⟨W3, hW3⟩ : ∃ W3 : WS, W3 = { W1 with fields := closeF ch (ss.take i) W.fields } := ⟨_, rfl⟩
      have hg3 : aget W3.fields nm' = some p := by rw [hW3]; exact hg
      rw [← hW3] at R3 S3
      have ht3 := R3.tups _ _ hg3
      have hl3 : W3.fields.length ≤ sizeLine := by rw [hW3, szl]; show (closeF ch (ss.take i) W.fields).length ≤ _; lia
      wtm_at "go"
      refine sub_tup ht3 (by decide) (by decide) (by rfl) ?_
      have next : ∀ n5 W5, Step n3 a W3 n5 a W5 → W5 = { W1 with fields := closeF ch (ss.take (i + 1)) W.fields } → (∃ m4, LSub m4 (("name", .str nm') :: m0) ∧ m4 = m0 ∧ ∃ (b : Addr) (ss : List Str), i + 1 ≤ W.fields.length ∧ n1 it = none ∧ ss.Perm (W.fields.map (·.1)) ∧ ss.Nodup ∧ n5 b = some (.list (ss.map V.str)) ∧ ItOf n5 it "list_iterator" #[.ref b, .int ((i + 1 : Nat) : Int) 0] ∧
          Step n1 a W1 n5 a { W1 with fields := closeF ch (ss.take (i + 1)) W.fields }) := fun n5 W5 S5 e => by
        subst e
        have nt : ∀ {x : Addr} {o : O}, n3 x = some o → (∀ es ep, o ≠ .sd es ep) → (∀ es ep, o ≠ .idd es ep) → n5 x = some o := fun hx q1 q2 => (S5.keeps _ (by rw [hx]; exact Option.some_ne_none _) fun q => by
          rcases R3.tab _ q with ⟨_, _, e⟩ | ⟨_, _, e⟩ <;> (rw [hx] at e; cases e)
          · exact q1 _ _ rfl
          · exact q2 _ _ rfl).trans hx
        obtain ⟨oi, hoi, hoc⟩ := hit'
        exact ⟨m0, LSub.cons (by rfl) (LSub.refl _), rfl, b, ss, by lia, hn0, hp, hnd, nt hb3 (fun _ _ q => nomatch q) (fun _ _ q => nomatch q), ⟨oi, nt hoi (fun _ _ q => nomatch q) (fun _ _ q => nomatch q), hoc⟩, S3.trans S5⟩
      wtm_at "go"
      all_goals first
        | exact hl3
        | (refine next _ _ (by assumption) ?_
           rw [hW3, htk]
           show WS.mk W1.files W1.op (adel (closeF ch (ss.take i) W.fields) nm') = _
           rw [closeF_del fun kv hkv e => by rw [huniq kv hkv e]; assumption])
        | (refine next _ _ R3.step ?_
           rw [hW3, htk, closeF_keep fun kv hkv e => by rw [huniq kv hkv e]; assumption])
        | fail
    · wtm_at "go"
      have hl : ¬ i < ss.length := fun q => by
        rw [List.getElem?_eq_none_iff, List.length_map] at hn
        lia
      have S3 := S'.it hn0 hit hk
      rw [List.take_of_length_le (by lia), closeF_all fun kv hkv => hp.mem_iff.mpr (List.mem_map_of_mem hkv), hW1] at S3
      rw [hW1] at S1
      have S4 := S1.trans S3
      exact h1 n3 S4.rep S4
theorem fn_close_file {B : Nat} {ch : Int} (hlv : 6 < c.lv) (hh : c.A.handled = none) (R : Rep n a W) (G : Good B W) (hB : B ≤ BM) (hf : W.fields.length < 64)
    (h1 : ∀ n', Rep n' a (closeP W ch) → Step n a W n' a (closeP W ch) → Q .none n') : Fn prog c n (.ref 70) [.ref a.wa, .int ch] Q X :=
  fn_close_file' hlv hh R (by have := G.ol; have : BM = 4000000 := rfl; rw [szl]; lia) hf h1
end

-- part D3
set_option maxHeartbeats 2000000
section
variable {prog : Program} {c : Cx} {m : Loc} {n : Led} {X : Str → Led → Prop} {Q : V → Led → Prop} {s : Shared}
theorem ints_of : ∀ {ns : List Int} {xs : List Value}, VRel (ns.map V.int) xs → IntsAre xs ns
  | [], _, h => by cases h; exact .nil
  | _ :: _, _, h => by
    cases h with
    | cons h1 h2 => cases h1; exact .cons _ _ (ints_of h2)
theorem call_sum_list {a : Addr} {ns : List Int} (hh : c.A.handled = none) (ha : n a = some (.list (ns.map V.int))) (h : Q (.int ns.sum) n) : Ev prog c m n (call (.builtin "sum") [.ref a]) Q X := Ev.of fun H s S => by
  obtain ⟨ob, vs, h1, h2, _, h3⟩ := S.list ha
  have hi := ints_of h3
  obtain ⟨xs, hx⟩ := hi.allInts.items
  have hx : vs = intItems xs := by rw [← hx]
  have hl' : s.heap.IsList a (intItems xs) := hx ▸ h2
  refine sum_intListG hh hl' fun h' tk t' hk => ?_
  have e1 : ns = xs.toList.map (·.1) := by
    rw [← nums_intItems, ← hx]
    exact (show numsOf vs.toList = ns from hi.numsOf).symm
  have e2 : preSum (numAt xs) xs.size = ns.sum := by
    rw [preSum_eq, List.take_of_length_le (by simp), e1]
  rw [e2]
  exact ⟨_, n, .int _ _, S.grow hk, h⟩
theorem cb_sum {x : Addr} {ns : List Int} (hh : c.A.handled = none) (ha : n x = some (.list (ns.map V.int))) (h : Q (.int ns.sum) n) : CB prog c m n "sum" [.ref x] Q X := by
  rintro _ (_ | ⟨⟨⟩, _ | _⟩)
  exact call_sum_list hh ha h

noncomputable def PartsAt (n : Led) (b : Addr) (ps : List (Int × Str)) : Prop := ∃ ts : List Addr, n b = some (.list (ts.map V.ref)) ∧ ts.length = ps.length ∧ ∀ (i : Nat) (t : Addr) (p : Int × Str), ts[i]? = some t → ps[i]? = some p → n t = some (.tup [.int p.1, .str p.2])
theorem PartsAt.grow {n' : Led} {b : Addr} {ps : List (Int × Str)} (h : PartsAt n b ps) (hk : Keeps [] n n') : PartsAt n' b ps := by
  obtain ⟨ts, h1, h2, h3⟩ := h
  refine ⟨ts, hk.at h1, h2, fun i t p e1 e2 => ?_⟩
  have e := h3 i t p e1 e2
  exact hk.at e

noncomputable abbrev scParts : Scope := { kind := .function, names := [(".0", .local), ("many", .local), ("name", .local)], isGenerator := false, isCoroutine := false }
theorem ev_parts {t : Bool} {ifs : List Expr} {b : Addr} {ps : List (Int × Str)} {p0 p1 p2 p3 p4 p5 : Pos} {sc : Scope} (hlv : 0 < c.lv) (hh : c.A.handled = none) (hs : c.env.scope = sc) (hk : sc.names.lookup ("parts" : Str) = some .local) (hm : m.lookup ("parts" : Str) = some (.ref b))
    (hp : PartsAt n b ps) (hz : ps.length ≤ sizeLine)
    (ht : ∀ c2 : Cx, c2.env.scope = scParts → ∀ p ∈ ps, ∀ n' (P : Bool → Led → Prop), P t n' → CT prog c2 [("name", .str p.2), ("many", .int p.1)] n' ifs P)
    (h : ∀ acc n', n acc = none → Keeps [] n n' → n' acc = some (.list (if t = true then (ps.map (·.1)).map V.int else [])) → Q (.ref acc) n') :
    Ev prog c m n (eval (.ListComp (.Name "many" p0) [⟨.Tuple [.Name "many" p1, .Name "name" p2] 0 p3, .Name "parts" p4, ifs, 0⟩] scParts p5) c.env) Q X := by
  refine ev_comp (sc' := scParts) (cl := []) ps.length
      (fun c2 it acc i m' n' => m' = [] ∧ i ≤ ps.length ∧ n it = none ∧ n acc = none ∧ it ≠ acc ∧ Keeps [] n n' ∧ ItOf n' it "list_iterator" #[.ref b, .int i 0] ∧ n' acc = some (.list (if t = true then ((ps.take i).map (·.1)).map V.int else [])))
      (by simp [closureFor]) (by simp [relabel]) rfl hlv (by decide) (by decide) ?_ ?_
  · refine ev_local hs hk hm ?_
    obtain ⟨ts, h1, h2, h3⟩ := hp
    refine it_list h1 fun it n1 hn hk1 hit acc hacc c2 I2 => ?_
    have ne : it ≠ acc := fun q => by subst q; obtain ⟨o, ho, _⟩ := hit; rw [hacc] at ho; cases ho
    have hn2 : n acc = none := by
      cases q : n acc with
      | none => rfl
      | some o => have := hk1 acc (by rw [q]; exact Option.some_ne_none _) List.not_mem_nil; rw [hacc, q] at this; cases this
    have hit2 := hit.grow (keeps_new (o := .list []) hacc)
    exact ⟨self_list (i := 0) hit2, rfl, Nat.zero_le _, hn, hn2, ne, hk1.trans (keeps_new hacc), hit2, by rw [Led.set_self]; cases t <;> rfl⟩
  · intro c2 it acc i m' n' I2 ⟨e, hi, hn1, hn2, ne, hk, hit, hacc⟩
    subst e
    refine ⟨hi, ?_⟩
    have kp : ∀ n3, Keeps [it] n' n3 → Keeps [] n n3 := fun n3 hk3 b hb hf => (hk3 b (by rw [hk b hb hf]; exact hb) (by simp only [List.mem_singleton]; intro q; rw [q] at hb; exact hb hn1)).trans (hk b hb hf)
    have ka : ∀ n3, Keeps [it] n' n3 → n3 acc = n' acc := fun n3 hk3 => hk3 acc (by rw [hacc]; exact Option.some_ne_none _) (by simp only [List.mem_singleton]; exact Ne.symm ne)
    obtain ⟨ts, h1, h2, h3⟩ := hp.grow hk
    refine nx_list (I2.hd.trans hh) hit h1 (fun u n3 hu hk3 hit' => ?_) (fun n3 hnone hk3 => ?_)
    · rw [List.getElem?_map] at hu
      obtain ⟨ta, hta, rfl⟩ := Option.map_eq_some_iff.mp hu
      have hl : i < ts.length := (List.getElem?_eq_some_iff.mp hta).1
      obtain ⟨q1, q2, hpi⟩ : ∃ q1 q2, ps[i]? = some (q1, q2) := ⟨_, _, List.getElem?_eq_getElem (by lia : i < ps.length)⟩
      have hmem : (q1, q2) ∈ ps := List.mem_of_getElem? hpi
      obtain ⟨ts3, _, _, _⟩ := hp.grow (kp n3 hk3)
      have htup : n3 ta = some (.tup [.int q1, .str q2]) := (hk3 _ (by rw [h3 i ta _ hta hpi]; exact Option.some_ne_none _) (by simpa using hit.ne (h3 i ta _ hta hpi) fun _ q => nomatch q)).trans (h3 i ta _ hta hpi)
      refine asg_tup I2.scope (names := [("many", p1), ("name", p2)]) (by rfl) (fun x hx => by
        simp only [List.mem_cons, List.not_mem_nil, or_false] at hx
        rcases hx with rfl | rfl <;> rfl) (I2.hd.trans hh) hit' htup (by rfl) ?_
      refine ht c2 I2.scope _ hmem n3 _ ?_
      have htk : ps.take (i + 1) = ps.take i ++ [(q1, q2)] := by rw [List.take_add_one, hpi]; rfl
      have lsub : LSub ([] : Loc) ((([("many", p1), ("name", p2)] : List (Str × Pos)).map (·.1)).zip [V.int q1, V.str q2]).reverse := fun x v h => by cases h
      cases t with
      | true =>
        rw [if_pos rfl]
        refine ev_local I2.scope (by rfl) (by rfl) ?_
        refine ⟨_, (ka n3 hk3).trans hacc, ?_, [], (fun x v h => by cases h), rfl, by lia, hn1, hn2, ne, ?_, ?_, ?_⟩
        · simp only [if_true, List.length_map, List.length_take]; lia
        · exact fun b hb hf => (Led.set_ne _ _ fun q => by rw [q] at hb; exact hb hn2).trans (kp n3 hk3 b hb hf)
        · obtain ⟨o, ho, r⟩ := hit'
          exact ⟨o, (Led.set_ne _ _ ne).trans ho, r⟩
        · rw [Led.set_self, htk]
          simp
      | false =>
        rw [if_neg (by decide)]
        refine ⟨[], (fun x v h => by cases h), rfl, by lia, hn1, hn2, ne, kp n3 hk3, hit', ?_⟩
        rw [ka n3 hk3, hacc]; rfl
    · have hl : ¬ i < ps.length := fun q => by
        rw [List.getElem?_eq_none_iff, List.length_map] at hnone
        lia
      refine h acc n3 hn2 (kp n3 hk3) ?_
      rw [ka n3 hk3, hacc, List.take_of_length_le (by lia)]
end

-- part D4
set_option maxHeartbeats 2000000
noncomputable def putF (ch : Int) (s : List (Str × Pt3) × Int) (p : Int × Str) : List (Str × Pt3) × Int := (aput s.1 p.2 ⟨ch, s.2, p.1⟩, s.2 + p.1)
noncomputable def setFieldsP (W : WS) (ch : Int) (ps : List (Int × Str)) : Except Str WS := do
  let r ← chOf W ch ["R"]
  if r.size < (ps.map (·.1)).sum then .error "FO" else .ok { W with fields := (ps.foldl (putF ch) (W.fields, 0)).1 }
local macro_rules | `(tactic| wtm_at "go1") => mac_go [("CB", "cb_sum/sa?")]
theorem Step.keepO {n n' : Led} {a a' : Ads} {W W' : WS} {x : Addr} {o : O} (S : Step n a W n' a' W') (R : Rep n a W) (h : n x = some o) (q1 : ∀ es ep, o ≠ .sd es ep) (q2 : ∀ es ep, o ≠ .idd es ep) : n' x = some o :=
  (S.keeps _ (by rw [h]; exact Option.some_ne_none _) fun q => by
    rcases R.tab _ q with ⟨_, _, e⟩ | ⟨_, _, e⟩ <;> (rw [h] at e; cases e)
    · exact q1 _ _ rfl
    · exact q2 _ _ rfl).trans h
theorem PartsAt.step {n n' : Led} {a a' : Ads} {W W' : WS} {b : Addr} {ps : List (Int × Str)} (h : PartsAt n b ps) (S : Step n a W n' a' W') (R : Rep n a W) : PartsAt n' b ps := by
  obtain ⟨ts, h1, h2, h3⟩ := h
  exact ⟨ts, S.keepO R h1 (fun _ _ q => nomatch q) (fun _ _ q => nomatch q), h2, fun i t p e1 e2 => S.keepO R (h3 i t p e1 e2) (fun _ _ q => nomatch q) (fun _ _ q => nomatch q)⟩
theorem putF_len {ch : Int} : ∀ {ps : List (Int × Str)} {s : List (Str × Pt3) × Int}, (ps.foldl (putF ch) s).1.length ≤ s.1.length + ps.length
  | [], s => Nat.le_refl _
  | p :: ps, s => by
    rw [List.foldl_cons]
    refine Nat.le_trans (putF_len (ps := ps)) ?_
    have : (putF ch s p).1.length ≤ s.1.length + 1 := length_aput
    rw [List.length_cons]; lia
section
variable {prog : Program} [ProgOk prog] {c : Cx} {n : Led} {X : Str → Led → Prop} {a : Ads} {W : WS} {Q : V → Led → Prop}
theorem fn_set_fields {B : Nat} {ch : Int} {b : Addr} {ps : List (Int × Str)} (hlv : 9 < c.lv) (hh : c.A.handled = none) (R : Rep n a W) (G : Good B W) (hB : B ≤ BM) (hp : PartsAt n b ps) (hz : ps.length ≤ 16) (h0 : ∀ p ∈ ps, 0 ≤ p.1)
    (h1 : ∀ n' a' W', Rep n' a' W' → Step n a W n' a' W' → setFieldsP W ch ps = .ok W' → Q .none n') (h2 : ∀ k n', Rep n' a W → Step n a W n' a W → setFieldsP W ch ps = .error k → X k n') :
    Fn prog c n (.ref 148) [.ref a.wa, .int ch, .ref b] Q X := by
  wtm_at "enter"
  refine ex_seq (fun m' n' => ∃ r t, m' = ([("found", .ref (a.ra ch)), ("world", .ref a.wa), ("channel", .int ch), ("parts", .ref b)] : Loc) ∧ Rep n' a W ∧ Step n a W n' a W ∧ Fd B W ch r t ∧ chOf W ch ["R"] = .ok r) ?_ ?_
  · wtm_at "go"
    all_goals first
      | wtm_at "side"
      | exact ⟨_, _, rfl, by assumption, by wtm_at "chain", by assumption, by assumption⟩
      | exact short _ (by decide)
      | exact h2 _ _ (by assumption) (by wtm_at "chain") (by simp [setFieldsP, *, bind, Except.bind])
      | fail
  rintro _ n1 ⟨r, t, rfl, R1, S1, F, hc⟩
  have I := ‹InFn _ _ _ _›
  have hp1 := hp.step S1 R
  have esp : setFieldsP W ch ps = if r.size < (ps.map (·.1)).sum then .error "FO" else .ok { W with fields := (ps.foldl (putF ch) (W.fields, 0)).1 } := by
    simp [setFieldsP, hc, bind, Except.bind]
  let m0 : Loc := [("found", .ref (a.ra ch)), ("world", .ref a.wa), ("channel", .int ch), ("parts", .ref b)]
  refine ex_seq (fun m' n' => m' = m0 ∧ Rep n' a W ∧ Step n1 a W n' a W) ?_ ?_
  · wtm_at "go"
    · refine ev_parts (t := false) (by wtm_at "side") (by wtm_at "side") I.scope (by rfl) (by rfl) hp1 (by rw [szl]; lia) (fun c2 hs2 p hp n' P hP => ?_) fun acc n2 hn2 hk2 hacc => ?_
      · show Tt _ _ _ _ _ _ _
        refine tt_cmp (ev_local hs2 (by rfl) (by rfl) (ev_int (cmp_lt (tr_bool ?_))))
        have e : decide (p.1 < 0) = false := decide_eq_false (by have := h0 p hp; lia)
        rw [e]; exact hP
      · have hacc : n2 acc = some (.list []) := hacc
        have S2 := R1.stepGrow hk2
        have R2 := S2.rep
        wtm_at "go"
        all_goals first
          | exact short _ (by decide)
          | wtm_at "side"
          | exact absurd rfl (by assumption : ([] : List V) ≠ [])
          | exact ⟨rfl, by assumption, by wtm_at "chain"⟩
          | fail
  rintro _ n3 ⟨rfl, R3, S3⟩
  have S3 := S1.trans S3
  have hget := F.get
  have hp3 := hp.step S3 R
  refine ex_seq (fun m' n' => m' = m0 ∧ Rep n' a W ∧ Step n3 a W n' a W ∧ ¬ r.size < (ps.map (·.1)).sum) ?_ ?_
  · wtm_at "go"
    · refine ev_parts (t := true) (by wtm_at "side") (by wtm_at "side") I.scope (by rfl) (by rfl) hp3 (by rw [szl]; lia) (fun c2 hs2 p hp n' P hP => hP) fun acc n4 hn4 hk4 hacc => ?_
      have hacc : n4 acc = some (.list ((ps.map (·.1)).map V.int)) := hacc
      have S4 := R3.stepGrow hk4
      have R4 := S4.rep
      wtm_at "go"
      all_goals first
        | wtm_at "side"
        | exact ⟨rfl, by assumption, by wtm_at "chain", by assumption⟩
        | exact h2 _ _ (by assumption) (by wtm_at "chain") (by rw [esp, if_pos (by assumption)])
        | fail
  rintro _ n5 ⟨rfl, R5, S5, hsz⟩
  rw [if_neg hsz] at esp
  have S5 := S3.trans S5
  have hp5 := hp.step S5 R
  obtain ⟨ts, hb, htl, htup⟩ := hp5
  wtm_at "go"
  refine ex_for ps.length (fun it i m' n' => ∃ a', m' = ([("at", .int ((ps.take i).foldl (putF ch) (W.fields, 0)).2), ("found", .ref (a.ra ch)), ("world", .ref a'.wa), ("channel", .int ch), ("parts", .ref b)] : Loc) ∧ i ≤ ps.length ∧ n5 it = none ∧ ItOf n' it "list_iterator" #[.ref b, .int i 0] ∧
    Step n5 a W n' a' { W with fields := ((ps.take i).foldl (putF ch) (W.fields, 0)).1 }) ?_ ?_
  · wtm_at "go"
    refine it_list hb fun it n6 hn hk hit => ⟨a, rfl, Nat.zero_le _, hn, hit, R5.stepGrow hk⟩
  · rintro it i _ n' ⟨a', rfl, hi, hn0, hit, S'⟩
    refine ⟨hi, ?_⟩
    have R' := S'.rep
    have hb' : n' b = some (.list (ts.map V.ref)) := S'.keepO R5 hb (fun _ _ q => nomatch q) (fun _ _ q => nomatch q)
    refine nx_list (I.hd.trans hh) hit hb' (fun u n6 hu hk hit' => ?_) (fun n6 hn hk => ?_)
    · rw [List.getElem?_map] at hu
      obtain ⟨tt, hta, rfl⟩ := Option.map_eq_some_iff.mp hu
      have hl : i < ts.length := (List.getElem?_eq_some_iff.mp hta).1
      obtain ⟨q1, q2, hpi⟩ : ∃ q1 q2, ps[i]? = some (q1, q2) := ⟨_, _, List.getElem?_eq_getElem (by lia : i < ps.length)⟩
      have htk : ps.take (i + 1) = ps.take i ++ [(q1, q2)] := by rw [List.take_add_one, hpi]; rfl
      have htu : n' tt = some (.tup [.int q1, .str q2]) := S'.keepO R5 (htup i tt _ hta hpi) (fun _ _ q => nomatch q) (fun _ _ q => nomatch q)
      have htu6 : n6 tt = some (.tup [.int q1, .str q2]) := (hk _ (by rw [htu]; exact Option.some_ne_none _) (by simpa using hit.ne htu fun _ q => nomatch q)).trans htu
      have S6 := S'.it hn0 hit hk
      have R6 := S6.rep
      have hle : ((ps.take i).foldl (putF ch) (W.fields, 0)).1.length ≤ W.fields.length + 16 := by
        refine Nat.le_trans putF_len ?_
        have : (ps.take i).length ≤ ps.length := by rw [List.length_take]; lia
        show W.fields.length + _ ≤ _
        lia
      obtain ⟨z, hze⟩ : ∃ z, z = (ps.take i).foldl (putF ch) (W.fields, 0) := ⟨_, rfl⟩
      have hfold : (ps.take (i + 1)).foldl (putF ch) (W.fields, 0) = (aput z.1 q2 ⟨ch, z.2, q1⟩, z.2 + q1) := by rw [htk, List.foldl_append, ← hze]; rfl
      rw [← hze] at R6 S6 hle ⊢
      refine asg_tup I.scope (names := [("many", _), ("name", _)]) (by rfl) (fun x hx => by
        simp only [List.mem_cons, List.not_mem_nil, or_false] at hx
        rcases hx with rfl | rfl <;> rfl) (I.hd.trans hh) hit' htu6 (by rfl) ?_
      show Ex _ _ ([("name", .str q2), ("many", .int q1), ("at", .int z.2), ("found", .ref (a.ra ch)), ("world", .ref a'.wa), ("channel", .int ch), ("parts", .ref b)] : Loc) _ _ _ _ _
      wtm_at "go"
      · exact short _ (by show 3 ≤ 16; decide)
      refine st_fields (p := ⟨ch, z.2, q1⟩) (by assumption) ?_ (by assumption) (fun n7 S7 => ?_)
      · have := G.il
        have : BM = 4000000 := rfl
        rw [szl]
        show z.1.length ≤ _
        lia
      wtm_at "go"
      have S8 := S6.trans ((by assumption : Step n6 _ _ _ _ _).trans S7)
      have nt : ∀ {x : Addr} {o : O}, n6 x = some o → (∀ es ep, o ≠ .sd es ep) → (∀ es ep, o ≠ .idd es ep) → n7 x = some o := fun hx q1 q2 => ((by assumption : Step n6 _ _ _ _ _).trans S7).keepO R6 hx q1 q2
      obtain ⟨oi, hoi, hoc⟩ := hit'
      refine ⟨[("at", .int (z.2 + q1)), ("found", .ref (a.ra ch)), ("world", .ref a'.wa), ("channel", .int ch), ("parts", .ref b)], by wtm_at "lsub", ?_⟩
      dsimp only
      rw [hfold]
      refine ⟨_, ?_, by lia, hn0, ⟨oi, nt hoi (fun _ _ q => nomatch q) (fun _ _ q => nomatch q), hoc⟩, S8⟩
      rfl
    · wtm_at "go"
      have hl : ¬ i < ps.length := fun q => by
        rw [List.getElem?_eq_none_iff, List.length_map] at hn
        lia
      have S6 := S'.it hn0 hit hk
      rw [List.take_of_length_le (by lia)] at S6
      have S7 := S5.trans S6
      exact h1 n6 a' _ S7.rep S7 esp
end

-- part D5
set_option maxHeartbeats 2000000
/-- what a slice of a list picks -/
noncomputable def PickV (xs : List V) (l u : Option Int) (ys : List V) : Prop := ∀ vs, VRel xs vs → VRel ys (slicePick vs.toArray l u none).toList
theorem VRel.take : ∀ {us : List V} {xs : List Value} (k : Nat), VRel us xs → VRel (us.take k) (xs.take k)
  | _, _, 0, _ => .nil
  | [], _, _ + 1, .nil => .nil
  | _ :: _, _, k + 1, .cons h r => .cons h (VRel.take k r)
theorem VRel.drop : ∀ {us : List V} {xs : List Value} (k : Nat), VRel us xs → VRel (us.drop k) (xs.drop k)
  | _, _, 0, h => h
  | [], _, _ + 1, .nil => .nil
  | _ :: _, _, k + 1, .cons _ r => VRel.drop k r
theorem pick_upto {xs : List V} {b : Int} (h0 : 0 ≤ b) : PickV xs none (some b) (xs.take b.toNat) := fun vs h => by
  have e : b = (b.toNat : Int) := by lia
  rw [e, slicePick_upto' vs.toArray b.toNat]
  simpa [← e] using h.take b.toNat
theorem pick_run {xs : List V} {a b : Int} (h0 : 0 ≤ a) (h1 : a ≤ b) (h2 : b ≤ xs.length) : PickV xs (some a) (some b) ((xs.drop a.toNat).take (b.toNat - a.toNat)) := fun vs h => by
  have ea : a = (a.toNat : Int) := by lia
  have eb : b = (b.toNat : Int) := by lia
  rw [ea, eb, slicePick_run vs.toArray a.toNat b.toNat (by have := h.length; simp; lia) (by lia)]
  simpa [← ea, ← eb] using (h.drop a.toNat).take (b.toNat - a.toNat)
section
variable {prog : Program} {c : Cx} {m : Loc} {n : Led} {X : Str → Led → Prop} {Q : V → Led → Prop} {pos : Pos}
theorem ev_slice_l {e : Expr} {l u : Option Expr} {p : Pos} (h : Ev prog c m n (eval e c.env) (fun o n' => ∃ x, o = .ref x ∧ Pt prog c m n' l (fun li n'' => Pt prog c m n'' u (fun ui n3 =>
      ∃ xs ys, n3 x = some (.list xs) ∧ xs.length ≤ sizeLine ∧ PickV xs li ui ys ∧ ∀ y n4, n3 y = none → Keeps [] n3 n4 → n4 y = some (.list ys) → Q (.ref y) n4) X) X) X) :
    Ev prog c m n (eval (.Subscript e (.Slice l u none p) pos) c.env) Q X := by
  show Wp prog c m n (eval e c.env >>= fun o => holding [o] (valueOrNone (evalOpt l c.env) >>= fun lv => holding [lv] (valueOrNone (evalOpt u c.env)) >>= fun uv => (holding [lv, uv] (valueOrNone none) >>= fun sv => newFields "slice" [lv, uv, sv])) >>=
    fun i => (standAt pos >>= fun _ => subscriptTail e (.Slice l u none p) o i)) _ X
  refine Ev.bind (Ev.mono h (fun o n' ⟨y, hy, h'⟩ x hx => ?_) fun _ _ x => x)
  subst hy
  cases hx
  intro H s S
  refine wpAny_bind (wpAny_holding (wpAny_bind (wpAny_mono (wp_part h' H s S) (fun lx s1 ⟨n1, S1, li, hl, q1⟩ => ?_) fun _ _ x => x)))
  refine wpAny_bind (wpAny_holding (wpAny_mono (wp_part q1 H s1 S1) (fun ux s2 ⟨n2, S2, ui, hu, q2⟩ => ?_) fun _ _ x => x))
  refine wpAny_bind (wpAny_holding (wpAny_pure ?_))
  unfold newFields
  refine wpAny_newObj_type ?_ (by show [lx, ux, Value.none].toArray.size ≤ sizeLine + 2; simp; decide)
  refine wpAny_bind (wpAny_standAt ?_)
  obtain ⟨xs, ys, hx, hz, hp, hq⟩ := q2
  obtain ⟨ob, vs, h1, h2, _, h3⟩ := S2.list hx
  have S3 : Sit prog c m n2 { s2 with heap := s2.heap.push { cls := .type "slice", data := .fields #[lx, ux, .none] } } := S2.grow (tk := s2.toks) fun b o e => Heap.get?_push_of_some _ e
  have hpl : IsPart lx li := by
    cases li with
    | none => rw [show lx = .none from hl]; exact .none
    | some i => obtain ⟨t, e⟩ := hl; rw [e]; exact .int i t
  have hpu : IsPart ux ui := by
    cases ui with
    | none => rw [show ux = .none from hu]; exact .none
    | some i => obtain ⟨t, e⟩ := hu; rw [e]; exact .int i t
  have hzz : vs.size ≤ sizeLine := by
    have h4 := VRel.length h3
    have h5 : vs.toList.length = vs.size := Array.length_toList
    lia
  have hl2 := h2.push { cls := .type "slice", data := .fields #[lx, ux, .none] }
  refine tail_any (Heap.IsList.typeIs (s := { s2 with heap := s2.heap.push { cls := .type "slice", data := .fields #[lx, ux, .none] } }) hl2) slot_list_getitem.lookup
    (wpAny_getItem_list_slice hl2 (Heap.IsSliceOf.new ..) hpl hpu .none (by simp) ?_ hzz) (ops := [.ref s2.heap.objs.size, .ref y]) rfl
  generalize hs3 : ({ s2 with heap := s2.heap.push { cls := .type "slice", data := .fields #[lx, ux, .none] } } : Shared) = s3 at S3
  have e3 : s2.heap.push { cls := .type "slice", data := .fields #[lx, ux, .none] } = s3.heap := by rw [← hs3]
  have hv := hp vs.toList h3
  rw [Array.toArray_toList] at hv
  obtain ⟨a0, S4⟩ := S3.new (tk := s3.toks) (o := .list ys) (a := s3.heap.objs.size) (fun b o e => Heap.get?_push_of_some { cls := .type "list", data := .seq (slicePick vs li ui none) } e) (Nat.le_refl _) (Heap.get?_push_size _ rfl) ⟨_, _, rfl, hv⟩
  subst hs3
  exact ⟨_, S4, _, .ref _, hq _ _ a0 (keeps_new a0) (Led.set_self _ _ _)⟩
end

-- part D6
set_option maxHeartbeats 2000000
noncomputable def pyTexts : List Str := ["", "a", "bc", "d\ne", "fgh\n", " ij"]
noncomputable def textAt (k : Int) : Str := pyTexts.getD k.toNat ""
noncomputable def varEF (row : Int) : Str := Txt.item "EF" row ++ "$"
/-- what a deed answers -/
inductive Ans where
  | one (v : V)
  | two (u v : V)
noncomputable def AnsAt (n : Led) (v : V) : Ans → Prop
  | .one u => v = u ∧ ∀ x, u ≠ .ref x
  | .two u w => ∃ t, v = .ref t ∧ n t = some (.tup [u, w]) ∧ (∀ x, u ≠ .ref x) ∧ ∀ x, w ≠ .ref x
noncomputable def askedP (W : WS) (ch which : Int) : Except Str V :=
  if which = 0 then (endedP W ch).map .bool else if which = 1 then (placeP W ch).map .int else (lengthP W ch).map .int
noncomputable def movedP (W : WS) (row one other : Int) : Except Str (Ans × WS) :=
  if one.fmod 3 = 2 then .ok (.one .none, setPlacedP W (varEF row) (textAt other) (decide (other < 3)))
  else if one.fmod 3 = 1 then (putP W (5 + row) (some (1 + 2 * row + other.fmod 2)) 24).map fun W' => (.one .none, W')
  else (getP W (5 + row) (some (1 + 2 * row + other.fmod 2))).map fun W' => (.one (optS (fieldP W' (varEF row))), W')
section
variable {prog : Program} {c : Cx} {m : Loc} {n n0 : Led} {X : Str → Led → Prop} {Q : V → Led → Prop} {pos : Pos}
theorem textAt_at {k : Int} (h0 : 0 ≤ k) (h1 : k < 6) : (pyTexts.map V.str)[k.toNat]? = some (.str (textAt k)) := by
  obtain ⟨i, rfl⟩ : ∃ i : Nat, k = i := ⟨k.toNat, by lia⟩
  have : i < 6 := by lia
  match i, this with
  | 0, _ => rfl
  | 1, _ => rfl
  | 2, _ => rfl
  | 3, _ => rfl
  | 4, _ => rfl
  | 5, _ => rfl
theorem textAt_len (k : Int) : (textAt k).length ≤ 4 := by
  unfold textAt
  have : ∀ i : Nat, (pyTexts.getD i "").length ≤ 4 := fun i => by
    match i with
    | 0 => decide
    | 1 => decide
    | 2 => decide
    | 3 => decide
    | 4 => decide
    | 5 => decide
    | i + 6 => show ("" : Str).length ≤ 4; decide
  exact this _
theorem sub_texts {e s : Expr} {a : Addr} {k : Int} (ha : n0 a = some (.list (pyTexts.map V.str))) (hk : Keeps [] n0 n) (h0 : 0 ≤ k) (h1 : k < 6) (h : Q (.str (textAt k)) n) (hs : Plain s := by with_unfolding_all (intro _ _; rfl)) : Sub prog c m n e s (.ref a) (.int k) Q X :=
  sub_list (hk.at ha) h0 (by lia) (textAt_at h0 h1) h hs
end
local macro_rules | `(tactic| wtm_at "go1") => mac_go [("Bin", "bin_mod/?? bin_div/???"), ("Fn", "fn_file_ended fn_place_of fn_length_of"), ("Sub", "sub_str/???e? sub_texts/ug???")]
section
variable {prog : Program} [ProgOk prog] {c : Cx} {n : Led} {X : Str → Led → Prop} {a : Ads} {W : WS} {Q : V → Led → Prop}
theorem fn_law_asked {B : Nat} {ch which : Int} (hlv : 10 < c.lv) (hh : c.A.handled = none) (R : Rep n a W) (G : Good B W) (hB : B ≤ BM)
    (h1 : ∀ n' v, Rep n' a W → Step n a W n' a W → askedP W ch which = .ok v → Q v n') (h2 : ∀ k n', Rep n' a W → Step n a W n' a W → askedP W ch which = .error k → X k n') :
    Fn prog c n (.ref 240) [.ref a.wa, .int ch, .int which] Q X := by
  wtm_at "enter"
  wtm_at "go"
  all_goals first
    | wtm_at "side"
    | exact h1 _ _ (by assumption) (by wtm_at "chain") (by simp [askedP, *, Except.map]; done)
    | exact h2 _ _ (by assumption) (by wtm_at "chain") (by simp [askedP, *, Except.map]; done)
    | fail
end

-- part D7
set_option maxHeartbeats 2000000
theorem tlen (k : Int) : (textAt k).length ≤ 50 := Nat.le_trans (textAt_len k) (by decide)
theorem tlen1 (k : Int) : (textAt k).length ≤ 100 := Nat.le_trans (textAt_len k) (by decide)
section
variable {prog : Program} [ProgOk prog] {c : Cx} {n : Led} {X : Str → Led → Prop} {a : Ads} {W : WS} {Q : V → Led → Prop} {B : Nat} {ch : Int}
theorem fn_get0 (hlv : 9 < c.lv) (hh : c.A.handled = none) (R : Rep n a W) (G : Good B W) (hB : B ≤ BM)
    (h1 : ∀ n' W', Rep n' a W' → Step n a W n' a W' → getP W ch none = .ok W' → Q .none n') (h2 : ∀ k n', Rep n' a W → Step n a W n' a W → getP W ch none = .error k → X k n') : Fn prog c n (.ref 190) [.ref a.wa, .int ch, .none] Q X := fn_get_record hlv hh R G hB h1 h2
theorem fn_get1 {k : Int} (hlv : 9 < c.lv) (hh : c.A.handled = none) (R : Rep n a W) (G : Good B W) (hB : B ≤ BM)
    (h1 : ∀ n' W', Rep n' a W' → Step n a W n' a W' → getP W ch (some k) = .ok W' → Q .none n') (h2 : ∀ e n', Rep n' a W → Step n a W n' a W → getP W ch (some k) = .error e → X e n') : Fn prog c n (.ref 190) [.ref a.wa, .int ch, .int k] Q X := fn_get_record hlv hh R G hB h1 h2
theorem fn_put0 {room : Int} (hlv : 9 < c.lv) (hh : c.A.handled = none) (R : Rep n a W) (G : Good B W) (hB : B ≤ BM) (hroom : room ≤ 100)
    (h1 : ∀ n' W', Rep n' a W' → Step n a W n' a W' → putP W ch none room = .ok W' → Q .none n') (h2 : ∀ k n', Rep n' a W → Step n a W n' a W → putP W ch none room = .error k → X k n') : Fn prog c n (.ref 197) [.ref a.wa, .int ch, .none, .int room] Q X := fn_put_record hlv hh R G hB hroom h1 h2
theorem fn_put1 {k room : Int} (hlv : 9 < c.lv) (hh : c.A.handled = none) (R : Rep n a W) (G : Good B W) (hB : B ≤ BM) (hroom : room ≤ 100)
    (h1 : ∀ n' W', Rep n' a W' → Step n a W n' a W' → putP W ch (some k) room = .ok W' → Q .none n') (h2 : ∀ e n', Rep n' a W → Step n a W n' a W → putP W ch (some k) room = .error e → X e n') : Fn prog c n (.ref 197) [.ref a.wa, .int ch, .int k, .int room] Q X := fn_put_record hlv hh R G hB hroom h1 h2
end
local macro_rules | `(tactic| wtm_at "go1") => mac_go [("Fn", "fn_get0 fn_get1 fn_put0 fn_put1 fn_set_placed fn_field_text")]
section
variable {prog : Program} [ProgOk prog] {c : Cx} {n : Led} {X : Str → Led → Prop} {a : Ads} {W : WS} {Q : V → Led → Prop}
theorem optS_noref (o : Option Str) (x : Addr) : optS o ≠ .ref x := by cases o <;> (intro q; cases q)
theorem fn_law_moved {B : Nat} {row one other : Int} {p : Pt3} (hlv : 10 < c.lv) (hh : c.A.handled = none) (R : Rep n a W) (G : Good B W) (hB : B ≤ BM) (hr0 : 0 ≤ row) (hr1 : row ≤ 1) (ho0 : 0 ≤ other) (ho1 : other ≤ 5)
    (hn0 : 0 ≤ one) (hn1 : one ≤ 3) (hEF : aget W.fields (varEF row) = some p) (hG : ∀ k W', getP W (5 + row) (some k) = .ok W' → Good BM W')
    (h1 : ∀ n' v ans W', Rep n' a W' → Step n a W n' a W' → AnsAt n' v ans → movedP W row one other = .ok (ans, W') → Q v n') (h2 : ∀ k n', Rep n' a W → Step n a W n' a W → movedP W row one other = .error k → X k n') :
    Fn prog c n (.ref 247) [.ref a.wa, .int row, .int one, .int other] Q X := by
  wtm_at "enter"
  wtm_at "go"
  all_goals first
    | wtm_at "side"
    | exact short _ (by decide)
    | decide
    | exact ho0
    | (show _ ≤ _; lia)
    | exact h1 _ _ (.one _) _ (by assumption) (by wtm_at "chain") ⟨rfl, fun _ q => by cases q⟩ (by unfold movedP; simp [*, Except.map]; done)
    | exact h2 _ _ (by assumption) (by wtm_at "chain") (by unfold movedP; simp [*, Except.map]; done)
    | (rcases (by lia : row = 0 ∨ row = 1) with rfl | rfl <;> decide)
    | (rw [szl]; rcases (by lia : row = 0 ∨ row = 1) with rfl | rfl <;> decide)
    | exact mulok (by lia) (by lia) (by lia) (by lia)
    | (refine fn_set_placed (nm := varEF row) (by wtm_at "side") (by wtm_at "side") (by assumption) G hB hEF (tlen1 _) (fun n' R' S' => ?_)
       exact h1 _ _ (.one _) _ (by assumption) (by wtm_at "chain") ⟨rfl, fun _ q => by cases q⟩ (by unfold movedP; simp [*, Except.map]; done))
    | (refine fn_field_text (nm := varEF row) (by wtm_at "side") (by wtm_at "side") (by assumption) (hG _ _ (by assumption)) (Nat.le_refl _) (fun v hv => ?_)
       exact h1 _ _ (.one _) _ (by assumption) (by wtm_at "chain") ⟨rfl, fun _ q => by rw [hv] at q; exact optS_noref _ _ q⟩ (by unfold movedP; simp [*, Except.map]; done))
    | fail
end

-- part D8
set_option maxHeartbeats 2000000
noncomputable def varsOf (row : Int) : List Str := if row = 0 then ["A$", "B$"] else ["C$", "D$"]
noncomputable def varAt (row k : Int) : Str := (varsOf row).getD k.toNat ""
noncomputable def nameAt (row k : Int) : Str := Txt.item (Txt.slice "PQRS" (some (2 * row)) (some (2 * row + 2))) (k.fmod 2)
noncomputable def chanAt (row one : Int) : Int := 1 + 2 * row + one.fmod 2
noncomputable def deedP (W : WS) (row form one other : Int) : Except Str (Ans × WS) :=
  if form < 2 then (openP W (Txt.item "RIOA" (one.fdiv 2 + 2 * form)) (chanAt row one) (nameAt row other) (2 + other)).map fun W' => (.one .none, W')
  else if form = 2 then (writeP W (chanAt row one) (textAt other ++ "\n")).map fun W' => (.one .none, W')
  else if form = 3 then (writeP W (chanAt row one) (textAt other)).map fun W' => (.one .none, W')
  else if form = 4 then (readRowP W (chanAt row one)).map fun p => (.one (.str p.1), p.2)
  else if form = 5 then (readSignsP W (chanAt row one) other).map fun p => (.one (.str p.1), p.2)
  else if form = 6 then (setFieldsP W (chanAt row one) [(other, varAt row 0), (one.fdiv 2, varAt row 1)]).map fun W' => (.one .none, W')
  else if form = 7 then (if (aget W.fields (varAt row (one.fmod 2))).isSome then .ok (.one .none, setPlacedP W (varAt row (one.fmod 2)) (textAt other) (decide (one < 2))) else .ok (.one .none, W))
  else if form = 8 then (getP W (chanAt row one) (if other = 0 then none else some (other - 1))).map fun W' => (.one .none, W')
  else if form = 9 then (putP W (chanAt row one) (if other = 0 then none else some other) 24).map fun W' => (.one .none, W')
  else if form = 10 then (askedP W (chanAt row one) (other.fmod 3)).map fun v => (.two v (optS (fieldP W (varAt row 0))), W)
  else if form = 11 then .ok (.one .none, closeP W (chanAt row one))
  else if form = 12 then (if one < 3 then (killP W (nameAt row 0)).map fun W' => (.one .none, W') else (renameP W (nameAt row one) (nameAt row other)).map fun W' => (.one .none, W'))
  else movedP W row one other
theorem asked_noref {W : WS} {ch which : Int} {v : V} (h : askedP W ch which = .ok v) (x : Addr) : v ≠ .ref x := by
  unfold askedP at h
  intro q; subst q
  split at h
  · cases e : endedP W ch <;> rw [e] at h <;> cases h
  · split at h
    · cases e : placeP W ch <;> rw [e] at h <;> cases h
    · cases e : lengthP W ch <;> rw [e] at h <;> cases h
section
variable {prog : Program} {c : Cx} {m : Loc} {n n0 : Led} {X : Str → Led → Prop} {Q : V → Led → Prop} {pos : Pos}
noncomputable abbrev KSlL3 (x : Addr) (li : Option Int) (Q : V → Led → Prop) (ui : Option Int) (n : Led) : Prop := ∃ a W, Rep n a W ∧ ∃ xs ys, n x = some (.list xs) ∧ xs.length ≤ sizeLine ∧ PickV xs li ui ys ∧ ∀ y n4, Rep n4 a W → Step n a W n4 a W → Keeps [] n n4 → n4 y = some (.list ys) → Q (.ref y) n4
noncomputable abbrev KSlL2 (prog : Program) (c : Cx) (m : Loc) (u : Option Expr) (x : Addr) (Q : V → Led → Prop) (X : Str → Led → Prop) (li : Option Int) (n : Led) : Prop := Pt prog c m n u (KSlL3 x li Q) X
noncomputable def KSlL (prog : Program) (c : Cx) (m : Loc) (l u : Option Expr) (Q : V → Led → Prop) (X : Str → Led → Prop) (o : V) (n : Led) : Prop := ∃ x, o = .ref x ∧ Pt prog c m n l (KSlL2 prog c m u x Q X) X
theorem ksll {prog : Program} {c : Cx} {m : Loc} {n : Led} {Q : V → Led → Prop} {X : Str → Led → Prop} {l u : Option Expr} {x : Addr} (h : Pt prog c m n l (KSlL2 prog c m u x Q X) X) : KSlL prog c m l u Q X (.ref x) n := ⟨x, rfl, h⟩
theorem ev_slice_lw {e : Expr} {l u : Option Expr} {p : Pos} (h : Ev prog c m n (eval e c.env) (KSlL prog c m l u Q X) X) :
    Ev prog c m n (eval (.Subscript e (.Slice l u none p) pos) c.env) Q X := ev_slice_l (Ev.mono h (fun o n' ⟨x, e, q⟩ => ⟨x, e, Pt.mono q fun li n2 q => Pt.mono q fun ui n3 ⟨a, W, R, xs, ys, h1, h2, h3, h4⟩ => ⟨xs, ys, h1, h2, h3, fun y n4 _ hk hy => h4 y n4 (R.grow hk) (R.stepGrow hk) hk hy⟩⟩) fun _ _ q => q)
where
  Pt.mono {n : Led} {e : Option Expr} {P P' : Option Int → Led → Prop} (h : Pt prog c m n e P X) (hp : ∀ i n', P i n' → P' i n') : Pt prog c m n e P' X := by
    cases e with
    | none => exact hp _ _ h
    | some e => exact Ev.mono h (fun v n' ⟨i, e, q⟩ => ⟨i, e, hp _ _ q⟩) fun _ _ q => q
theorem pick_vars {row : Int} (h0 : 0 ≤ row) (h1 : row ≤ 1) : PickV [V.str "A$", V.str "B$", V.str "C$", V.str "D$"] (some (2 * row)) (some (2 * row + 2)) ((varsOf row).map V.str) := by
  rcases (by lia : row = 0 ∨ row = 1) with rfl | rfl
  · exact pick_run (a := 2 * 0) (b := 2 * 0 + 2) (by decide) (by decide) (by decide)
  · exact pick_run (a := 2 * 1) (b := 2 * 1 + 2) (by decide) (by decide) (by decide)
theorem sub_vars {e s : Expr} {a : Addr} {row k : Int} (ha : n0 a = some (.list ((varsOf row).map V.str))) (hk : Keeps [] n0 n) (h0 : 0 ≤ k) (h1 : k < 2) (h : Q (.str (varAt row k)) n) (hs : Plain s := by with_unfolding_all (intro _ _; rfl)) : Sub prog c m n e s (.ref a) (.int k) Q X :=
  sub_list (hk.at ha) h0 (by lia) (by
    unfold varAt varsOf
    rcases (by lia : k = 0 ∨ k = 1) with rfl | rfl <;> split <;> rfl) h hs
end
theorem goodNm {row k : Int} (h0 : 0 ≤ row) (h1 : row ≤ 1) : GoodNm (nameAt row k) := by
  unfold nameAt
  have hk : k.fmod 2 = 0 ∨ k.fmod 2 = 1 := by
    have := Int.fmod_nonneg_of_pos k (b := 2) (by decide)
    have := Int.fmod_lt_of_pos k (b := 2) (by decide)
    lia
  rcases (by lia : row = 0 ∨ row = 1) with rfl | rfl <;> rcases hk with e | e <;> rw [e] <;> exact ⟨by decide, by decide, by decide⟩

-- part D9
set_option maxHeartbeats 2000000
theorem fn_nof {prog : Program} [ProgOk prog] {c : Cx} {n : Led} {X : Str → Led → Prop} {a : Ads} {W : WS} {Q : V → Led → Prop} {nm : Str} (hlv : 8 < c.lv) (hh : c.A.handled = none) (R : Rep n a W) (hn : aget W.fields nm = none)
    (h1 : Q .none n) : Fn prog c n (.ref 162) [.ref a.wa, .str nm] Q X := fn_no_field (B := 0) hlv hh R hn h1
theorem ev_slice_ll {prog : Program} {c : Cx} {m : Loc} {n : Led} {X : Str → Led → Prop} {Q : V → Led → Prop} {pos : Pos} {es : List Expr} {q : Pos} {l u : Option Expr} {p : Pos} (h : Ev prog c m n (eval (.List es q) c.env) (KSlL prog c m l u Q X) X) :
    Ev prog c m n (eval (.Subscript (.List es q) (.Slice l u none p) pos) c.env) Q X := ev_slice_lw h
local macro_rules | `(tactic| wtm_at "go1") => mac_go [("Ev.Subscript.3", "ev_slice_ll/?"), ("KSlL", "ksll/?"), ("Fn", "fn_write_text fn_write_row fn_read_row fn_read_signs fn_law_asked fn_nof/ssaa?"), ("Sub", "sub_vars/ug???")]
theorem slen2 {row : Int} (h0 : 0 ≤ row) (h1 : row ≤ 1) : (Txt.slice "PQRS" (some (2 * row)) (some (2 * row + 2))).length = 2 := by
  rcases (by lia : row = 0 ∨ row = 1) with rfl | rfl <;> decide
theorem parts2 {n n1 n2 : Led} {b t1 t2 : Addr} {k1 k2 : Int} {s1 s2 : Str} (hb : n b = some (.list [.ref t1, .ref t2])) (h1 : n1 t1 = some (.tup [.int k1, .str s1])) (hk1 : Keeps [] n1 n) (h2 : n2 t2 = some (.tup [.int k2, .str s2])) (hk2 : Keeps [] n2 n) : PartsAt n b [(k1, s1), (k2, s2)] := by
  refine ⟨[t1, t2], hb, rfl, fun i t p e1 e2 => ?_⟩
  match i, e1, e2 with
  | 0, e1, e2 => cases e1; cases e2; exact hk1.at h1
  | 1, e1, e2 => cases e1; cases e2; exact hk2.at h2
theorem fit3 {x : Int} (h0 : 0 ≤ x) (h1 : x ≤ 3) : fitsSsize x = true := by
  rcases (by lia : x = 0 ∨ x = 1 ∨ x = 2 ∨ x = 3) with rfl | rfl | rfl | rfl <;> decide
theorem fmod2 (k : Int) : 0 ≤ k.fmod 2 ∧ k.fmod 2 < 2 := ⟨Int.fmod_nonneg_of_pos k (by decide), Int.fmod_lt_of_pos k (by decide)⟩
theorem fmod3 (k : Int) : 0 ≤ k.fmod 3 ∧ k.fmod 3 < 3 := ⟨Int.fmod_nonneg_of_pos k (by decide), Int.fmod_lt_of_pos k (by decide)⟩
theorem fdiv2 {one : Int} (h0 : 0 ≤ one) (h1 : one ≤ 3) : 0 ≤ one.fdiv 2 ∧ one.fdiv 2 ≤ 1 ∧ Builtin.divisionGoesByPylong one 2 = false := by
  rcases (by lia : one = 0 ∨ one = 1 ∨ one = 2 ∨ one = 3) with rfl | rfl | rfl | rfl <;> exact ⟨by decide, by decide, by decide⟩
section
variable {prog : Program} [ProgOk prog] {c : Cx} {n : Led} {X : Str → Led → Prop} {a : Ads} {W : WS} {Q : V → Led → Prop}
theorem fn_law_deed {B : Nat} {row form one other : Int} {p : Pt3} (hlv : 14 < c.lv) (hh : c.A.handled = none) (R : Rep n a W) (G : Good B W) (hB : B ≤ BM) (hr0 : 0 ≤ row) (hr1 : row ≤ 1) (hf0 : 0 ≤ form) (hf1 : form ≤ 13) (ho0 : 0 ≤ other) (ho1 : other ≤ 5)
    (hn0 : 0 ≤ one) (hn1 : one ≤ 3) (hEF : aget W.fields (varEF row) = some p) (hG : ∀ k W', getP W (5 + row) (some k) = .ok W' → Good BM W') (h64 : W.fields.length < 64)
    (h1 : ∀ n' v ans a' W', Rep n' a' W' → Step n a W n' a' W' → AnsAt n' v ans → deedP W row form one other = .ok (ans, W') → Q v n') (h2 : ∀ k n', Rep n' a W → Step n a W n' a W → deedP W row form one other = .error k → X k n') :
    Fn prog c n (.ref 254) [.ref a.wa, .int row, .int form, .int one, .int other] Q X := by
  wtm_at "enter"
  let m0 : Loc := [("world", .ref a.wa), ("row", .int row), ("form", .int form), ("one", .int one), ("other", .int other)]
  refine ex_seq (fun m' n' => ∃ tx, m' = (("_law_texts", .ref tx) :: m0 : Loc) ∧ Rep n' a W ∧ Step n a W n' a W ∧ n' tx = some (.list (pyTexts.map V.str))) ?_ ?_
  · wtm_at "go"
    · exact short _ (by decide)
    · exact ⟨by assumption, by wtm_at "chain", by assumption⟩
  rintro _ n1 ⟨tx, rfl, R1, S1, htx⟩
  refine ex_seq (fun m' n' => ∃ vx, m' = ([("channel", .int (chanAt row one)), ("names", .str (Txt.slice "PQRS" (some (2 * row)) (some (2 * row + 2)))), ("variables", .ref vx), ("_law_texts", .ref tx), ("world", .ref a.wa), ("row", .int row), ("form", .int form), ("one", .int one), ("other", .int other)] : Loc) ∧
    Rep n' a W ∧ Step n a W n' a W ∧ n' tx = some (.list (pyTexts.map V.str)) ∧ n' vx = some (.list ((varsOf row).map V.str))) ?_ ?_
  · wtm_at "go"
    all_goals first
      | exact mulok (by lia) (by lia) (by lia) (by lia)
      | decide
      | (rw [szl]; decide)
      | (refine ⟨a, W, by assumption, _, _, by assumption, by rw [szl]; decide, pick_vars hr0 hr1, fun y n4 R4 S4 K4 h4 => ?_⟩
         have htx4 : n4 tx = some (.list (pyTexts.map V.str)) := S4.keepO (by assumption) ((by assumption : Step n1 a W _ a W).keepO R1 htx (fun _ _ q => nomatch q) (fun _ _ q => nomatch q)) (fun _ _ q => nomatch q) (fun _ _ q => nomatch q)
         wtm_at "go")
      | fail
    · rw [szl]; show 3 ≤ _; decide
    · exact ⟨by assumption, by wtm_at "chain", (by assumption : Step n4 a W _ a W).keepO R4 htx4 (fun _ _ q => nomatch q) (fun _ _ q => nomatch q), (by assumption : Step n4 a W _ a W).keepO R4 h4 (fun _ _ q => nomatch q) (fun _ _ q => nomatch q)⟩
  rintro _ n2 ⟨vx, rfl, R2, S2, htx, hvx⟩
  have hk2 : Keeps [] n2 n2 := Keeps.refl _ _
  have fin : ∀ n' v ans a' W', Rep n' a' W' → Step n2 a W n' a' W' → AnsAt n' v ans → deedP W row form one other = .ok (ans, W') → Q v n' := fun n' v ans a' W' r s t u => h1 n' v ans a' W' r (S2.trans s) t u
  have bad : ∀ k n', Rep n' a W → Step n2 a W n' a W → deedP W row form one other = .error k → X k n' := fun k n' r s u => h2 k n' r (S2.trans s) u
  clear h1 h2
  have l2 := slen2 hr0 hr1
  have fo := fmod2 other
  have fn := fmod2 one
  have f3 := fmod3 other
  obtain ⟨d0, d1, d2⟩ := fdiv2 hn0 hn1
  wtm_at "go"
  all_goals first
    | lia
    | exact d2
    | decide
    | exact fit3 (by lia) (by lia)
    | exact mulok (by lia) (by lia) (by lia) (by lia)
    | (rw [szl]; lia)
    | exact short _ (by show 2 ≤ 16; decide)
    | (show _ < (4 : Int); lia)
    | exact fin _ _ (.one _) _ _ (by assumption) (by wtm_at "chain") ⟨rfl, fun _ q => by cases q⟩ (by simp [deedP, *, Except.map]; done)
    | exact bad _ _ (by assumption) (by wtm_at "chain") (by simp [deedP, *, Except.map]; done)
    | (refine fn_open_file (nm := nameAt row other) (by wtm_at "side") (by wtm_at "side") R2 G hB (goodNm hr0 hr1) (by lia) (by lia) (fun n' a' W' R' S' e => ?_) (fun k n' R' S' e => ?_)
       · exact fin _ _ (.one _) _ _ R' S' ⟨rfl, fun _ q => by cases q⟩ (by simp [deedP, *, Except.map]; done)
       · exact bad _ _ R' S' (by simp [deedP, *, Except.map]; done))
    | (refine fn_kill_file (nm := nameAt row 0) (by wtm_at "side") (by wtm_at "side") R2 G hB (fun n' W' R' S' e => ?_) (fun k n' R' S' e => ?_)
       · exact fin _ _ (.one _) _ _ R' S' ⟨rfl, fun _ q => by cases q⟩ (by simp [deedP, *, Except.map]; done)
       · exact bad _ _ R' S' (by simp [deedP, *, Except.map]; done))
    | (refine fn_rename_file (old := nameAt row one) (new := nameAt row other) (by wtm_at "side") (by wtm_at "side") R2 G hB (goodNm hr0 hr1) (fun n' W' R' S' e => ?_) (fun k n' R' S' e => ?_)
       · exact fin _ _ (.one _) _ _ R' S' ⟨rfl, fun _ q => by cases q⟩ (by simp [deedP, *, Except.map]; done)
       · exact bad _ _ R' S' (by simp [deedP, *, Except.map]; done))
    | (refine fn_close_file (by wtm_at "side") (by wtm_at "side") R2 G hB h64 (fun n' R' S' => ?_)
       exact fin _ _ (.one _) _ _ R' S' ⟨rfl, fun _ q => by cases q⟩ (by simp [deedP, *, Except.map]; done))
    | (refine fn_law_moved (by wtm_at "side") (by wtm_at "side") R2 G hB hr0 hr1 ho0 ho1 hn0 hn1 hEF hG (fun n' v ans W' R' S' hans e => ?_) (fun k n' R' S' e => ?_)
       · exact fin _ _ _ _ _ R' S' hans (by simp [deedP, *, Except.map]; done)
       · exact bad _ _ R' S' (by simp [deedP, *, Except.map]; done))
    | (refine fn_set_fields (ps := [(other, varAt row 0), (one.fdiv 2, varAt row 1)]) (by wtm_at "side") (by wtm_at "side") (by assumption) G hB (parts2 (by assumption) (by assumption) (by wtm_at "grown") (by assumption) (by wtm_at "grown")) (by show 2 ≤ 16; decide) (fun p hp => ?_) (fun n' a' W' R' S' e => ?_) (fun k n' R' S' e => ?_)
       · simp only [List.mem_cons, List.not_mem_nil, or_false] at hp
         rcases hp with rfl | rfl
         · exact ho0
         · exact d0
       · exact fin _ _ (.one _) _ _ R' (Step.trans (by wtm_at "chain") S') ⟨rfl, fun _ q => by cases q⟩ (by simp [deedP, *, Except.map]; done)
       · exact bad _ _ R' (Step.trans (by wtm_at "chain") S') (by simp [deedP, *, Except.map]; done))
    | skip
  · refine sub_vars ((by assumption : Step n2 a W _ a W).keepO R2 hvx (fun _ _ q => nomatch q) (fun _ _ q => nomatch q)) (Keeps.refl _ _) (by decide) (by decide) ?_
    wtm_at "go"
    · rw [szl]; show 2 ≤ _; decide
    · have hv := (by assumption : _ = optS _)
      exact fin _ _ (.two _ _) _ _ (by assumption) (by wtm_at "chain") ⟨_, rfl, by assumption, fun x => asked_noref (by assumption) x, fun x q => by rw [hv] at q; exact optS_noref _ _ q⟩ (by simp [deedP, *, Except.map]; done)
end

-- part P1
set_option maxHeartbeats 2000000
/-! ### the two rows' own things -/
noncomputable def R01 (r : Int) : Prop := r = 0 ∨ r = 1
noncomputable def isNm (r : Int) (k : Str) : Prop := k = nameAt r 0 ∨ k = nameAt r 1
noncomputable def isCh (r : Int) (c : Int) : Prop := c = 1 + 2 * r ∨ c = 2 + 2 * r
noncomputable def isVar (r : Int) (v : Str) : Prop := v = varAt r 0 ∨ v = varAt r 1
theorem nm00 : nameAt 0 0 = "P" := by rfl
theorem nm01 : nameAt 0 1 = "Q" := by rfl
theorem nm10 : nameAt 1 0 = "R" := by rfl
theorem nm11 : nameAt 1 1 = "S" := by rfl
theorem va00 : varAt 0 0 = "A$" := by rfl
theorem va01 : varAt 0 1 = "B$" := by rfl
theorem va10 : varAt 1 0 = "C$" := by rfl
theorem va11 : varAt 1 1 = "D$" := by rfl
theorem ef0 : varEF 0 = "E$" := by rfl
theorem ef1 : varEF 1 = "F$" := by rfl
theorem nm_row {r r' : Int} {k : Str} (h : R01 r) (h' : R01 r') (a : isNm r k) (b : isNm r' k) : r = r' := by
  rcases h with rfl | rfl <;> rcases h' with rfl | rfl <;> first | rfl | skip
  all_goals
    simp only [isNm, nm00, nm01, nm10, nm11] at a b
    rcases a with rfl | rfl <;> rcases b with b | b <;> exact absurd b (by decide)
theorem nm_all {r : Int} {k : Str} (h : R01 r) (a : isNm r k) : k ≠ "ALL" := by
  rcases h with rfl | rfl <;> (simp only [isNm, nm00, nm01, nm10, nm11] at a; rcases a with rfl | rfl <;> decide)
theorem ch_row {r r' c : Int} (h : R01 r) (h' : R01 r') (a : isCh r c) (b : isCh r' c) : r = r' := by
  unfold isCh at a b; unfold R01 at h h'; lia
theorem ch_five {r r' c : Int} (h : R01 r) (h' : R01 r') (a : isCh r c) : c ≠ 5 + r' := by
  unfold isCh at a; unfold R01 at h h'; lia
theorem va_row {r r' : Int} {k : Str} (h : R01 r) (h' : R01 r') (a : isVar r k) (b : isVar r' k) : r = r' := by
  rcases h with rfl | rfl <;> rcases h' with rfl | rfl <;> first | rfl | skip
  all_goals
    simp only [isVar, va00, va01, va10, va11] at a b
    rcases a with rfl | rfl <;> rcases b with b | b <;> exact absurd b (by decide)
theorem va_ef {r r' : Int} {k : Str} (h : R01 r) (h' : R01 r') (a : isVar r k) : k ≠ varEF r' := by
  rcases h with rfl | rfl <;> rcases h' with rfl | rfl <;> (simp only [isVar, va00, va01, va10, va11, ef0, ef1] at a ⊢; rcases a with rfl | rfl <;> decide)
noncomputable def half (r : Int) (t : Str) : Str := if r = 0 then Txt.slice t none (some 6) else Txt.slice t (some 6) none

structure Inv (W : WS) : Prop where
  no : (W.op.map (·.1)).Nodup
  ni : (W.fields.map (·.1)).Nodup
  all : ∃ t, aget W.files "ALL" = some t ∧ t.length = 12
  ch : ∀ r, R01 r → ∃ rc, aget W.op (5 + r) = some rc ∧ rc.mode = "R" ∧ rc.name = "ALL" ∧ rc.size = 3 ∧ rc.buf.length = 3
  ef : ∀ r, R01 r → aget W.fields (varEF r) = some ⟨5 + r, 0, 3⟩
  fk : ∀ k t, aget W.files k = some t → k = "ALL" ∨ ∃ r, R01 r ∧ isNm r k
  ok : ∀ k rc, aget W.op k = some rc → (∃ r, R01 r ∧ k = 5 + r) ∨ ∃ r, R01 r ∧ isCh r k ∧ isNm r rc.name
  ik : ∀ k p, aget W.fields k = some p → (∃ r, R01 r ∧ k = varEF r) ∨ ∃ r, R01 r ∧ isVar r k ∧ isCh r p.ch

/-- two worlds agree on what is a row's -/
structure Sim (r : Int) (W A : WS) : Prop where
  f : ∀ k, isNm r k → aget W.files k = aget A.files k
  o : ∀ c, isCh r c ∨ c = 5 + r → aget W.op c = aget A.op c
  i : ∀ v, isVar r v → aget W.fields v = aget A.fields v
  h : half r (txt W "ALL") = half r (txt A "ALL")
theorem Sim.refl (r : Int) (W : WS) : Sim r W W := ⟨fun _ _ => rfl, fun _ _ => rfl, fun _ _ => rfl, rfl⟩
theorem Sim.symm {r : Int} {W A : WS} (h : Sim r W A) : Sim r A W := ⟨fun k a => (h.f k a).symm, fun k a => (h.o k a).symm, fun k a => (h.i k a).symm, h.h.symm⟩
theorem Sim.trans {r : Int} {W A Z : WS} (h : Sim r W A) (h' : Sim r A Z) : Sim r W Z := ⟨fun k a => (h.f k a).trans (h'.f k a), fun k a => (h.o k a).trans (h'.o k a), fun k a => (h.i k a).trans (h'.i k a), h.h.trans h'.h⟩

/-- what a change of one row does -/
structure Own (r : Int) (W W' : WS) : Prop where
  inv : Inv W'
  sim : ∀ r', R01 r' → r' ≠ r → Sim r' W W'
theorem Own.refl {r : Int} {W : WS} (h : Inv W) : Own r W W := ⟨h, fun _ _ _ => Sim.refl _ _⟩
theorem Own.trans {r : Int} {W W' W'' : WS} (h : Own r W W') (h' : Own r W' W'') : Own r W W'' := ⟨h'.inv, fun r' a b => (h.sim r' a b).trans (h'.sim r' a b)⟩

section
variable {W A : WS} {r : Int}
theorem txt_setF_ne {nm k t : Str} (h : nm ≠ k) : txt (setF W nm t) k = txt W k := by
  unfold txt; show (aget (aput W.files nm t) k).getD "" = _; rw [aget_aput, if_neg h]
theorem txt_setF {nm t : Str} : txt (setF W nm t) nm = t := by
  unfold txt; show (aget (aput W.files nm t) nm).getD "" = _; rw [aget_aput, if_pos rfl]; rfl

theorem own_setF (I : Inv W) (hr : R01 r) {nm t : Str} (hn : isNm r nm) : Own r W (setF W nm t) where
  inv := { I with
    all := let ⟨u, h1, h2⟩ := I.all; ⟨u, by show aget (aput _ _ _) _ = _; rw [aget_aput, if_neg (nm_all hr hn)]; exact h1, h2⟩
    fk := fun k u h => by
      replace h : aget (aput W.files nm t) k = some u := h
      rw [aget_aput] at h
      split at h
      · rename_i e; subst e; exact .inr ⟨r, hr, hn⟩
      · exact I.fk k u h }
  sim := fun r' hr' hne => ⟨fun k a => by
      show _ = aget (aput _ _ _) _
      rw [aget_aput, if_neg (show ¬ nm = k from fun e => hne (nm_row hr' hr a (by rw [← e]; exact hn)))], fun _ _ => rfl, fun _ _ => rfl, by rw [txt_setF_ne (nm_all hr hn)]⟩
theorem sim_setF (S : Sim r W A) (hr : R01 r) {nm t : Str} (hn : isNm r nm) : Sim r (setF W nm t) (setF A nm t) :=
  ⟨fun k a => by show aget (aput _ _ _) _ = aget (aput _ _ _) _; rw [aget_aput, aget_aput, S.f k a], S.o, S.i, by rw [txt_setF_ne (nm_all hr hn), txt_setF_ne (nm_all hr hn)]; exact S.h⟩
theorem own_setAll (I : Inv W) (hr : R01 r) {t : Str} (ht : t.length = 12) (hh : ∀ r', R01 r' → r' ≠ r → half r' t = half r' (txt W "ALL")) : Own r W (setF W "ALL" t) where
  inv := { I with
    all := ⟨t, by show aget (aput _ _ _) _ = _; rw [aget_aput, if_pos rfl], ht⟩
    fk := fun k u h => by
      replace h : aget (aput W.files "ALL" t) k = some u := h
      rw [aget_aput] at h
      split at h
      · rename_i e; exact .inl e.symm
      · exact I.fk k u h }
  sim := fun r' hr' hne => ⟨fun k a => by
      show _ = aget (aput _ _ _) _
      rw [aget_aput, if_neg (show ¬ "ALL" = k from fun e => nm_all hr' a e.symm)], fun _ _ => rfl, fun _ _ => rfl, by rw [txt_setF]; exact (hh r' hr' hne).symm⟩
theorem sim_setAll (S : Sim r W A) (hr : R01 r) {t u : Str} (h : half r t = half r u) : Sim r (setF W "ALL" t) (setF A "ALL" u) :=
  ⟨fun k a => by show aget (aput _ _ _) _ = aget (aput _ _ _) _; rw [aget_aput, aget_aput, if_neg (show ¬ "ALL" = k from fun e => nm_all hr a e.symm), if_neg (show ¬ "ALL" = k from fun e => nm_all hr a e.symm), S.f k a], S.o, S.i, by rw [txt_setF, txt_setF]; exact h⟩
theorem own_setR (I : Inv W) (hr : R01 r) {c : Int} {rc : Rc} (hc : isCh r c) (hn : isNm r rc.name) : Own r W (setR W c rc) where
  inv := { I with
    no := nodup_aput I.no
    ch := fun r' hr' => let ⟨u, h1, h2⟩ := I.ch r' hr'; ⟨u, by show aget (aput _ _ _) _ = _; rw [aget_aput, if_neg (ch_five hr hr' hc)]; exact h1, h2⟩
    ok := fun k u h => by
      replace h : aget (aput W.op c rc) k = some u := h
      rw [aget_aput] at h
      split at h
      · rename_i e; subst e; cases h; exact .inr ⟨r, hr, hc, hn⟩
      · exact I.ok k u h }
  sim := fun r' hr' hne => ⟨fun _ _ => rfl, fun k a => by
      show _ = aget (aput _ _ _) _
      rw [aget_aput, if_neg (fun e => by
        subst e
        rcases a with a | a
        · exact hne (ch_row hr' hr a hc)
        · exact ch_five hr hr' hc a)], fun _ _ => rfl, rfl⟩
theorem sim_setR (S : Sim r W A) {c : Int} {rc : Rc} : Sim r (setR W c rc) (setR A c rc) :=
  ⟨S.f, fun k a => by show aget (aput _ _ _) _ = aget (aput _ _ _) _; rw [aget_aput, aget_aput, S.o k a], S.i, S.h⟩
theorem own_setR5 (I : Inv W) (hr : R01 r) {rc : Rc} (h1 : rc.mode = "R") (h2 : rc.name = "ALL") (h3 : rc.size = 3) (h4 : rc.buf.length = 3) : Own r W (setR W (5 + r) rc) where
  inv := { I with
    no := nodup_aput I.no
    ch := fun r' hr' => by
      by_cases e : r = r'
      · subst e
        exact ⟨rc, by show aget (aput _ _ _) _ = _; rw [aget_aput, if_pos rfl], h1, h2, h3, h4⟩
      · obtain ⟨u, g1, g2⟩ := I.ch r' hr'
        exact ⟨u, by show aget (aput _ _ _) _ = _; rw [aget_aput, if_neg (by lia)]; exact g1, g2⟩
    ok := fun k u h => by
      replace h : aget (aput W.op (5 + r) rc) k = some u := h
      rw [aget_aput] at h
      split at h
      · rename_i e; exact .inl ⟨r, hr, e.symm⟩
      · exact I.ok k u h }
  sim := fun r' hr' hne => ⟨fun _ _ => rfl, fun k a => by
      show _ = aget (aput _ _ _) _
      rw [aget_aput, if_neg (fun e => by
        subst e
        rcases a with a | a
        · exact ch_five hr' hr a rfl
        · lia)], fun _ _ => rfl, rfl⟩
theorem own_delF (I : Inv W) (hr : R01 r) {nm : Str} (hn : isNm r nm) : Own r W { W with files := adel W.files nm } where
  inv := { I with
    all := let ⟨u, h1, h2⟩ := I.all; ⟨u, by show aget (adel _ _) _ = _; rw [aget_adel, if_neg (nm_all hr hn)]; exact h1, h2⟩
    fk := fun k u h => by
      replace h : aget (adel W.files nm) k = some u := h
      rw [aget_adel] at h
      split at h
      · cases h
      · exact I.fk k u h }
  sim := fun r' hr' hne => ⟨fun k a => by
      show _ = aget (adel _ _) _
      rw [aget_adel, if_neg (show ¬ nm = k from fun e => hne (nm_row hr' hr a (by rw [← e]; exact hn)))], fun _ _ => rfl, fun _ _ => rfl, by
      unfold txt; show half r' ((aget W.files "ALL").getD "") = half r' ((aget (adel _ _) _).getD ""); rw [aget_adel, if_neg (nm_all hr hn)]⟩
theorem sim_delF (S : Sim r W A) (hr : R01 r) {nm : Str} (hn : isNm r nm) : Sim r { W with files := adel W.files nm } { A with files := adel A.files nm } :=
  ⟨fun k a => by show aget (adel _ _) _ = aget (adel _ _) _; rw [aget_adel, aget_adel, S.f k a], S.o, S.i, by
    have h := S.h
    unfold txt at h ⊢
    show half r ((aget (adel _ _) _).getD "") = half r ((aget (adel _ _) _).getD "")
    rw [aget_adel, aget_adel, if_neg (nm_all hr hn), if_neg (nm_all hr hn)]
    exact h⟩
theorem own_putI (I : Inv W) (hr : R01 r) {v : Str} {p : Pt3} (hv : isVar r v) (hp : isCh r p.ch) : Own r W { W with fields := aput W.fields v p } where
  inv := { I with
    ni := nodup_aput I.ni
    ef := fun r' hr' => by show aget (aput _ _ _) _ = _; rw [aget_aput, if_neg (va_ef hr hr' hv)]; exact I.ef r' hr'
    ik := fun k u h => by
      replace h : aget (aput W.fields v p) k = some u := h
      rw [aget_aput] at h
      split at h
      · rename_i e; subst e; cases h; exact .inr ⟨r, hr, hv, hp⟩
      · exact I.ik k u h }
  sim := fun r' hr' hne => ⟨fun _ _ => rfl, fun _ _ => rfl, fun k a => by
      show _ = aget (aput _ _ _) _
      rw [aget_aput, if_neg (show ¬ v = k from fun e => hne (va_row hr' hr a (by rw [← e]; exact hv)))], rfl⟩
theorem sim_putI (S : Sim r W A) {v : Str} {p : Pt3} : Sim r { W with fields := aput W.fields v p } { A with fields := aput A.fields v p } :=
  ⟨S.f, S.o, fun k a => by show aget (aput _ _ _) _ = aget (aput _ _ _) _; rw [aget_aput, aget_aput, S.i k a], S.h⟩
theorem aget_filter {K α : Type} [DecidableEq K] {q : K × α → Bool} {k : K} : ∀ {es : List (K × α)}, (es.map (·.1)).Nodup → aget (es.filter q) k = (aget es k).filter fun v => q (k, v)
  | [], _ => rfl
  | (k', v) :: es, h => by
    rw [List.map_cons, List.nodup_cons] at h
    have ih := aget_filter (q := q) (k := k) h.2
    rw [aget_cons]
    by_cases e : k' = k
    · subst e
      rw [if_pos rfl]
      cases hq : q (k', v) with
      | true =>
        rw [List.filter_cons, if_pos hq, aget_cons, if_pos rfl]
        show some v = if q (k', v) = true then some v else none
        rw [hq]; rfl
      | false =>
        rw [List.filter_cons, if_neg (by rw [hq]; decide)]
        have : aget (es.filter q) k' = none := aget_none.mpr fun kv hkv e => h.1 (List.mem_map.mpr ⟨kv, (List.mem_filter.mp hkv).1, e⟩)
        rw [this]
        show none = if q (k', v) = true then some v else none
        rw [hq]; rfl
    · rw [if_neg e, ← ih, List.filter_cons]
      split
      · rw [aget_cons, if_neg e]
      · rfl
theorem own_close (I : Inv W) (hr : R01 r) {c : Int} (hc : isCh r c) : Own r W (closeP W c) where
  inv := { I with
    no := nodup_adel I.no
    ni := I.ni.sublist (List.filter_sublist.map _)
    ch := fun r' hr' => let ⟨u, h1, h2⟩ := I.ch r' hr'; ⟨u, by show aget (adel _ _) _ = _; rw [aget_adel, if_neg (ch_five hr hr' hc)]; exact h1, h2⟩
    ef := fun r' hr' => by
      show aget (List.filter _ _) _ = _
      rw [aget_filter I.ni, I.ef r' hr']
      have := ch_five hr hr' hc
      simp [Option.filter, Ne.symm this]
    ok := fun k u h => by
      replace h : aget (adel W.op c) k = some u := h
      rw [aget_adel] at h
      split at h
      · cases h
      · exact I.ok k u h
    ik := fun k u h => by
      replace h : aget (List.filter _ W.fields) k = some u := h
      rw [aget_filter I.ni] at h
      exact I.ik k u (Option.eq_some_of_filter_eq_some h) }
  sim := fun r' hr' hne => ⟨fun _ _ => rfl, fun k a => by
      show _ = aget (adel _ _) _
      rw [aget_adel, if_neg (fun e => by
        subst e
        rcases a with a | a
        · exact hne (ch_row hr' hr a hc)
        · exact ch_five hr hr' hc a)], fun k a => by
      show _ = aget (List.filter _ _) _
      rw [aget_filter I.ni]
      cases e : aget W.fields k with
      | none => rfl
      | some p =>
        have hp : p.ch ≠ c := by
          rcases I.ik k p e with ⟨r2, h2, rfl⟩ | ⟨r2, h2, hv, hp⟩
          · exact absurd rfl (va_ef hr' h2 a)
          · intro q
            have e1 := va_row hr' h2 a hv
            subst e1
            exact hne (ch_row hr' hr hp (q ▸ hc))
        simp [Option.filter, hp], rfl⟩
theorem sim_close (S : Sim r W A) (I : Inv W) (J : Inv A) {c : Int} : Sim r (closeP W c) (closeP A c) :=
  ⟨S.f, fun k a => by show aget (adel _ _) _ = aget (adel _ _) _; rw [aget_adel, aget_adel, S.o k a], fun k a => by
    show aget (List.filter _ _) _ = aget (List.filter _ _) _
    rw [aget_filter I.ni, aget_filter J.ni, S.i k a], S.h⟩
end

-- part P2
set_option maxHeartbeats 2000000
section
variable {W A : WS} {r : Int} {B B' : Nat}
theorem Good.mono (G : Good B W) (h : B ≤ B') : Good B' W where
  fl := Nat.le_trans G.fl h
  ol := Nat.le_trans G.ol h
  il := Nat.le_trans G.il h
  tx := fun nm t e => Nat.le_trans (G.tx nm t e) h
  rc := fun c rc e => let ⟨h1, h2, h3, h4, h5⟩ := G.rc c rc e; ⟨h1, Nat.le_trans h2 h, h3, by lia, h5⟩
  fd := G.fd
theorem good_setF (G : Good B W) (h : B + 1 ≤ B') {nm t : Str} (ht : t.length ≤ B') : Good B' (setF W nm t) where
  fl := by have := G.fl; have : (aput W.files nm t).length ≤ W.files.length + 1 := length_aput; show (aput W.files nm t).length ≤ B'; lia
  ol := by have := G.ol; show W.op.length ≤ B'; lia
  il := by have := G.il; show W.fields.length ≤ B'; lia
  tx := fun k u e => by
    replace e : aget (aput W.files nm t) k = some u := e
    rw [aget_aput] at e
    split at e
    · cases e; exact ht
    · have := G.tx k u e; lia
  rc := fun c rc e => by
    obtain ⟨⟨u, h1⟩, h2, h3, h4, h5⟩ := G.rc c rc e
    refine ⟨?_, by lia, h3, by lia, h5⟩
    show ∃ t', aget (aput W.files nm t) rc.name = some t'
    rw [aget_aput]
    split
    · exact ⟨_, rfl⟩
    · exact ⟨u, h1⟩
  fd := G.fd
theorem good_setR (G : Good B W) (h : B + 1 ≤ B') {c : Int} {rc : Rc} (h1 : ∃ t, aget W.files rc.name = some t) (h2 : rc.buf.length ≤ B') (h3 : 0 ≤ rc.at_ ∧ rc.at_ ≤ B' ∧ 0 ≤ rc.size ∧ rc.size ≤ 7 ∧ 0 ≤ rc.no ∧ rc.no ≤ 40000) : Good B' (setR W c rc) where
  fl := by have := G.fl; show W.files.length ≤ B'; lia
  ol := by have := G.ol; have : (aput W.op c rc).length ≤ W.op.length + 1 := length_aput; show (aput W.op c rc).length ≤ B'; lia
  il := by have := G.il; show W.fields.length ≤ B'; lia
  tx := fun k u e => by have := G.tx k u e; lia
  rc := fun c' rc' e => by
    replace e : aget (aput W.op c rc) c' = some rc' := e
    rw [aget_aput] at e
    split at e
    · cases e; exact ⟨h1, h2, h3⟩
    · obtain ⟨g1, g2, g3, g4, g5⟩ := G.rc c' rc' e
      exact ⟨g1, by lia, g3, by lia, g5⟩
  fd := fun nm p e => by
    obtain ⟨⟨u, g1⟩, g2⟩ := G.fd nm p e
    refine ⟨?_, g2⟩
    show ∃ r', aget (aput W.op c rc) p.ch = some r'
    rw [aget_aput]
    split
    · exact ⟨_, rfl⟩
    · exact ⟨u, g1⟩
theorem good_delF (G : Good B W) (h : B ≤ B') {nm : Str} (hn : ∀ c rc, aget W.op c = some rc → rc.name ≠ nm) : Good B' { W with files := adel W.files nm } where
  fl := by have := G.fl; have : (adel W.files nm).length ≤ W.files.length := length_adel; show (adel W.files nm).length ≤ B'; lia
  ol := by have := G.ol; show W.op.length ≤ B'; lia
  il := by have := G.il; show W.fields.length ≤ B'; lia
  tx := fun k u e => by
    replace e : aget (adel W.files nm) k = some u := e
    rw [aget_adel] at e
    split at e
    · cases e
    · have := G.tx k u e; lia
  rc := fun c rc e => by
    obtain ⟨⟨u, h1⟩, h2, h3, h4, h5⟩ := G.rc c rc e
    refine ⟨⟨u, ?_⟩, by lia, h3, by lia, h5⟩
    show aget (adel W.files nm) rc.name = some u
    rw [aget_adel, if_neg (fun q => hn c rc e q.symm)]
    exact h1
  fd := G.fd
theorem good_putI (G : Good B W) (h : B + 1 ≤ B') {v : Str} {p : Pt3} (h1 : ∃ rc, aget W.op p.ch = some rc) (h2 : 0 ≤ p.at_ ∧ p.at_ ≤ 7 ∧ 0 ≤ p.many ∧ p.many ≤ 7) : Good B' { W with fields := aput W.fields v p } where
  fl := by have := G.fl; show W.files.length ≤ B'; lia
  ol := by have := G.ol; show W.op.length ≤ B'; lia
  il := by have := G.il; have : (aput W.fields v p).length ≤ W.fields.length + 1 := length_aput; show (aput W.fields v p).length ≤ B'; lia
  tx := fun k u e => by have := G.tx k u e; lia
  rc := fun c rc e => by
    obtain ⟨g1, g2, g3, g4, g5⟩ := G.rc c rc e
    exact ⟨g1, by lia, g3, by lia, g5⟩
  fd := fun k q e => by
    replace e : aget (aput W.fields v p) k = some q := e
    rw [aget_aput] at e
    split at e
    · cases e; exact ⟨h1, h2⟩
    · exact G.fd k q e
theorem good_close (G : Good B W) (h : B ≤ B') (I : Inv W) {c : Int} : Good B' (closeP W c) where
  fl := by have := G.fl; show W.files.length ≤ B'; lia
  ol := by have := G.ol; have : (adel W.op c).length ≤ W.op.length := length_adel; show (adel W.op c).length ≤ B'; lia
  il := by have := G.il; have : (W.fields.filter fun kv => decide (kv.2.ch ≠ c)).length ≤ W.fields.length := List.length_filter_le _ _; show (W.fields.filter fun kv => decide (kv.2.ch ≠ c)).length ≤ B'; lia
  tx := fun k u e => by have := G.tx k u e; lia
  rc := fun k rc e => by
    replace e : aget (adel W.op c) k = some rc := e
    rw [aget_adel] at e
    split at e
    · cases e
    · obtain ⟨g1, g2, g3, g4, g5⟩ := G.rc k rc e
      exact ⟨g1, by lia, g3, by lia, g5⟩
  fd := fun k p e => by
    replace e : aget (W.fields.filter fun kv => decide (kv.2.ch ≠ c)) k = some p := e
    rw [aget_filter I.ni] at e
    have e1 := Option.eq_some_of_filter_eq_some e
    have e2 : p.ch ≠ c := by
      rw [e1] at e
      intro q
      simp [Option.filter, q] at e
    obtain ⟨⟨u, g1⟩, g2⟩ := G.fd k p e1
    refine ⟨⟨u, ?_⟩, g2⟩
    show aget (adel W.op c) p.ch = some u
    rw [aget_adel, if_neg (fun q => e2 q.symm)]
    exact g1

theorem chOf_ok {ch : Int} {ms : List Str} {rc : Rc} (h : chOf W ch ms = .ok rc) : aget W.op ch = some rc ∧ rc.mode ∈ ms := by
  unfold chOf at h
  cases e : aget W.op ch with
  | none => rw [e] at h; cases h
  | some u =>
    rw [e] at h
    dsimp only at h
    split at h
    · cases h; exact ⟨rfl, by assumption⟩
    · cases h
theorem chOf_sim (S : Sim r W A) {ch : Int} (hc : isCh r ch ∨ ch = 5 + r) (ms : List Str) : chOf W ch ms = chOf A ch ms := by unfold chOf; rw [S.o ch hc]
theorem name_of (I : Inv W) (hr : R01 r) {ch : Int} {rc : Rc} (hc : isCh r ch) (h : aget W.op ch = some rc) : isNm r rc.name := by
  rcases I.ok ch rc h with ⟨r', hr', e⟩ | ⟨r', hr', a, b⟩
  · exact absurd e (ch_five hr hr' hc)
  · have := ch_row hr hr' hc a
    rw [this]; exact b
theorem txt_sim (S : Sim r W A) {nm : Str} (hn : isNm r nm) : txt W nm = txt A nm := by unfold txt; rw [S.f nm hn]
theorem has_ch (I : Inv W) {nm : Str} {q : Str → Prop} : (∃ kv ∈ W.op, kv.2.name = nm ∧ q kv.2.mode) ↔ ∃ c rc, aget W.op c = some rc ∧ rc.name = nm ∧ q rc.mode :=
  ⟨fun ⟨kv, h1, h2⟩ => ⟨kv.1, kv.2, aget_of_mem I.no h1, h2⟩, fun ⟨c, rc, h1, h2⟩ => ⟨(c, rc), aget_mem h1, h2⟩⟩
theorem open_of (I : Inv W) (hr : R01 r) {nm : Str} (hn : isNm r nm) {c : Int} {rc : Rc} (h : aget W.op c = some rc) (e : rc.name = nm) : isCh r c := by
  rcases I.ok c rc h with ⟨r', hr', rfl⟩ | ⟨r', hr', a, b⟩
  · obtain ⟨u, g1, _, g2, _⟩ := I.ch r' hr'
    rw [h] at g1; cases g1
    rw [g2] at e
    exact absurd e.symm (nm_all hr hn)
  · have := nm_row hr hr' hn (e ▸ b)
    rw [this]; exact a
theorem held_imp (S : Sim r W A) (I : Inv W) (J : Inv A) (hr : R01 r) {nm : Str} (hn : isNm r nm) {q : Str → Prop} (h : ∃ kv ∈ W.op, kv.2.name = nm ∧ q kv.2.mode) : ∃ kv ∈ A.op, kv.2.name = nm ∧ q kv.2.mode := by
  obtain ⟨c, rc, h1, h2, h3⟩ := (has_ch I).mp h
  exact (has_ch J).mpr ⟨c, rc, by rw [← S.o c (.inl (open_of I hr hn h1 h2))]; exact h1, h2, h3⟩
theorem elseP_sim (S : Sim r W A) (I : Inv W) (J : Inv A) (hr : R01 r) {nm mode : Str} (hn : isNm r nm) : elseP W mode nm = elseP A mode nm := by
  have key : ∀ X : WS, elseP X mode nm = true ↔ ∃ kv ∈ X.op, kv.2.name = nm ∧ (mode ∈ wm ∨ kv.2.mode ∈ wm) := fun X => by
    unfold elseP
    rw [List.any_eq_true]
    simp
  rw [Bool.eq_iff_iff, key, key]
  exact ⟨held_imp S I J hr hn (q := fun m => mode ∈ wm ∨ m ∈ wm), held_imp S.symm J I hr hn (q := fun m => mode ∈ wm ∨ m ∈ wm)⟩
theorem holders_iff {nm : Str} : holders W nm ≠ [] ↔ ∃ kv ∈ W.op, kv.2.name = nm ∧ True := by
  unfold holders
  rw [ne_eq, List.map_eq_nil_iff, List.filter_eq_nil_iff]
  simp
theorem holders_sim (S : Sim r W A) (I : Inv W) (J : Inv A) (hr : R01 r) {nm : Str} (hn : isNm r nm) : holders W nm ≠ [] ↔ holders A nm ≠ [] := by
  rw [holders_iff, holders_iff]
  exact ⟨held_imp S I J hr hn (q := fun _ => True), held_imp S.symm J I hr hn (q := fun _ => True)⟩
theorem holders_none {nm : Str} (h : ¬ holders W nm ≠ []) : ∀ c rc, aget W.op c = some rc → rc.name ≠ nm := fun c rc e q => h (holders_iff.mpr ⟨(c, rc), aget_mem e, q, trivial⟩)

/-- what is shown of each deed -/
structure DeedOk (r : Int) (B : Nat) (P : WS → Except Str (Ans × WS)) : Prop where
  own : ∀ W, Inv W → Good B W → ∀ a W', P W = .ok (a, W') → Own r W W' ∧ Good (2 * B + 50) W'
  sim : ∀ W A, Inv W → Inv A → Good B W → Good B A → Sim r W A →
    (∃ k, P W = .error k ∧ P A = .error k) ∨ ∃ a W' A', P W = .ok (a, W') ∧ P A = .ok (a, A') ∧ Sim r W' A'
end

-- part P3
set_option maxHeartbeats 2000000
section
variable {r : Int} {B : Nat}
theorem nul1 : nul.length = 1 := rfl
theorem deed_ch (hr : R01 r) {ch : Int} (hc : isCh r ch) {ms : List Str} {P : WS → Except Str (Ans × WS)} (F : Rc → WS → Except Str (Ans × WS)) (h1 : ∀ W k, chOf W ch ms = .error k → P W = .error k) (h2 : ∀ W rc, chOf W ch ms = .ok rc → P W = F rc W)
    (own : ∀ W rc, Inv W → Good B W → aget W.op ch = some rc → isNm r rc.name → ∀ a W', F rc W = .ok (a, W') → Own r W W' ∧ Good (2 * B + 50) W')
    (sim : ∀ W A rc, Inv W → Inv A → Sim r W A → aget W.op ch = some rc → aget A.op ch = some rc → isNm r rc.name →
      (∃ k, F rc W = .error k ∧ F rc A = .error k) ∨ ∃ a W' A', F rc W = .ok (a, W') ∧ F rc A = .ok (a, A') ∧ Sim r W' A') : DeedOk r B P where
  own := fun W I G a W' h => by
    cases e : chOf W ch ms with
    | error k => rw [h1 W k e] at h; cases h
    | ok rc =>
      rw [h2 W rc e] at h
      exact own W rc I G (chOf_ok e).1 (name_of I hr hc (chOf_ok e).1) a W' h
  sim := fun W A I J G H S => by
    have e' := chOf_sim S (.inl hc) ms
    cases e : chOf W ch ms with
    | error k => exact .inl ⟨k, h1 W k e, h1 A k (e' ▸ e)⟩
    | ok rc =>
      rw [h2 W rc e, h2 A rc (e' ▸ e)]
      exact sim W A rc I J S (chOf_ok e).1 (chOf_ok (e' ▸ e)).1 (name_of I hr hc (chOf_ok e).1)

theorem deed_open (hr : R01 r) {ch size : Int} {nm mode : Str} (hc : isCh r ch) (hn : isNm r nm) (hs0 : 0 ≤ size) (hs1 : size ≤ 7) : DeedOk r B fun W => (openP W mode ch nm size).map fun W' => (.one .none, W') where
  own := fun W I G a W' h => by
    cases e : openP W mode ch nm size with
    | error k => rw [e] at h; cases h
    | ok W2 =>
      rw [e] at h
      cases h
      unfold openP at e
      split at e
      · cases e
      split at e
      · cases e
      split at e
      · cases e
      split at e
      · cases e
      rename_i hff
      obtain ⟨W1, hW1⟩ : ∃ W1, W1 = if mode = "O" ∨ aget W.files nm = none then setF W nm "" else W := ⟨_, rfl⟩
      rw [← hW1] at e
      cases e
      have own1 : Own r W W1 ∧ Good (B + 1) W1 ∧ ∃ t, aget W1.files nm = some t ∧ t.length ≤ B := by
        rw [hW1]
        split
        · refine ⟨own_setF I hr hn, good_setF G (Nat.le_refl _) (Nat.zero_le _), "", ?_, Nat.zero_le _⟩
          show aget (aput W.files nm "") nm = _
          rw [aget_aput, if_pos rfl]
        · refine ⟨Own.refl I, G.mono (Nat.le_succ _), ?_⟩
          rename_i q
          cases e : aget W.files nm with
          | none => exact absurd (.inr e) q
          | some t => exact ⟨t, rfl, G.tx _ _ e⟩
      obtain ⟨o1, g1, t, ht, htl⟩ := own1
      have htx : txt W1 nm = t := by unfold txt; rw [ht]; rfl
      refine ⟨o1.trans (own_setR o1.inv hr hc hn), good_setR g1 (by lia) ⟨t, ht⟩ ?_ ?_⟩
      · show Str.length (if mode = "R" then Txt.mul nul size else "") ≤ _
        split
        · rw [len_mul' nul1]; lia
        · exact Nat.zero_le _
      · dsimp only
        rw [htx]
        refine ⟨?_, ?_, hs0, hs1, by decide, by decide⟩
        · split <;> lia
        · split <;> lia
  sim := fun W A I J G H S => by
    have e1 := S.o ch (.inl hc)
    have e2 := elseP_sim (mode := mode) S I J hr hn
    have e3 := S.f nm hn
    unfold openP
    rw [e1, e2, e3]
    split
    · exact .inl ⟨_, rfl, rfl⟩
    split
    · exact .inl ⟨_, rfl, rfl⟩
    split
    · exact .inl ⟨_, rfl, rfl⟩
    split
    · exact .inl ⟨_, rfl, rfl⟩
    refine .inr ⟨_, _, _, rfl, rfl, ?_⟩
    split
    · have S' := sim_setF (t := "") S hr hn
      rw [txt_sim S' hn]
      exact sim_setR S'
    · rw [txt_sim S hn]
      exact sim_setR S
theorem deed_write (hr : R01 r) {ch : Int} {t : Str} (hc : isCh r ch) (ht : t.length ≤ 10) : DeedOk r B fun W => (writeP W ch t).map fun W' => (.one .none, W') := by
  refine deed_ch hr hc (ms := ["O", "A"]) (fun rc W => .ok (.one .none, setR (setF W rc.name (txt W rc.name ++ t)) ch { rc with at_ := rc.at_ + t.length })) (fun W k e => ?_) (fun W rc e => ?_) (fun W rc I G h hn a W' e => ?_) fun W A rc I J S h h' hn => ?_
  · simp [writeP, e, bind, Except.bind, Except.map]
  · simp [writeP, e, bind, Except.bind, Except.map, pure, Except.pure]
  · cases e
    obtain ⟨u, F⟩ := G.found h
    have o1 := own_setF (t := txt W rc.name ++ t) I hr hn
    have hl : (txt W rc.name ++ t).length ≤ B + 10 := by rw [len_append, F.txt]; have := F.tl; lia
    have b1 := F.bl; have b2 := F.a0; have b3 := F.a1; have b4 := F.s0; have b5 := F.s1; have b6 := F.n0; have b7 := F.n1
    refine ⟨o1.trans (own_setR o1.inv hr hc hn), good_setR (good_setF G (B' := B + 11) (by lia) (by lia)) (by lia) ⟨txt W rc.name ++ t, ?_⟩ (by dsimp only; lia) ?_⟩
    · show aget (aput W.files rc.name _) rc.name = _
      rw [aget_aput, if_pos rfl]
    · dsimp only
      exact ⟨by lia, by lia, b4, b5, b6, b7⟩
  · exact .inr ⟨_, _, _, rfl, rfl, by rw [txt_sim S hn]; exact sim_setR (sim_setF S hr hn)⟩
theorem good_at {W : WS} {ch : Int} {rc : Rc} {u : Str} (G : Good B W) (F : Fd B W ch rc u) {x : Int} (hx : 0 ≤ x) : Good (2 * B + 50) (setR W ch { rc with at_ := min (rc.at_ + x) (txt W rc.name).length }) := by
  have b0 := F.tl; have b1 := F.bl; have b2 := F.a0; have b3 := F.a1; have b4 := F.s0; have b5 := F.s1; have b6 := F.n0; have b7 := F.n1
  refine good_setR G (by lia) ⟨_, F.file⟩ (by dsimp only; lia) ?_
  dsimp only
  rw [F.txt]
  refine ⟨by lia, by lia, b4, b5, b6, b7⟩
theorem deed_readRow (hr : R01 r) {ch : Int} (hc : isCh r ch) : DeedOk r B fun W => (readRowP W ch).map fun p => (.one (.str p.1), p.2) := by
  refine deed_ch hr hc (ms := ["I"]) (fun rc W => if Txt.slice (txt W rc.name) (some rc.at_) none = "" then .error "EF" else .ok (.one (.str (rowOf (Txt.slice (txt W rc.name) (some rc.at_) none))),
    setR W ch { rc with at_ := min (rc.at_ + ((rowOf (Txt.slice (txt W rc.name) (some rc.at_) none)).length + 1)) (txt W rc.name).length })) (fun W k e => ?_) (fun W rc e => ?_) (fun W rc I G h hn a W' e => ?_) fun W A rc I J S h h' hn => ?_
  · simp [readRowP, restP, e, bind, Except.bind, Except.map]
  · simp only [readRowP, restP, pastP, e, bind, Except.bind, pure, Except.pure]
    split <;> rfl
  · split at e
    · cases e
    · cases e
      obtain ⟨u, F⟩ := G.found h
      exact ⟨own_setR I hr hc hn, good_at G F (by lia)⟩
  · rw [txt_sim S hn]
    split
    · exact .inl ⟨_, rfl, rfl⟩
    · exact .inr ⟨_, _, _, rfl, rfl, sim_setR S⟩
theorem deed_readSigns (hr : R01 r) {ch many : Int} (hc : isCh r ch) (hm : 0 ≤ many) : DeedOk r B fun W => (readSignsP W ch many).map fun p => (.one (.str p.1), p.2) := by
  refine deed_ch hr hc (ms := ["I"]) (fun rc W => if many > (Txt.slice (txt W rc.name) (some rc.at_) none).length then .error "EF" else .ok (.one (.str (Txt.slice (Txt.slice (txt W rc.name) (some rc.at_) none) none (some many))),
    setR W ch { rc with at_ := min (rc.at_ + many) (txt W rc.name).length })) (fun W k e => ?_) (fun W rc e => ?_) (fun W rc I G h hn a W' e => ?_) fun W A rc I J S h h' hn => ?_
  · simp [readSignsP, restP, e, bind, Except.bind, Except.map]
  · simp only [readSignsP, restP, pastP, e, bind, Except.bind, pure, Except.pure]
    split <;> rfl
  · split at e
    · cases e
    · cases e
      obtain ⟨u, F⟩ := G.found h
      exact ⟨own_setR I hr hc hn, good_at G F hm⟩
  · rw [txt_sim S hn]
    split
    · exact .inl ⟨_, rfl, rfl⟩
    · exact .inr ⟨_, _, _, rfl, rfl, sim_setR S⟩
theorem deed_fields (hr : R01 r) {ch k1 k2 : Int} {v1 v2 : Str} (hc : isCh r ch) (h1 : isVar r v1) (h2 : isVar r v2) (a0 : 0 ≤ k1) (a1 : k1 ≤ 7) (b0 : 0 ≤ k2) (b1 : k2 ≤ 7) : DeedOk r B fun W => (setFieldsP W ch [(k1, v1), (k2, v2)]).map fun W' => (.one .none, W') := by
  refine deed_ch hr hc (ms := ["R"]) (fun rc W => if rc.size < ([(k1, v1), (k2, v2)].map (·.1)).sum then .error "FO" else .ok (.one .none, { W with fields := aput (aput W.fields v1 ⟨ch, 0, k1⟩) v2 ⟨ch, 0 + k1, k2⟩ }))
    (fun W k e => ?_) (fun W rc e => ?_) (fun W rc I G h hn a W' e => ?_) fun W A rc I J S h h' hn => ?_
  · simp [setFieldsP, e, bind, Except.bind, Except.map]
  · simp only [setFieldsP, e, bind, Except.bind]
    split <;> rfl
  · split at e
    · cases e
    · cases e
      have o1 := own_putI (p := ⟨ch, 0, k1⟩) I hr h1 hc
      have g1 := good_putI (B' := B + 1) (v := v1) (p := ⟨ch, 0, k1⟩) G (Nat.le_refl _) ⟨rc, h⟩ ⟨by dsimp only; lia, by dsimp only; lia, a0, a1⟩
      exact ⟨o1.trans (own_putI (p := ⟨ch, 0 + k1, k2⟩) o1.inv hr h2 hc), good_putI (v := v2) (p := ⟨ch, 0 + k1, k2⟩) g1 (by lia) ⟨rc, h⟩ ⟨by dsimp only; lia, by dsimp only; lia, b0, b1⟩⟩
  · split
    · exact .inl ⟨_, rfl, rfl⟩
    · exact .inr ⟨_, _, _, rfl, rfl, sim_putI (sim_putI S)⟩
theorem fieldP_sim {W A : WS} (S : Sim r W A) (I : Inv W) (hr : R01 r) {v : Str} (hv : isVar r v) : fieldP W v = fieldP A v := by
  unfold fieldP
  rw [← S.i v hv]
  cases e : aget W.fields v with
  | none => rfl
  | some p =>
    rcases I.ik v p e with ⟨r', hr', q⟩ | ⟨r', hr', hv', hp⟩
    · exact absurd q (va_ef hr hr' hv)
    · have := va_row hr hr' hv hv'
      subst this
      show (aget W.op p.ch).map _ = (aget A.op p.ch).map _
      rw [S.o p.ch (.inl hp)]
theorem deed_asked (hr : R01 r) {ch which : Int} {v : Str} (hc : isCh r ch) (hv : isVar r v) : DeedOk r B fun W => (askedP W ch which).map fun u => (.two u (optS (fieldP W v)), W) := by
  have key : ∀ W A : WS, Inv W → Sim r W A → askedP W ch which = askedP A ch which := fun W A I S => by
    have q : ∀ ms, chOf W ch ms = chOf A ch ms := chOf_sim S (.inl hc)
    have t : ∀ ms rc, chOf A ch ms = .ok rc → txt W rc.name = txt A rc.name := fun ms rc e => txt_sim S (name_of I hr hc (chOf_ok ((q ms).trans e)).1)
    unfold askedP endedP placeP lengthP
    rw [q, q]
    cases e1 : chOf A ch ["I", "R"] with
    | error k1 =>
      cases e2 : chOf A ch ["I", "O", "A", "R"] with
      | error k2 => rfl
      | ok rc2 => simp only [bind, Except.bind, t _ _ e2]
    | ok rc1 =>
      cases e2 : chOf A ch ["I", "O", "A", "R"] with
      | error k2 => simp only [bind, Except.bind, t _ _ e1]
      | ok rc2 => simp only [bind, Except.bind, t _ _ e1, t _ _ e2]
  refine ⟨fun W I G a W' h => ?_, fun W A I J G H S => ?_⟩
  · cases e : askedP W ch which with
    | error k => rw [e] at h; cases h
    | ok u => rw [e] at h; cases h; exact ⟨Own.refl I, G.mono (by lia)⟩
  · rw [key W A I S]
    cases e : askedP A ch which with
    | error k => exact .inl ⟨k, rfl, rfl⟩
    | ok u => exact .inr ⟨_, _, _, rfl, by rw [fieldP_sim S I hr hv]; rfl, S⟩
theorem deed_close (hr : R01 r) {ch : Int} (hc : isCh r ch) : DeedOk r B fun W => .ok (.one .none, closeP W ch) where
  own := fun W I G a W' h => by cases h; exact ⟨own_close I hr hc, good_close G (by lia) I⟩
  sim := fun W A I J G H S => .inr ⟨_, _, _, rfl, rfl, sim_close S I J⟩
theorem deed_kill (hr : R01 r) {nm : Str} (hn : isNm r nm) : DeedOk r B fun W => (killP W nm).map fun W' => (.one .none, W') where
  own := fun W I G a W' h => by
    unfold killP at h
    split at h
    · cases h
    split at h
    · cases h
    cases h
    exact ⟨own_delF I hr hn, good_delF G (by lia) (holders_none (by assumption))⟩
  sim := fun W A I J G H S => by
    have e2 := holders_sim S I J hr hn
    unfold killP
    rw [S.f nm hn]
    by_cases q : aget A.files nm = none
    · rw [if_pos q, if_pos q]; exact .inl ⟨_, rfl, rfl⟩
    · rw [if_neg q, if_neg q]
      by_cases q2 : holders A nm ≠ []
      · rw [if_pos q2, if_pos (e2.mpr q2)]; exact .inl ⟨_, rfl, rfl⟩
      · rw [if_neg q2, if_neg (fun z => q2 (e2.mp z))]; exact .inr ⟨_, _, _, rfl, rfl, sim_delF S hr hn⟩
theorem deed_rename (hr : R01 r) {old new : Str} (ho : isNm r old) (hn : isNm r new) : DeedOk r B fun W => (renameP W old new).map fun W' => (.one .none, W') where
  own := fun W I G a W' h => by
    unfold renameP at h
    split at h
    · cases h
    split at h
    · cases h
    split at h
    · cases h
    cases h
    have o1 := own_delF I hr ho
    have g1 := good_delF (B' := B) G (Nat.le_refl _) (holders_none (by assumption))
    refine ⟨o1.trans (own_setF o1.inv hr hn), good_setF g1 (by lia) ?_⟩
    unfold txt
    cases e : aget W.files old with
    | none => exact Nat.zero_le _
    | some t => have := G.tx _ _ e; show t.length ≤ _; lia
  sim := fun W A I J G H S => by
    have e2 := holders_sim S I J hr ho
    unfold renameP
    rw [S.f old ho, S.f new hn, txt_sim S ho]
    by_cases q : aget A.files old = none
    · rw [if_pos q, if_pos q]; exact .inl ⟨_, rfl, rfl⟩
    · rw [if_neg q, if_neg q]
      by_cases q2 : holders A old ≠ []
      · rw [if_pos q2, if_pos (e2.mpr q2)]; exact .inl ⟨_, rfl, rfl⟩
      · rw [if_neg q2, if_neg (fun z => q2 (e2.mp z))]
        split
        · exact .inl ⟨_, rfl, rfl⟩
        · exact .inr ⟨_, _, _, rfl, rfl, sim_setF (sim_delF S hr ho) hr hn⟩
end

-- part P4
set_option maxHeartbeats 2000000
theorem slice_run {l : List Nat} (i j : Nat) (h : i ≤ j) (h2 : j ≤ l.length) : Txt.slice ⟨l.toArray⟩ (some (i : Int)) (some (j : Int)) = ⟨((l.drop i).take (j - i)).toArray⟩ := by
  have h3 : (0 : Int) ≤ i ∧ (i : Int) ≤ j ∧ (j : Int) ≤ (⟨l.toArray⟩ : Str).cps.toList.length := ⟨by lia, by lia, by show (j : Int) ≤ (l.length : Int); lia⟩
  rw [eq_of_beq (slice_closes h3)]
  show (⟨((l.drop ((i : Int)).toNat).take ((j : Int) - i).toNat).toArray⟩ : Str) = _
  rw [Int.toNat_natCast, show ((j : Int) - i).toNat = j - i by lia]
theorem slice_to {l : List Nat} (j : Nat) (h2 : j ≤ l.length) : Txt.slice ⟨l.toArray⟩ none (some (j : Int)) = ⟨(l.take j).toArray⟩ := by
  have h3 : (0 : Int) ≤ j ∧ (j : Int) ≤ (⟨l.toArray⟩ : Str).cps.toList.length := ⟨by lia, by show (j : Int) ≤ (l.length : Int); lia⟩
  rw [eq_of_beq (slice_closes_to h3)]
  show (⟨((l.drop (0 : Int).toNat).take ((j : Int) - 0).toNat).toArray⟩ : Str) = _
  rw [show ((j : Int) - 0).toNat = j by lia]; rfl
theorem slice_from {l : List Nat} (i : Nat) (h2 : i ≤ l.length) : Txt.slice ⟨l.toArray⟩ (some (i : Int)) none = ⟨(l.drop i).toArray⟩ := by
  rw [slice_from_eq (b := l.length) (by lia) (by show (i : Int) ≤ (l.length : Int); lia) rfl]
  show (⟨((l.drop ((i : Int)).toNat).take ((l.length : Int) - i).toNat).toArray⟩ : Str) = _
  rw [Int.toNat_natCast, List.take_of_length_le (by rw [List.length_drop]; lia)]
theorem lcons {l : List Nat} {k : Nat} (h : l.length = k + 1) : ∃ c r, l = c :: r ∧ r.length = k := by
  cases l with
  | nil => cases h
  | cons c r => exact ⟨c, r, rfl, Nat.succ.inj h⟩
theorem list6 {l : List Nat} {k : Nat} (h : l.length = k + 6) : ∃ c0 c1 c2 c3 c4 c5 r, l = c0 :: c1 :: c2 :: c3 :: c4 :: c5 :: r ∧ r.length = k := by
  obtain ⟨c0, l0, rfl, h0⟩ := lcons h
  obtain ⟨c1, l1, rfl, h1⟩ := lcons h0
  obtain ⟨c2, l2, rfl, h2⟩ := lcons h1
  obtain ⟨c3, l3, rfl, h3⟩ := lcons h2
  obtain ⟨c4, l4, rfl, h4⟩ := lcons h3
  obtain ⟨c5, l5, rfl, h5⟩ := lcons h4
  exact ⟨c0, c1, c2, c3, c4, c5, l5, rfl, h5⟩
theorem list12 {l : List Nat} (h : l.length = 12) : ∃ c0 c1 c2 c3 c4 c5 c6 c7 c8 c9 c10 c11, l = [c0, c1, c2, c3, c4, c5, c6, c7, c8, c9, c10, c11] := by
  obtain ⟨c0, c1, c2, c3, c4, c5, l1, rfl, h1⟩ := list6 (k := 6) h
  obtain ⟨c6, c7, c8, c9, c10, c11, l2, rfl, h2⟩ := list6 (k := 0) h1
  obtain rfl := List.eq_nil_of_length_eq_zero h2
  exact ⟨c0, c1, c2, c3, c4, c5, c6, c7, c8, c9, c10, c11, rfl⟩
theorem list3 {l : List Nat} (h : l.length = 3) : ∃ c0 c1 c2, l = [c0, c1, c2] := by
  match l, h with
  | [c0, c1, c2], _ => exact ⟨c0, c1, c2, rfl⟩
noncomputable def putT (t buf : Str) (b : Int) : Str := Txt.slice (t ++ Txt.mul nul (b - t.length)) none (some b) ++ buf ++ Txt.slice (t ++ Txt.mul nul (b - t.length)) (some (b + 3)) none
noncomputable def getT (t : Str) (b : Int) : Str := Txt.slice (Txt.slice t (some b) (some (b + 3)) ++ Txt.mul nul 3) none (some 3)
theorem app_eq (a b : List Nat) : (⟨a.toArray⟩ : Str) ++ (⟨b.toArray⟩ : Str) = ⟨(a ++ b).toArray⟩ := by
  show Str.mk (a.toArray ++ b.toArray) = _
  rw [List.append_toArray]
theorem str_list : ∀ s : Str, ∃ l : List Nat, s = ⟨l.toArray⟩ := fun ⟨⟨l⟩⟩ => ⟨l, rfl⟩
theorem mul_neg {k : Int} (h : k ≤ 0) : Txt.mul nul k = ⟨([] : List Nat).toArray⟩ := by
  have e := len_mul' (k := k) nul1
  obtain ⟨l, he⟩ := str_list (Txt.mul nul k)
  rw [he] at e ⊢
  replace e : l.length = k.toNat := e
  have : l = [] := List.eq_nil_of_length_eq_zero (by lia)
  rw [this]
theorem putT_eq {l m : List Nat} (b : Nat) (hl : l.length = 12) (hb : b ≤ 9) : putT ⟨l.toArray⟩ ⟨m.toArray⟩ b = ⟨(l.take b ++ m ++ l.drop (b + 3)).toArray⟩ := by
  unfold putT
  have e : Txt.mul nul ((b : Int) - ((⟨l.toArray⟩ : Str).length : Int)) = ⟨([] : List Nat).toArray⟩ := mul_neg (by show (b : Int) - (l.length : Int) ≤ 0; lia)
  have e2 : (⟨l.toArray⟩ : Str) ++ Txt.mul nul ((b : Int) - ((⟨l.toArray⟩ : Str).length : Int)) = ⟨l.toArray⟩ := by rw [e, app_eq, List.append_nil]
  rw [e2, slice_to b (by lia), show ((b : Int) + 3) = ((b + 3 : Nat) : Int) by lia, slice_from (b + 3) (by lia), app_eq, app_eq]
theorem getT_eq {l : List Nat} (b : Nat) (hl : l.length = 12) (hb : b ≤ 9) : getT ⟨l.toArray⟩ b = ⟨((l.drop b).take 3).toArray⟩ := by
  unfold getT
  have h3 : ((l.drop b).take 3).length = 3 := by rw [List.length_take, List.length_drop]; lia
  obtain ⟨z, hz⟩ := str_list (Txt.mul nul 3)
  rw [hz, show ((b : Int) + 3) = ((b + 3 : Nat) : Int) by lia, slice_run b (b + 3) (by lia) (by lia), show b + 3 - b = 3 by lia]
  show Txt.slice ((⟨((l.drop b).take 3).toArray⟩ : Str) ++ (⟨z.toArray⟩ : Str)) none (some ((3 : Nat) : Int)) = _
  rw [app_eq, slice_to 3 (by rw [List.length_append]; lia), List.take_append_of_le_length (by lia), List.take_of_length_le (by lia)]
theorem half0_eq {l : List Nat} (hl : l.length = 12) : half 0 ⟨l.toArray⟩ = ⟨(l.take 6).toArray⟩ := by
  unfold half; rw [if_pos rfl]; exact slice_to 6 (by lia)
theorem half1_eq {l : List Nat} (hl : l.length = 12) : half 1 ⟨l.toArray⟩ = ⟨(l.drop 6).toArray⟩ := by
  unfold half; rw [if_neg (by decide)]; exact slice_from 6 (by lia)
theorem str_inj {a b : List Nat} (h : (⟨a.toArray⟩ : Str) = ⟨b.toArray⟩) : a = b := by simpa using h
theorem put_all {t u buf : Str} {r k : Int} (ht : t.length = 12) (hu : u.length = 12) (hb : buf.length = 3) (hr : R01 r) (hk : k = 1 + 2 * r ∨ k = 2 + 2 * r) :
    (putT t buf ((k - 1) * 3)).length = 12 ∧ (∀ r', R01 r' → r' ≠ r → half r' (putT t buf ((k - 1) * 3)) = half r' t) ∧ (half r t = half r u → half r (putT t buf ((k - 1) * 3)) = half r (putT u buf ((k - 1) * 3))) := by
  obtain ⟨⟨l⟩⟩ := t
  obtain ⟨⟨q⟩⟩ := u
  obtain ⟨⟨m⟩⟩ := buf
  replace ht : l.length = 12 := ht
  replace hu : q.length = 12 := hu
  replace hb : m.length = 3 := hb
  obtain ⟨b, hb1, hb2, hb3⟩ : ∃ b : Nat, (k - 1) * 3 = b ∧ b ≤ 9 ∧ ((r = 0 ∧ (b = 0 ∨ b = 3)) ∨ (r = 1 ∧ (b = 6 ∨ b = 9))) := by
    rcases hr with rfl | rfl <;> rcases hk with rfl | rfl
    · exact ⟨0, by decide, by decide, .inl ⟨rfl, .inl rfl⟩⟩
    · exact ⟨3, by decide, by decide, .inl ⟨rfl, .inr rfl⟩⟩
    · exact ⟨6, by decide, by decide, .inr ⟨rfl, .inl rfl⟩⟩
    · exact ⟨9, by decide, by decide, .inr ⟨rfl, .inr rfl⟩⟩
  rw [hb1, putT_eq b ht hb2, putT_eq b hu hb2]
  have lenP : ∀ {x : List Nat}, x.length = 12 → (x.take b ++ m ++ x.drop (b + 3)).length = 12 := fun hx => by
    rw [List.length_append, List.length_append, List.length_take, List.length_drop]; lia
  refine ⟨lenP ht, fun r' hr' hne => ?_, fun h => ?_⟩
  · obtain ⟨c0, c1, c2, c3, c4, c5, c6, c7, c8, c9, c10, c11, rfl⟩ := list12 ht
    obtain ⟨x, y, z, rfl⟩ := list3 hb
    rcases hb3 with ⟨rfl, h⟩ | ⟨rfl, h⟩
    · obtain rfl : r' = 1 := by unfold R01 at hr'; lia
      rw [half1_eq (lenP ht), half1_eq ht]
      rcases h with rfl | rfl <;> rfl
    · obtain rfl : r' = 0 := by unfold R01 at hr'; lia
      rw [half0_eq (lenP ht), half0_eq ht]
      rcases h with rfl | rfl <;> rfl
  · have p1 := lenP ht
    have p2 := lenP hu
    obtain ⟨c0, c1, c2, c3, c4, c5, c6, c7, c8, c9, c10, c11, rfl⟩ := list12 ht
    obtain ⟨d0, d1, d2, d3, d4, d5, d6, d7, d8, d9, d10, d11, rfl⟩ := list12 hu
    obtain ⟨x, y, z, rfl⟩ := list3 hb
    rcases hb3 with ⟨rfl, hb⟩ | ⟨rfl, hb⟩
    · rw [half0_eq ht, half0_eq hu] at h
      rw [half0_eq p1, half0_eq p2]
      have h := str_inj h
      simp only [List.take_succ_cons, List.take_zero, List.cons.injEq, and_true] at h
      obtain ⟨rfl, rfl, rfl, rfl, rfl, rfl⟩ := h
      rcases hb with rfl | rfl <;> rfl
    · rw [half1_eq ht, half1_eq hu] at h
      rw [half1_eq p1, half1_eq p2]
      have h := str_inj h
      simp only [List.drop_succ_cons, List.drop_zero, List.cons.injEq, and_true] at h
      obtain ⟨rfl, rfl, rfl, rfl, rfl, rfl⟩ := h
      rcases hb with rfl | rfl <;> rfl
theorem get_all {t u : Str} {r k : Int} (ht : t.length = 12) (hu : u.length = 12) (hr : R01 r) (hk : k = 1 + 2 * r ∨ k = 2 + 2 * r) :
    (getT t ((k - 1) * 3)).length = 3 ∧ (half r t = half r u → getT t ((k - 1) * 3) = getT u ((k - 1) * 3)) := by
  obtain ⟨⟨l⟩⟩ := t
  obtain ⟨⟨q⟩⟩ := u
  replace ht : l.length = 12 := ht
  replace hu : q.length = 12 := hu
  obtain ⟨b, hb1, hb2, hb3⟩ : ∃ b : Nat, (k - 1) * 3 = b ∧ b ≤ 9 ∧ ((r = 0 ∧ (b = 0 ∨ b = 3)) ∨ (r = 1 ∧ (b = 6 ∨ b = 9))) := by
    rcases hr with rfl | rfl <;> rcases hk with rfl | rfl
    · exact ⟨0, by decide, by decide, .inl ⟨rfl, .inl rfl⟩⟩
    · exact ⟨3, by decide, by decide, .inl ⟨rfl, .inr rfl⟩⟩
    · exact ⟨6, by decide, by decide, .inr ⟨rfl, .inl rfl⟩⟩
    · exact ⟨9, by decide, by decide, .inr ⟨rfl, .inr rfl⟩⟩
  rw [hb1, getT_eq b ht hb2, getT_eq b hu hb2]
  refine ⟨by show ((l.drop b).take 3).length = 3; rw [List.length_take, List.length_drop]; lia, fun h => ?_⟩
  obtain ⟨c0, c1, c2, c3, c4, c5, c6, c7, c8, c9, c10, c11, rfl⟩ := list12 ht
  obtain ⟨d0, d1, d2, d3, d4, d5, d6, d7, d8, d9, d10, d11, rfl⟩ := list12 hu
  rcases hb3 with ⟨rfl, hb⟩ | ⟨rfl, hb⟩
  · rw [half0_eq ht, half0_eq hu] at h
    have h := str_inj h
    simp only [List.take_succ_cons, List.take_zero, List.cons.injEq, and_true] at h
    obtain ⟨rfl, rfl, rfl, rfl, rfl, rfl⟩ := h
    rcases hb with rfl | rfl <;> rfl
  · rw [half1_eq ht, half1_eq hu] at h
    have h := str_inj h
    simp only [List.drop_succ_cons, List.drop_zero, List.cons.injEq, and_true] at h
    obtain ⟨rfl, rfl, rfl, rfl, rfl, rfl⟩ := h
    rcases hb with rfl | rfl <;> rfl
theorem placed3 {buf : Str} (hb : buf.length = 3) {other : Int} (h0 : 0 ≤ other) (h1 : other ≤ 5) (right : Bool) : (Txt.slice buf none (some 0) ++ placedF (textAt other) 3 right ++ Txt.slice buf (some (0 + 3)) none).length = 3 := by
  obtain ⟨⟨m⟩⟩ := buf
  replace hb : m.length = 3 := hb
  have e : Txt.slice ⟨m.toArray⟩ (some (0 + 3)) none = ⟨(m.drop 3).toArray⟩ := slice_from (l := m) 3 (by lia)
  have e2 : Txt.slice ⟨m.toArray⟩ none (some 0) = ⟨(m.take 0).toArray⟩ := slice_to (l := m) 0 (by lia)
  rw [e, e2, len_append, len_append]
  have e3 : (⟨(m.drop 3).toArray⟩ : Str).length = 0 := by show (m.drop 3).length = 0; rw [List.length_drop]; lia
  have e4 : (placedF (textAt other) 3 right).length = 3 := by
    rcases (by lia : other = 0 ∨ other = 1 ∨ other = 2 ∨ other = 3 ∨ other = 4 ∨ other = 5) with rfl | rfl | rfl | rfl | rfl | rfl <;> cases right <;> decide +kernel
  rw [e3, e4]; rfl

-- part P5
set_option maxHeartbeats 2000000
section
variable {r : Int} {B : Nat} {W : WS}
theorem placedF_len (t : Str) {k : Int} (right : Bool) (h0 : 0 ≤ k) : (placedF t k right).length ≤ t.length + k.toNat := by
  have h1 := sl_len t none (some k)
  have h2 := len_mul' (x := " ") (k := k - (Txt.slice t none (some k)).length) one_blank
  unfold placedF
  dsimp only
  split <;> (rw [len_append]; lia)
theorem setPlaced_some {W : WS} {v t : Str} {right : Bool} {p : Pt3} {rc : Rc} (h : aget W.fields v = some p) (h' : aget W.op p.ch = some rc) : setPlacedP W v t right = setR W p.ch { rc with buf := Txt.slice rc.buf none (some p.at_) ++ placedF t p.many right ++ Txt.slice rc.buf (some (p.at_ + p.many)) none } := by
  unfold setPlacedP; rw [h]; dsimp only; rw [h']
theorem place_own (hr : R01 r) {W : WS} (I : Inv W) (G : Good B W) {v t : Str} {right : Bool} (hv : isVar r v) (ht : t.length ≤ 10) : Own r W (setPlacedP W v t right) ∧ Good (2 * B + 50) (setPlacedP W v t right) := by
  cases e : aget W.fields v with
  | none =>
    have : setPlacedP W v t right = W := by unfold setPlacedP; rw [e]
    rw [this]; exact ⟨Own.refl I, G.mono (by lia)⟩
  | some p =>
    obtain ⟨⟨rc, hrc⟩, b1, b2, b3, b4⟩ := G.fd v p e
    rw [setPlaced_some e hrc]
    have hp : isCh r p.ch := by
      rcases I.ik v p e with ⟨r', hr', q⟩ | ⟨r', hr', hv', hp⟩
      · exact absurd q (va_ef hr hr' hv)
      · rw [va_row hr hr' hv hv']; exact hp
    obtain ⟨u, F⟩ := G.found hrc
    have f1 := F.bl; have f2 := F.a0; have f3 := F.a1; have f4 := F.s0; have f5 := F.s1; have f6 := F.n0; have f7 := F.n1
    refine ⟨own_setR I hr hp (show isNm r rc.name from name_of I hr hp hrc), good_setR G (by lia) ⟨_, F.file⟩ ?_ ⟨f2, by dsimp only; lia, f4, f5, f6, f7⟩⟩
    have s1 := sl_len rc.buf none (some p.at_)
    have s2 := sl_len rc.buf (some (p.at_ + p.many)) none
    have s3 := placedF_len t right b3
    dsimp only
    rw [len_append, len_append]
    lia
theorem place_sim (hr : R01 r) {W A : WS} (I : Inv W) (G : Good B W) (S : Sim r W A) {v t : Str} {right : Bool} (hv : isVar r v) : Sim r (setPlacedP W v t right) (setPlacedP A v t right) := by
  cases e : aget W.fields v with
  | none =>
    have e' : aget A.fields v = none := by rw [← S.i v hv]; exact e
    have q1 : setPlacedP W v t right = W := by unfold setPlacedP; rw [e]
    have q2 : setPlacedP A v t right = A := by unfold setPlacedP; rw [e']
    rw [q1, q2]; exact S
  | some p =>
    have e' : aget A.fields v = some p := by rw [← S.i v hv]; exact e
    obtain ⟨⟨rc, hrc⟩, _⟩ := G.fd v p e
    have hp : isCh r p.ch := by
      rcases I.ik v p e with ⟨r', hr', q⟩ | ⟨r', hr', hv', hp⟩
      · exact absurd q (va_ef hr hr' hv)
      · rw [va_row hr hr' hv hv']; exact hp
    rw [setPlaced_some e hrc, setPlaced_some e' (by rw [← S.o p.ch (.inl hp)]; exact hrc)]
    exact sim_setR S
theorem deed_place (hr : R01 r) {v t : Str} {right : Bool} (hv : isVar r v) (ht : t.length ≤ 10) : DeedOk r B fun W => if (aget W.fields v).isSome then .ok (.one .none, setPlacedP W v t right) else .ok (.one .none, W) where
  own := fun W I G a W' h => by
    split at h
    · cases h; exact place_own hr I G hv ht
    · cases h; exact ⟨Own.refl I, G.mono (by lia)⟩
  sim := fun W A I J G H S => by
    rw [← S.i v hv]
    split
    · exact .inr ⟨_, _, _, rfl, rfl, place_sim hr I G S hv⟩
    · exact .inr ⟨_, _, _, rfl, rfl, S⟩
theorem told_ok {rc : Rc} {num : Option Int} {k : Int} (h : toldP rc num = .ok k) : 1 ≤ k ∧ k ≤ 32767 := by
  unfold toldP at h
  dsimp only at h
  split at h
  · cases h; assumption
  · cases h
theorem deed_get (hr : R01 r) {ch : Int} {num : Option Int} (hc : isCh r ch) : DeedOk r B fun W => (getP W ch num).map fun W' => (.one .none, W') := by
  refine deed_ch hr hc (ms := ["R"]) (fun rc W => match toldP rc num with
    | .error k => .error k
    | .ok k => if (k - 1) * rc.size ≥ (txt W rc.name).length then .error "EF" else .ok (.one .none, setR W ch { rc with buf := Txt.slice (Txt.slice (txt W rc.name) (some ((k - 1) * rc.size)) (some ((k - 1) * rc.size + rc.size)) ++ Txt.mul nul rc.size) none (some rc.size), no := k }))
    (fun W k e => ?_) (fun W rc e => ?_) (fun W rc I G h hn a W' e => ?_) fun W A rc I J S h h' hn => ?_
  · simp [getP, e, bind, Except.bind, Except.map]
  · simp only [getP, e, bind, Except.bind, pure, Except.pure]
    cases toldP rc num with
    | error k => rfl
    | ok k => dsimp only; split <;> rfl
  · cases hk : toldP rc num with
    | error k => rw [hk] at e; cases e
    | ok k =>
      rw [hk] at e
      dsimp only at e
      split at e
      · cases e
      · cases e
        obtain ⟨k0, k1⟩ := told_ok hk
        obtain ⟨u, F⟩ := G.found h
        have f0 := F.tl; have f1 := F.bl; have f2 := F.a0; have f3 := F.a1; have f4 := F.s0; have f5 := F.s1; have f6 := F.n0; have f7 := F.n1
        refine ⟨own_setR I hr hc hn, good_setR G (by lia) ⟨_, F.file⟩ ?_ ⟨f2, by dsimp only; lia, f4, f5, by dsimp only; lia, by dsimp only; lia⟩⟩
        refine Nat.le_trans (sl_len _ _ _) ?_
        rw [len_append, len_mul' nul1, F.txt]
        have := sl_len u (some ((k - 1) * rc.size)) (some ((k - 1) * rc.size + rc.size))
        lia
  · rw [txt_sim S hn]
    cases hk : toldP rc num with
    | error k => exact .inl ⟨k, rfl, rfl⟩
    | ok k =>
      dsimp only
      split
      · exact .inl ⟨_, rfl, rfl⟩
      · exact .inr ⟨_, _, _, rfl, rfl, sim_setR S⟩
noncomputable def putText (t buf : Str) (b size : Int) : Str := Txt.slice (t ++ Txt.mul nul (b - t.length)) none (some b) ++ buf ++ Txt.slice (t ++ Txt.mul nul (b - t.length)) (some (b + size)) none
theorem slice_to_len {t : Str} {b : Int} (h0 : 0 ≤ b) (h1 : b ≤ t.length) : (Txt.slice t none (some b)).length ≤ b.toNat := by
  obtain ⟨l, rfl⟩ := str_list t
  have hb : b = (b.toNat : Int) := by lia
  have hl : b.toNat ≤ l.length := by
    have h1 : b ≤ (l.length : Int) := h1
    lia
  rw [hb, slice_to b.toNat hl]
  show (l.take b.toNat).length ≤ _
  rw [List.length_take, ← hb]; lia
theorem putText_len {t buf : Str} {b size : Int} (h0 : 0 ≤ b) (h1 : b ≤ 24) : (putText t buf b size).length ≤ 24 + buf.length + (t.length + 24) := by
  unfold putText
  have s0 := len_mul' (k := b - t.length) nul1
  have s1 := slice_to_len (t := t ++ Txt.mul nul (b - t.length)) h0 (by rw [len_append]; lia)
  have s2 := sl_len (t ++ Txt.mul nul (b - t.length)) (some (b + size)) none
  rw [len_append] at s2
  rw [len_append, len_append]
  lia
theorem deed_put (hr : R01 r) {ch : Int} {num : Option Int} (hc : isCh r ch) : DeedOk r B fun W => (putP W ch num 24).map fun W' => (.one .none, W') := by
  refine deed_ch hr hc (ms := ["R"]) (fun rc W => match toldP rc num with
    | .error k => .error k
    | .ok k => if (k - 1) * rc.size + rc.size > 24 then .error "OM" else .ok (.one .none, setR (setF W rc.name (putText (txt W rc.name) rc.buf ((k - 1) * rc.size) rc.size)) ch { rc with no := k }))
    (fun W k e => ?_) (fun W rc e => ?_) (fun W rc I G h hn a W' e => ?_) fun W A rc I J S h h' hn => ?_
  · simp [putP, e, bind, Except.bind, Except.map]
  · simp only [putP, e, bind, Except.bind, pure, Except.pure]
    cases toldP rc num with
    | error k => rfl
    | ok k => dsimp only; split <;> rfl
  · cases hk : toldP rc num with
    | error k => rw [hk] at e; cases e
    | ok k =>
      rw [hk] at e
      dsimp only at e
      split at e
      · cases e
      · cases e
        obtain ⟨k0, k1⟩ := told_ok hk
        obtain ⟨u, F⟩ := G.found h
        have f0 := F.tl; have f1 := F.bl; have f2 := F.a0; have f3 := F.a1; have f4 := F.s0; have f5 := F.s1; have f6 := F.n0; have f7 := F.n1
        have hb : 0 ≤ (k - 1) * rc.size := Int.mul_nonneg (by lia) f4
        have hl := putText_len (t := txt W rc.name) (buf := rc.buf) (size := rc.size) hb (by lia)
        rw [F.txt] at hl
        have o1 := own_setF (t := putText (txt W rc.name) rc.buf ((k - 1) * rc.size) rc.size) I hr hn
        refine ⟨o1.trans (own_setR o1.inv hr hc hn), good_setR (good_setF G (B' := 2 * B + 49) (by lia) (by rw [F.txt]; lia)) (by lia) ⟨putText (txt W rc.name) rc.buf ((k - 1) * rc.size) rc.size, ?_⟩ (by dsimp only; lia) ⟨f2, by dsimp only; lia, f4, f5, by dsimp only; lia, by dsimp only; lia⟩⟩
        show aget (aput W.files rc.name _) rc.name = _
        rw [aget_aput, if_pos rfl]
  · rw [txt_sim S hn]
    cases hk : toldP rc num with
    | error k => exact .inl ⟨k, rfl, rfl⟩
    | ok k =>
      dsimp only
      split
      · exact .inl ⟨_, rfl, rfl⟩
      · exact .inr ⟨_, _, _, rfl, rfl, sim_setR (sim_setF S hr hn)⟩

/-! ### the row's own two records of the common file -/
theorem five (I : Inv W) (hr : R01 r) : ∃ rc t, aget W.op (5 + r) = some rc ∧ rc.mode = "R" ∧ rc.name = "ALL" ∧ rc.size = 3 ∧ rc.buf.length = 3 ∧ chOf W (5 + r) ["R"] = .ok rc ∧ aget W.files "ALL" = some t ∧ t.length = 12 ∧ txt W "ALL" = t := by
  obtain ⟨rc, h1, h2, h3, h4, h5⟩ := I.ch r hr
  obtain ⟨t, h6, h7⟩ := I.all
  refine ⟨rc, t, h1, h2, h3, h4, h5, ?_, h6, h7, by unfold txt; rw [h6]; rfl⟩
  unfold chOf
  rw [h1]
  dsimp only
  rw [if_pos (by rw [h2]; decide)]
theorem get5 (I : Inv W) (hr : R01 r) {k : Int} (hk : k = 1 + 2 * r ∨ k = 2 + 2 * r) : ∃ rc, aget W.op (5 + r) = some rc ∧ rc.mode = "R" ∧ rc.name = "ALL" ∧ rc.size = 3 ∧
    getP W (5 + r) (some k) = .ok (setR W (5 + r) { rc with buf := getT (txt W "ALL") ((k - 1) * 3), no := k }) := by
  obtain ⟨rc, t, h1, h2, h3, h4, h5, h6, h7, h8, h9⟩ := five I hr
  refine ⟨rc, h1, h2, h3, h4, ?_⟩
  have k0 : 1 ≤ k ∧ k ≤ 4 := by unfold R01 at hr; lia
  have ht : toldP rc (some k) = .ok k := by
    unfold toldP
    dsimp only [Option.getD]
    rw [if_pos ⟨by lia, by lia⟩]
  simp only [getP, h6, ht, h3, h4, h9, bind, Except.bind, pure, Except.pure]
  rw [if_neg (by lia)]
  rfl
theorem put5 (I : Inv W) (hr : R01 r) {k : Int} (hk : k = 1 + 2 * r ∨ k = 2 + 2 * r) : ∃ rc, aget W.op (5 + r) = some rc ∧ rc.mode = "R" ∧ rc.name = "ALL" ∧ rc.size = 3 ∧ rc.buf.length = 3 ∧
    putP W (5 + r) (some k) 24 = .ok (setR (setF W "ALL" (putT (txt W "ALL") rc.buf ((k - 1) * 3))) (5 + r) { rc with no := k }) := by
  obtain ⟨rc, t, h1, h2, h3, h4, h5, h6, h7, h8, h9⟩ := five I hr
  refine ⟨rc, h1, h2, h3, h4, h5, ?_⟩
  have k0 : 1 ≤ k ∧ k ≤ 4 := by unfold R01 at hr; lia
  have ht : toldP rc (some k) = .ok k := by
    unfold toldP
    dsimp only [Option.getD]
    rw [if_pos ⟨by lia, by lia⟩]
  simp only [putP, h6, ht, h3, h4, h9, bind, Except.bind, pure, Except.pure]
  rw [if_neg (by lia)]
  rfl
theorem k5 {r other : Int} : 1 + 2 * r + other.fmod 2 = 1 + 2 * r ∨ 1 + 2 * r + other.fmod 2 = 2 + 2 * r := by
  have h1 := Int.fmod_nonneg_of_pos other (b := 2) (by decide)
  have h2 := Int.fmod_lt_of_pos other (b := 2) (by decide)
  lia
theorem fieldEF {W : WS} (I : Inv W) (hr : R01 r) {rc : Rc} (h : aget W.op (5 + r) = some rc) : fieldP W (varEF r) = some (Txt.slice rc.buf (some 0) (some (0 + 3))) := by
  unfold fieldP
  rw [I.ef r hr]
  show (aget W.op (5 + r)).map _ = _
  rw [h]; rfl
theorem txt12 (I : Inv W) : (txt W "ALL").length = 12 := by
  obtain ⟨t, h1, h2⟩ := I.all
  unfold txt; rw [h1]; exact h2
theorem own_get5 (I : Inv W) (hr : R01 r) {rc : Rc} {b : Str} {k : Int} (h1 : rc.mode = "R") (h2 : rc.name = "ALL") (h3 : rc.size = 3) (hb : b.length = 3) : Own r W (setR W (5 + r) { rc with buf := b, no := k }) :=
  own_setR5 I hr h1 h2 h3 hb
theorem good_get5 (G : Good B W) {c : Int} {rc : Rc} {u : Str} {b : Str} {k : Int} (F : Fd B W c rc u) (hb : b.length = 3) (hk : 0 ≤ k ∧ k ≤ 40000) : Good (2 * B + 50) (setR W c { rc with buf := b, no := k }) := by
  have f0 := F.tl; have f1 := F.bl; have f2 := F.a0; have f3 := F.a1; have f4 := F.s0; have f5 := F.s1
  exact good_setR G (by lia) ⟨u, F.file⟩ (by show b.length ≤ _; lia) ⟨f2, by show rc.at_ ≤ _; lia, f4, f5, hk⟩
theorem deed_moved (hr : R01 r) {one other : Int} (h0 : 0 ≤ other) (h1 : other ≤ 5) : DeedOk r B fun W => movedP W r one other where
  own := fun W I G a W' h => by
    unfold movedP at h
    split at h
    · cases h
      obtain ⟨rc, t, g1, g2, g3, g4, g5, _⟩ := five I hr
      rw [setPlaced_some (I.ef r hr) g1]
      obtain ⟨u, F⟩ := G.found g1
      have f0 := F.tl; have f1 := F.bl; have f2 := F.a0; have f3 := F.a1; have f4 := F.s0; have f5 := F.s1; have f6 := F.n0; have f7 := F.n1
      have hl := placed3 g5 h0 h1 (decide (other < 3))
      exact ⟨own_setR5 I hr g2 g3 g4 hl, good_setR G (by lia) ⟨_, F.file⟩ (by dsimp only; rw [hl]; lia) ⟨f2, by dsimp only; lia, f4, f5, f6, f7⟩⟩
    split at h
    · obtain ⟨rc, g1, g2, g3, g4, g5, e⟩ := put5 I hr (k5 (r := r) (other := other))
      rw [e] at h
      cases h
      obtain ⟨u, F⟩ := G.found g1
      have f0 := F.tl; have f1 := F.bl; have f2 := F.a0; have f3 := F.a1; have f4 := F.s0; have f5 := F.s1; have f6 := F.n0; have f7 := F.n1
      obtain ⟨p1, p2, _⟩ := put_all (txt12 I) (txt12 I) g5 hr (k5 (r := r) (other := other))
      have o1 := own_setAll I hr p1 p2
      have hk := k5 (r := r) (other := other)
      have hr' : r = 0 ∨ r = 1 := hr
      refine ⟨o1.trans (own_setR5 o1.inv hr g2 g3 g4 g5), good_setR (good_setF G (B' := 2 * B + 49) (by lia) (by rw [p1]; lia)) (by lia) ⟨putT (txt W "ALL") rc.buf ((1 + 2 * r + other.fmod 2 - 1) * 3), ?_⟩ (by dsimp only; lia) ⟨f2, by dsimp only; lia, f4, f5, by dsimp only; lia, by dsimp only; lia⟩⟩
      show aget (aput W.files "ALL" _) rc.name = _
      rw [g3, aget_aput, if_pos rfl]
    · obtain ⟨rc, g1, g2, g3, g4, e⟩ := get5 I hr (k5 (r := r) (other := other))
      rw [e] at h
      cases h
      obtain ⟨u, F⟩ := G.found g1
      have f0 := F.tl; have f1 := F.bl; have f2 := F.a0; have f3 := F.a1; have f4 := F.s0; have f5 := F.s1; have f6 := F.n0; have f7 := F.n1
      have hk := k5 (r := r) (other := other)
      obtain ⟨p1, _⟩ := get_all (txt12 I) (txt12 I) hr hk
      have hr' : r = 0 ∨ r = 1 := hr
      exact ⟨own_get5 I hr g2 g3 g4 p1, good_get5 G F p1 ⟨by lia, by lia⟩⟩
  sim := fun W A I J G H S => by
    unfold movedP
    by_cases q1 : one.fmod 3 = 2
    · rw [if_pos q1, if_pos q1]
      refine .inr ⟨_, _, _, rfl, rfl, ?_⟩
      obtain ⟨rc, t, g1, _⟩ := five I hr
      rw [setPlaced_some (I.ef r hr) g1, setPlaced_some (J.ef r hr) (by rw [← S.o _ (.inr rfl)]; exact g1)]
      exact sim_setR S
    rw [if_neg q1, if_neg q1]
    by_cases q2 : one.fmod 3 = 1
    · rw [if_pos q2, if_pos q2]
      obtain ⟨rc, g1, g2, g3, g4, g5, e⟩ := put5 I hr (k5 (r := r) (other := other))
      obtain ⟨rc', g1', _, _, _, _, e'⟩ := put5 J hr (k5 (r := r) (other := other))
      rw [← S.o _ (.inr rfl), g1] at g1'
      cases g1'
      rw [e, e']
      obtain ⟨_, _, p⟩ := put_all (txt12 I) (txt12 J) g5 hr (k5 (r := r) (other := other))
      exact .inr ⟨_, _, _, rfl, rfl, sim_setR (sim_setAll S hr (p S.h))⟩
    · rw [if_neg q2, if_neg q2]
      obtain ⟨rc, g1, g2, g3, g4, e⟩ := get5 I hr (k5 (r := r) (other := other))
      obtain ⟨rc', g1', _, _, _, e'⟩ := get5 J hr (k5 (r := r) (other := other))
      rw [← S.o _ (.inr rfl), g1] at g1'
      cases g1'
      obtain ⟨p1, p⟩ := get_all (txt12 I) (txt12 J) hr (k5 (r := r) (other := other))
      rw [e, e', ← p S.h]
      have o1 := own_get5 (k := 1 + 2 * r + other.fmod 2) I hr g2 g3 g4 p1
      have o2 := own_get5 (k := 1 + 2 * r + other.fmod 2) J hr g2 g3 g4 p1
      refine .inr ⟨_, _, _, rfl, ?_, sim_setR S⟩
      simp only [Except.map]
      rw [fieldEF o1.inv hr (by show aget (aput _ _ _) _ = _; rw [aget_aput, if_pos rfl]), fieldEF o2.inv hr (by show aget (aput _ _ _) _ = _; rw [aget_aput, if_pos rfl])]
end

-- part E1
set_option maxHeartbeats 2000000
/-- a list, of which it need not be known whether it is plain -/
noncomputable def LstAt (n : Led) (a : Addr) (us : List V) : Prop := n a = some (.list us) ∨ ∃ o vs k, n a = some (.raw o) ∧ o.cls = .type "list" ∧ o.data = .seq vs k ∧ VRel us vs.toList
theorem LstAt.keep {n n' : Led} {a : Addr} {us : List V} {F : List Addr} (h : LstAt n a us) (hk : Keeps F n n') (hf : a ∉ F) : LstAt n' a us := by
  rcases h with h | ⟨o, vs, k, h, r⟩
  · exact .inl ((hk a (by rw [h]; exact Option.some_ne_none _) hf).trans h)
  · exact .inr ⟨o, vs, k, (hk a (by rw [h]; exact Option.some_ne_none _) hf).trans h, r⟩
section
variable {prog : Program} {c : Cx} {m : Loc} {n n0 : Led} {X : Str → Led → Prop} {Q : V → Led → Prop} {pos : Pos}
theorem Sit.lst {s : Shared} (S : Sit prog c m n s) {a : Addr} {us : List V} (h : LstAt n a us) : ∃ vs, s.heap.IsList a vs ∧ VRel us vs.toList := by
  rcases h with h | ⟨o, vs, k, h, h1, h2, h3⟩
  · obtain ⟨ob, vs, h1, h2, _, h3⟩ := S.list h
    exact ⟨vs, h2, h3⟩
  · obtain ⟨⟨ob, h4, e⟩, _⟩ := S.led _ _ h
    have e : ob = o := e
    subst e
    exact ⟨vs, ⟨ob, h4, h1, k, h2⟩, h3⟩
theorem sub_lst {e s : Expr} {a : Addr} {us : List V} {k : Int} {v : V} (ha : LstAt n a us) (h0 : 0 ≤ k) (hf : k < 2 ^ 63) (hk : us[k.toNat]? = some v) (h : Q v n) (hs : Plain s := by with_unfolding_all (intro _ _; rfl)) : Sub prog c m n e s (.ref a) (.int k) Q X := by
  rintro _ _ ⟨⟩ ⟨⟩
  refine Ev.of fun H s S => ?_
  obtain ⟨vs, h2, h3⟩ := S.lst ha
  obtain ⟨x, hx, hv⟩ := h3.at hk
  exact tail_any h2.typeIs slot_list_getitem.lookup (wpAny_getItem_list h2 h0 hf (by simpa using hx) ⟨v, n, hv, S, h⟩) (hs _ _)
theorem VRel.set {v : V} {x : Value} (hv : VIs v x) : ∀ {us : List V} {xs : List Value} (k : Nat), VRel us xs → VRel (us.set k v) (xs.set k x)
  | [], _, _, .nil => .nil
  | _ :: _, _, 0, .cons _ r => .cons hv r
  | _ :: _, _, k + 1, .cons h r => .cons h (VRel.set hv k r)
theorem st_lst {a : Addr} {us : List V} {k : Int} {v : V} {P : Led → Prop} (ha : LstAt n a us) (h0 : 0 ≤ k) (hf : k < 2 ^ 63) (hk : k < us.length) (h : ∀ n', Keeps [a] n n' → LstAt n' a (us.set k.toNat v) → P n') : St prog c m n (.ref a) (.int k) v P X := by
  rintro _ _ z ⟨⟩ ⟨⟩ hv H s S
  obtain ⟨vs, h2, h3⟩ := S.lst ha
  refine wpAny_setItem_list h2 h0 hf (by have h4 := VRel.length h3; have h5 : vs.toList.length = vs.size := Array.length_toList; lia) fun h' hl hs => ?_
  obtain ⟨o', ho', hc, k', hd⟩ := hl
  have ha' : ∃ o, n a = some o ∧ ∀ ob, o ≠ .exc ob := by
    rcases ha with h | ⟨o, _, _, h, _⟩ <;> exact ⟨_, h, by intro _ q; cases q⟩
  obtain ⟨o, ha', hf⟩ := ha'
  refine ⟨_, S.set (tk := s.toks) (o' := .raw o') ha' hs ho' rfl hf, h _ (Keeps.set (.inl (.head _))) (.inr ⟨o', _, k', Led.set_self _ _ _, hc, hd, ?_⟩)⟩
  rw [Array.toList_setIfInBounds]
  exact h3.set hv k.toNat
noncomputable def intsOf : List Expr → Option (List Int)
  | [] => some []
  | .Constant (.int i) _ _ :: r => (intsOf r).map (i :: ·)
  | _ => none
set_option tactic.hygienic true in
theorem es_ints {p : Pos} : ∀ {es : List Expr} {zs : List Int} {Q : List V → Led → Prop}, intsOf es = some zs → Q (zs.map .int) n → Es prog c m n (spliced (backTo p (starEach es c.env))) Q X
  | [], zs, Q, h, hq => by cases h; exact es_nil hq
  | e :: r, zs, Q, h, hq => by
    unfold intsOf at h
    split at h
    · rename_i e; cases e
    · rename_i i k q r' e
      cases e
      cases hr : intsOf r with
      | none => rw [hr] at h; cases h
      | some ys =>
        rw [hr] at h
        cases h
        exact es_cons (ev_int (es_ints (Q := fun us n' => Q (V.int i :: us) n') hr hq)) (by rfl)
    · cases h
end
noncomputable def usual : List Int := [0, 0, 0, 2, 1, 1, 0, 0, 0, 6, 2, 2, 1, 2, 0, 2, 0, 7, 0, 4, 1, 3, 0, 1, 0, 9, 0, 2, 1, 11, 0, 0, 0, 10, 0, 2, 1, 0, 2, 0, 1, 4, 0, 0, 0, 13, 1, 1, 1, 13, 0, 1, 1, 12, 0, 0]
section
variable {prog : Program} [ProgOk prog] {c : Cx} {n : Led} {X : Str → Led → Prop} {Q : V → Led → Prop}
theorem fn_law_cut {sp l : Addr} {zs : List Int} {p many : Int} (hlv : 4 < c.lv) (hh : c.A.handled = none) (hs : LstAt n sp [.ref l, .int p]) (hl : n l = some (.list (zs.map .int))) (hp0 : 0 ≤ p) (hp1 : p < 1000) (hz : zs.length ≤ 1000) (hm : 0 < many)
    (hne : sp ≠ l) (h : ∀ v n', 0 ≤ v → v < many → Keeps [sp] n n' → LstAt n' sp [.ref l, .int (p + 1)] → Q (.int v) n') : Fn prog c n (.ref 226) [.ref sp, .int many] Q X := by
  wtm_at "enter"
  with_reducible refine ex_seq (fun m' n' => ∃ u, m' = ([("_law_usual", .ref u), ("spool", .ref sp), ("many", .int many)] : Loc) ∧ n' u = some (.list (usual.map .int)) ∧ Keeps [] n n') ?_ ?_
  · have I := ‹InFn _ _ _ _›
    have hsc := I.scope
    with_reducible refine ex_assign hsc ?_ ?_ ?_
    · with_unfolding_all rfl
    · with_reducible refine ev_list ?_
      with_reducible refine es_ints (zs := usual) ?_ ?_
      · kernel_rfl
      · exact ⟨by rw [szl]; decide, fun u hu => ⟨u, rfl, Led.set_self _ _ _, keeps_new hu⟩⟩
    · with_unfolding_all rfl
  rintro _ n1 ⟨u, rfl, hu, hk1⟩
  have hs1 := hs.keep hk1 (fun q => nomatch q)
  have hl1 : n1 l = some (.list (zs.map .int)) := hk1.at hl
  have hne2 : u ≠ sp := fun q => by
    subst q
    rcases hs1 with e | ⟨o, vs, k, e, _⟩ <;> (rw [hu] at e; cases e)
  wtm_at "go"
  refine sub_lst hs1 (by decide) (by decide) (by rfl) ?_
  wtm_at "go"
  refine st_lst hs1 (by decide) (by decide) (by show (1 : Int) < 2; decide) fun n2 hk2 hs2 => ?_
  have hl2 : n2 l = some (.list (zs.map .int)) := (hk2 l (by rw [hl1]; exact Option.some_ne_none _) (by simpa using Ne.symm hne)).trans hl1
  have hu2 : n2 u = some (.list (usual.map .int)) := (hk2 u (by rw [hu]; exact Option.some_ne_none _) (by simpa using hne2)).trans hu
  have hs2 : LstAt n2 sp [.ref l, .int (p + 1)] := hs2
  have hkk : Keeps [sp] n n2 := (hk1.sub fun _ q => nomatch q).trans hk2
  wtm_at "go"
  refine sub_lst hs2 (by decide) (by decide) (by rfl) ?_
  wtm_at "go"
  · rw [List.length_map, szl]; lia
  · have hlt : p < zs.length := by have := (by assumption : p < ((zs.map V.int).length : Int)); rw [List.length_map] at this; exact this
    refine sub_lst hs2 (by decide) (by decide) (by rfl) ?_
    wtm_at "go"
    obtain ⟨z, hz⟩ : ∃ z, zs[p.toNat]? = some z := ⟨_, List.getElem?_eq_getElem (by lia)⟩
    refine sub_list hl2 hp0 (by lia) (by rw [List.getElem?_map, hz]; rfl) ?_
    wtm_at "go"
    · lia
    · exact h _ _ (Int.fmod_nonneg_of_pos _ hm) (Int.fmod_lt_of_pos _ hm) hkk hs2
  · rw [szl]; decide
  · decide
  · have hf0 : 0 ≤ p.fmod 56 := Int.fmod_nonneg_of_pos _ (by decide)
    have hf1 : p.fmod 56 < 56 := Int.fmod_lt_of_pos _ (by decide)
    show Sub _ _ _ _ _ _ _ (V.int (p.fmod 56)) _ _
    obtain ⟨z, hz⟩ : ∃ z, usual[(p.fmod 56).toNat]? = some z := ⟨_, List.getElem?_eq_getElem (by show _ < 56; lia)⟩
    refine sub_list hu2 hf0 (by lia) (by rw [List.getElem?_map, hz]; rfl) ?_
    wtm_at "go"
    · lia
    · exact h _ _ (Int.fmod_nonneg_of_pos _ hm) (Int.fmod_lt_of_pos _ hm) hkk hs2
end

-- part E2
set_option maxHeartbeats 2000000
theorem setOk215 (w : World) (x : Str) (hx : takerIn (KK w) 215 x = some none) : SetOk w 215 x := {
  set := by kernel_rfl
  dict := by kernel_rfl
  taker := hx
  over := fun self cd h => by
    have e : (clsIn (KK w) 215).map (·.mro) = some [.ref 215, .type "object"] := by kernel_rfl
    rw [h] at e
    have e : cd.mro = _ := Option.some.inj e
    rw [e]
    kernel_rfl
  sub := by kernel_rfl }
theorem kget_kput {K : Type} [DecidableEq K] {es : List (K × V)} {k k' : K} {v : V} : kget (kput es k v) k' = if k' = k then some v else kget es k' := by
  have h := kget_mapV (fun _ (v : V) => v) es k'
  have h1 : mapV (fun _ (v : V) => v) es = es := by unfold mapV; exact List.map_id' es
  have h2 := kput_mapV (f := fun _ (v : V) => v) (f' := fun _ (v : V) => v) (es := es) (k := k) (v := v) (fun _ _ _ => rfl)
  rw [h1] at h h2
  have h3 := kget_mapV (fun _ (v : V) => v) (aput es k v) k'
  have e : kput es k v = mapV (fun _ (v : V) => v) (aput es k v) := h2
  rw [e, h3, aget_aput, h]
  by_cases q : k = k'
  · simp [q]
  · simp [q, Ne.symm q]
theorem length_kput {K : Type} [DecidableEq K] {es : List (K × V)} {k : K} {v : V} : (kput es k v).length ≤ es.length + 1 := by
  unfold kput; split <;> simp
/-- an object being made: what its table says, and which tables were made beside -/
structure ST (n0 : Led) (x dx : Addr) (l : Loc) (K : List (Addr × O)) (n : Led) : Prop where
  inst : n x = some (.inst 215 dx)
  tab : ∃ es ep, n dx = some (.sd es ep) ∧ es.length ≤ l.length ∧ ∀ k v, l.lookup k = some v → kget es k = some v
  keeps : Keeps [dx] n0 n
  made : ∀ p ∈ K, n p.1 = some p.2 ∧ p.1 ≠ dx ∧ n0 p.1 = none
  nodup : (K.map (·.1)).Nodup
theorem ST.grow {n0 n n' : Led} {x dx : Addr} {l : Loc} {K : List (Addr × O)} (S : ST n0 x dx l K n) (h : Keeps [] n n') : ST n0 x dx l K n' := by
  have nt : ∀ {y : Addr} {o : O}, n y = some o → n' y = some o := fun {y o} e => h.at e
  obtain ⟨h1, ⟨es, ep, h2, h3⟩, h4, h5, h6⟩ := S
  exact ⟨nt h1, ⟨es, ep, nt h2, h3⟩, h4.trans (h.sub fun _ q => nomatch q), fun p hp => ⟨nt (h5 p hp).1, (h5 p hp).2⟩, h6⟩
theorem ST.add {n0 n n' : Led} {x dx : Addr} {l : Loc} {K : List (Addr × O)} (S : ST n0 x dx l K n) (h : Keeps [] n n') {f : Addr} {o : O} (hf : n f = none) (ho : n' f = some o) : ST n0 x dx l ((f, o) :: K) n' := by
  have S' := S.grow h
  exact { S' with
    made := fun p hp => by
      rcases List.mem_cons.mp hp with rfl | hp
      · refine ⟨ho, fun q => ?_, ?_⟩
        · obtain ⟨es, ep, h1, _⟩ := S.tab
          dsimp only at q; rw [q, h1] at hf; cases hf
        · cases q : n0 f with
          | none => rfl
          | some o' =>
            by_cases e : f = dx
            · obtain ⟨es, ep, h1, _⟩ := S.tab
              rw [e, h1] at hf; cases hf
            · have := S.keeps f (by rw [q]; exact Option.some_ne_none _) (by simpa using e)
              rw [hf, q] at this; cases this
      · exact S'.made p hp
    nodup := by
      rw [List.map_cons, List.nodup_cons]
      refine ⟨fun q => ?_, S.nodup⟩
      obtain ⟨p, hp, e⟩ := List.mem_map.mp q
      have := (S.made p hp).1
      rw [e, hf] at this; cases this }
theorem ST.done {n nn : Led} {x dx : Addr} {l : Loc} {K : List (Addr × O)} (S : ST n x dx l K nn) {fa oa ia : Addr} (h1 : l.lookup ("files" : Str) = some (.ref fa)) (h2 : l.lookup ("open" : Str) = some (.ref oa)) (h3 : l.lookup ("fields" : Str) = some (.ref ia))
    (hs : List.Sublist [(ia, O.sd [] 0), (oa, O.idd [] 0), (fa, O.sd [] 0)] K) : ∃ a, Rep nn a ⟨[], [], []⟩ ∧ a.wa = x ∧ Keeps [dx] n nn ∧ ∀ b ∈ foot a ⟨[], [], []⟩, b = dx ∨ n b = none := by
  obtain ⟨hi, ⟨es, ep, g1, g2, g3⟩, hk, hm, hnd⟩ := S
  have hnd : [ia, oa, fa].Nodup := hnd.sublist (hs.map Prod.fst)
  obtain ⟨i1, i2, i3⟩ := hm (ia, O.sd [] 0) (hs.subset (.head _))
  obtain ⟨o1, o2, o3⟩ := hm (oa, O.idd [] 0) (hs.subset (.tail _ (.head _)))
  obtain ⟨f1, f2, f3⟩ := hm (fa, O.sd [] 0) (hs.subset (.tail _ (.tail _ (.head _))))
  dsimp only at i1 i2 i3 o1 o2 o3 f1 f2 f3
  refine ⟨⟨x, dx, fa, oa, ia, fun _ => 0, fun _ => 0⟩, ?_, rfl, hk, ?_⟩
  · exact {
      inst := hi
      attrs := ⟨es, ep, g1, g3 _ _ h1, g3 _ _ h2, g3 _ _ h3⟩
      files := ⟨0, f1⟩
      op := ⟨0, o1⟩
      fields := ⟨0, i1⟩
      recs := fun ch r q => by cases q
      tups := fun nm p q => by cases q
      apart := by
        show [dx, fa, oa, ia].Nodup
        simp only [List.nodup_cons, List.mem_cons, List.not_mem_nil, or_false, not_or, not_false_eq_true, List.nodup_nil, and_true] at hnd ⊢
        obtain ⟨⟨h1, h2⟩, h3⟩ := hnd
        exact ⟨⟨Ne.symm f2, Ne.symm o2, Ne.symm i2⟩, ⟨Ne.symm h3, Ne.symm h2⟩, Ne.symm h1⟩ }
  · intro b hb
    replace hb : b ∈ [dx, fa, oa, ia] := hb
    simp only [List.mem_cons, List.not_mem_nil, or_false] at hb
    rcases hb with rfl | rfl | rfl | rfl
    · exact .inl rfl
    · exact .inr f3
    · exact .inr o3
    · exact .inr i3
section
variable {prog : Program} {c : Cx} {m : Loc} {n n0 : Led} {X : Str → Led → Prop} {Q : V → Led → Prop} {pos : Pos} {N : Loc → Led → Prop} {R : V → Led → Prop}
noncomputable def SA (prog : Program) (c : Cx) (m : Loc) (n : Led) (o : V) (nm : Str) (v : V) (P : Led → Prop) (X : Str → Led → Prop) : Prop :=
  ∀ x z, VIs o x → VIs v z → Wp prog c m n (setAttr x nm z) (fun _ n' => P n') X
noncomputable abbrev KSa2 (prog : Program) (c : Cx) (m : Loc) (nm : Str) (v : V) (N : Loc → Led → Prop) (X : Str → Led → Prop) (ov : V) (n : Led) : Prop := SA prog c m n ov nm v (N m) X
noncomputable abbrev KSa (prog : Program) (c : Cx) (m : Loc) (o : Expr) (nm : Str) (N : Loc → Led → Prop) (X : Str → Led → Prop) (v : V) (n : Led) : Prop := Ev prog c m n (eval o c.env) (KSa2 prog c m nm v N X) X
theorem ex_setattr {o e : Expr} {nm : Str} {p p' : Pos} (h : Ev prog c m n (eval e c.env) (KSa prog c m o nm N X) X)
    (hs : swapsWith e (some (.Attribute o nm p')) p.line c.env = pure false := by with_unfolding_all rfl) : Ex prog c m n (exec (.Assign [.Attribute o nm p'] e p) c.env) N R X := fun H s S =>
  plainObj_wpAny_Assign_Attribute (wpAny_mono (h H s S) (fun v s1 ⟨n1, S1, u, hu, q1⟩ => wpAny_mono (q1 H s1 S1) (fun ov s2 ⟨n2, S2, uo, huo, q2⟩ =>
    wpAny_mono (q2 _ _ huo hu H s2 S2) (fun _ s3 ⟨n3, S3, q3⟩ => ⟨m, n3, S3, q3⟩) fun e s' q => ⟨m, q⟩) fun e s' q => ⟨m, q⟩) fun e s' q => ⟨m, q⟩) hs
theorem sa_st {x dx : Addr} {l : Loc} {K : List (Addr × O)} {nm : Str} {v : V} {P : Led → Prop} (S0 : ST n0 x dx l K n) (hl : l.length ≤ 500) (ht : takerIn (KK c.w) 215 nm = some none)
    (h : ∀ n', ST n0 x dx ((nm, v) :: l) K n' → P n') : SA prog c m n (.ref x) nm v P X := by
  rintro _ z ⟨⟩ hv H s S
  obtain ⟨es, ep, h1, h2, h3⟩ := S0.tab
  obtain ⟨⟨ox, hox, c1, c2, c3⟩, _⟩ := S.led _ _ S0.inst
  obtain ⟨ob, kvs, g1, g2, g3⟩ := S.sd h1
  obtain ⟨hh, g, d, tk, os⟩ := s
  have hnc : notCls ox = true := by unfold notCls; rw [c3]
  refine sa_old (fun a o e => S.keep _ _ (H.X a o e)) (setOk215 c.w nm ht) hox c1 hnc c2 g1 g2 (by rw [← g3.length]; lia) fun h' od' ep' tk' q1 q2 q3 => ?_
  have S' := S.set (tk := tk') (o' := .sd (kput es nm v) ep') h1 q3 q1 ⟨_, q2, g3.put nm hv⟩
  refine ⟨_, S', h _ ?_⟩
  have ne : x ≠ dx := fun q => by have := S0.inst; rw [q, h1] at this; cases this
  exact {
    inst := (Led.set_ne _ _ ne).trans S0.inst
    tab := ⟨_, _, Led.set_self _ _ _, Nat.le_trans length_kput (by rw [List.length_cons]; lia), fun k u hk => by
      rw [List.lookup_cons] at hk
      rw [kget_kput]
      cases e : k == nm with
      | true => rw [e] at hk; rw [if_pos (eq_of_beq e)]; exact hk
      | false => rw [e] at hk; rw [if_neg (beq_eq_false_iff_ne.mp e)]; exact h3 k u hk⟩
    keeps := S0.keeps.trans (Keeps.set (.inl (.head _)))
    made := fun p hp => let ⟨a, b, d⟩ := S0.made p hp; ⟨(Led.set_ne _ _ b).trans a, b, d⟩
    nodup := S0.nodup }
theorem ev_dict0 {x dx : Addr} {l : Loc} {K : List (Addr × O)} (S0 : ST n0 x dx l K n) (h : ∀ f n', ST n0 x dx l ((f, .sd [] 0) :: K) n' → Q (.ref f) n') : Ev prog c m n (eval (.Dict [] [] pos) c.env) Q X := Ev.of fun H s S => by
  refine wpAny_Dict_empty ?_
  obtain ⟨a0, S1⟩ := S.new (tk := s.toks) (o := .sd [] 0) (a := s.heap.objs.size) (fun b o e => Heap.get?_push_of_some { cls := .type "dict", data := .dict #[] } e) (Nat.le_refl _) (Heap.get?_push_size _ rfl)
    ⟨[], ⟨#[], ⟨rfl, rfl, rfl⟩, rfl, (fun _ he => by simp at he), Pairs.nil, List.nodup_nil⟩, .nil⟩
  exact ⟨_, _, .ref _, S1, h _ _ (S0.add (keeps_new a0) a0 (Led.set_self _ _ _))⟩
theorem ev_dict1 {x dx : Addr} {l : Loc} {K : List (Addr × O)} (S0 : ST n0 x dx l K n) (h : ∀ f n', ST n0 x dx l ((f, .idd [] 0) :: K) n' → Q (.ref f) n') : Ev prog c m n (eval (.Dict [] [] pos) c.env) Q X := Ev.of fun H s S => by
  refine wpAny_Dict_empty ?_
  obtain ⟨a0, S1⟩ := S.new (tk := s.toks) (o := .idd [] 0) (a := s.heap.objs.size) (fun b o e => Heap.get?_push_of_some { cls := .type "dict", data := .dict #[] } e) (Nat.le_refl _) (Heap.get?_push_size _ rfl)
    ⟨[], ⟨#[], ⟨rfl, rfl, rfl⟩, rfl, (fun _ he => by simp at he), Pairs.nil, List.nodup_nil⟩, .nil⟩
  exact ⟨_, _, .ref _, S1, h _ _ (S0.add (keeps_new a0) a0 (Led.set_self _ _ _))⟩
theorem ev_list0 {x dx : Addr} {l : Loc} {K : List (Addr × O)} (S0 : ST n0 x dx l K n) (h : ∀ f n', ST n0 x dx l ((f, .list []) :: K) n' → Q (.ref f) n') : Ev prog c m n (eval (.List [] pos) c.env) Q X :=
  ev_list (es_nil ⟨Nat.zero_le _, fun a ha => h a _ (S0.add (keeps_new ha) ha (Led.set_self _ _ _))⟩)
end
section
variable {prog : Program} {c : Cx} {m : Loc} {n : Led} {X : Str → Led → Prop} {Q : V → Led → Prop} {pos : Pos}
/-- the body of a def with defaults -/
theorem fn_bodyD {f : Addr} {args : List V} {name qual : Str} {params : Arguments} {body : List Stmt} {scope : Scope} {dV kV doc pm cdv ct oc : Value} {an od : Option Addr} {osl : Array (Option Value)}
    (ho : (KK c.w).lookup f = some ⟨oc, od, .func (fnOf name qual params body scope dV kV doc pm an cdv ct), osl⟩) (hcd : codeIn (KK c.w) cdv qual = true) (hlv : 0 < c.lv)
    (hb : ∀ vals, VRel args vals → ∀ s : Shared, (KK c.w).In s.heap → BindsTo s (fnOf name qual params body scope dV kV doc pm an cdv ct) ⟨vals, []⟩ ((params.args.map (·.arg)).zip vals))
    (hnd : (params.args.map (·.arg)).Nodup) (hloc : ∀ y ∈ params.args.map (·.arg), scope.names.lookup y = some .local)
    (h : ∀ c', InFn c c' scope [] → Ex prog c' ((params.args.map (·.arg)).zip args) n (execs body c'.env) (fun _ n' => Q .none n') Q X)
    (hcell : ∀ x ∈ scope.names, x.2 ≠ .cell := by decide) (hco : scope.isCoroutine = false := by with_unfolding_all rfl) (hgen : scope.isGenerator = false := by with_unfolding_all rfl) (hk : scope.kind = .function := by with_unfolding_all rfl) :
    Fn prog c n (.ref f) args Q X := fun m H s S vals hv => by
  obtain ⟨mg, mb, T⟩ := H.T
  have hroom : c.A.depth < recursionLimit := Nat.lt_of_le_of_lt (Nat.le_trans (Nat.le_add_right _ _) H.dp) (by decide)
  have keys : ((params.args.map (·.arg)).zip vals).map (·.1) |>.Nodup := by
    have : ∀ (a : List Str) (b : List Value), a.Nodup → ((a.zip b).map (·.1)).Nodup := by
      intro a
      induction a with
      | nil => intro b _; exact List.nodup_nil
      | cons x a ih =>
        intro b hx
        cases b with
        | nil => exact List.nodup_nil
        | cons y b =>
          rw [List.zip_cons_cons, List.map_cons, List.nodup_cons]
          refine ⟨fun q => ?_, ih b (List.nodup_cons.mp hx).2⟩
          obtain ⟨z, hz, e⟩ := List.mem_map.mp q
          exact (List.nodup_cons.mp hx).1 ((show z.1 = x from e) ▸ (List.of_mem_zip hz).1)
    exact this _ _ hnd
  refine codeAny_call_def (fd := fnOf name qual params body scope dV kV doc pm an cdv ct) (binds := (params.args.map (·.arg)).zip vals) hroom (S.keep _ _ (H.X _ _ ho)) rfl (T.nolimit.keeps S.keep)
    ((codeRec_of H.X hcd).keeps S.keep) rfl (hb vals hv s fun a o e => S.keep _ _ (H.X a o e)) hcell (fun y hy => hloc _ (List.of_mem_zip hy).1) (fun h₁ hns hk₁ => ?_) hco hgen hk
  let env' : Env := callEnv (fnOf name qual params body scope dV kV doc pm an cdv ct) s.heap.objs.size f
  let c' : Cx := ⟨c.w, c.s₀, c.base, c.A.deeper env', env', (c.env.locals, m) :: c.outs, c.lv - 1⟩
  obtain ⟨l, hl, hfr⟩ := H.fr
  have hbs : c.base.objs.size ≤ s.heap.objs.size := by
    cases Nat.lt_or_ge s.heap.objs.size c.base.objs.size with
    | inr h => exact h
    | inl h => exact absurd (Nat.lt_of_lt_of_le S.loc.lt (Nat.le_of_lt h)) (Nat.not_lt.mpr S.loc.1)
  have I : InFn c c' scope [] := ⟨rfl, rfl, rfl, rfl, rfl, Nat.succ_pred_eq_of_pos hlv, rfl⟩
  have H' : COk c' := {
    X := H.X
    T := H.T
    fk := hk
    gl := rfl
    bu := rfl
    dp := by show c.A.depth + 1 + (c.lv - 1) ≤ 900; have := H.dp; lia
    un := by show c.A.units + 3 + 10 * (c.lv - 1) ≤ 9000; have := H.un; lia
    sm := H.sm
    fr := ⟨env' :: l, Around.frames_deeper hl, fun e he => by
      rcases List.mem_cons.mp he with rfl | he
      · exact ⟨by show scope.kind ≠ .module; rw [hk]; decide, _, rfl, .head _⟩
      · obtain ⟨a, L, b, d⟩ := hfr e he
        exact ⟨a, L, b, .tail _ d⟩⟩ }
  have S' : Sit prog c' ((params.args.map (·.arg)).zip args) n { s with heap := h₁, toks := s.toks + ((params.args.map (·.arg)).zip vals).length } := {
    gens := S.gens
    drawn := S.drawn
    os := S.os
    keep := fun b o e => hk₁ b o (S.keep b o e)
    loc := ⟨hbs, _, hns, fun x v hx => by
      rw [lookup_rev keys]
      exact zip_rel hv hx⟩
    outs := fun g hg => by
      rcases List.mem_cons.mp hg with rfl | hg
      · exact S.loc.of fun o e => hk₁ _ o e
      · exact (S.outs g hg).of fun o e => hk₁ _ o e
    apart := List.nodup_cons.mpr ⟨fun q => absurd (S.ns _ q).1 (Nat.lt_irrefl _), S.apart⟩
    led := fun a o e => by
      obtain ⟨⟨ob, h1, h2⟩, h3, h4⟩ := S.led a o e
      refine ⟨⟨ob, hk₁ _ _ h1, h2⟩, h3, fun q => ?_⟩
      rcases List.mem_cons.mp q with q | q
      · exact absurd (S.lt e) (by rw [q]; exact Nat.lt_irrefl _)
      · exact h4 q }
  refine wpAny_mono (h c' I H' _ S') (fun fl s' q => ?_) fun e s' ⟨m', q⟩ => ?_
  · cases fl with
    | next => obtain ⟨m', n', a, b⟩ := q; exact ⟨.none, n', .none, a.leave, b⟩
    | ret v => obtain ⟨u, m', n', i, a, b⟩ := q; exact ⟨u, n', i, a.leave, b⟩
    | _ => exact q.elim
  · exact wpAny_mono (wp_leaving H' rfl (Around.frames_deeper hl) q) (fun _ s'' q' => q'.leave) fun _ _ q' => q'.elim
end
local macro_rules | `(tactic| wtm_at "go1") => mac_go [("Ev", "ev_dict0/a3 ev_list0/a3")]
local macro_rules | `(tactic| wtm_at "go1") => `(tactic| first
  | ((guard_target = Ev _ _ _ _ (eval (.Dict [] [] _) _) (fun _ _ => Ev _ _ _ _ _ (fun _ _ => SA _ _ _ _ _ "open" _ _ _) _) _); with_reducible refine ev_dict1 (by assumption) (fun _ _ _ => ?_))
  | (with_reducible refine sa_st (by assumption) (Nat.le_of_ble_eq_true (by with_unfolding_all rfl)) (by kernel_rfl) (fun _ _ => ?_))
  | fail)
local macro_rules | `(tactic| wtm_at "go1") => mac_go [("Ex.Assign.3", "ex_setattr/?r")]
section
variable {prog : Program} [ProgOk prog] {c : Cx} {n : Led} {X : Str → Led → Prop} {Q : V → Led → Prop}
theorem fn_init {x dx : Addr} {v1 v2 v3 v4 v5 : V} (hlv : 4 < c.lv) (hx : n x = some (.inst 215 dx)) (hd : n dx = some (.sd [] 0))
    (h : ∀ n' a, Rep n' a ⟨[], [], []⟩ → a.wa = x → Keeps [dx] n n' → (∀ b ∈ foot a ⟨[], [], []⟩, b = dx ∨ n b = none) → Q .none n') : Fn prog c n (.ref 212) [.ref x, v1, v2, v3, v4, v5] Q X := by
  refine fn_bodyD (by rfl) (by kernel_rfl) (Nat.zero_lt_of_lt hlv) (fun vals hv s XK => ?_) (by decide) (by decide) (fun c' I => ?_)
  · repeat' (rcases hv with _ | ⟨_, hv⟩)
    exact BindsTo.of_defaults (T := 205) rfl (XK 205 _ (by rfl)) rfl rfl rfl
  simp only [List.map_cons, List.map_nil, List.zip_cons_cons, List.zip_nil_left]
  have S0 : ST n x dx [] [] n := ⟨hx, ⟨_, _, hd, Nat.le_refl _, fun k v q => by cases q⟩, Keeps.refl _ _, (fun p hp => nomatch hp), List.nodup_nil⟩
  wtm_at "go"
  obtain ⟨a, r1, r2, r3, r4⟩ := (by assumption : ST n x dx (("common", _) :: _) _ _).done (by rfl) (by rfl) (by rfl) (.cons _ (.cons _ (.cons _ (.cons_cons _ (.cons_cons _ (.cons_cons _ (List.nil_sublist _)))))))
  exact h _ a r1 r2 r3 r4
end

-- part E3
set_option maxHeartbeats 2000000
section
variable {prog : Program} [ProgOk prog] {c : Cx} {n : Led} {X : Str → Led → Prop} {Q : V → Led → Prop}
theorem fn_world {v1 v2 v3 v4 v5 : V} (hlv : 8 < c.lv)
    (h : ∀ n' a, Rep n' a ⟨[], [], []⟩ → Keeps [] n n' → n a.wa = none → (∀ b ∈ foot a ⟨[], [], []⟩, n b = none) → Q (.ref a.wa) n') : Fn prog c n (.ref 215) [v1, v2, v3, v4, v5] Q X := fun m H s S vals hv => by
  obtain ⟨hh, g, d, tk, os⟩ := s
  have XK : (KK c.w).In hh := fun a o e => S.keep _ _ (H.X a o e)
  refine make_core (makes_of (K := KK c.w) XK (by kernel_rfl)) (looks_findIn XK (show findIn (KK c.w) (.ref 215) "__init__" = some (some (.ref 212)) by kernel_rfl)) (fun self => bind_fn XK self (by kernel_rfl)) (.inl rfl) ?_
  obtain ⟨d0, S1⟩ := S.new (tk := tk) (o := .sd [] 0) (a := hh.objs.size) (fun b o e => Heap.get?_push_of_some emptyDict e) (Nat.le_refl _) (Heap.get?_push_size _ rfl)
    ⟨[], ⟨#[], ⟨rfl, rfl, rfl⟩, rfl, (fun _ he => by simp at he), Pairs.nil, List.nodup_nil⟩, .nil⟩
  obtain ⟨x0, S2⟩ := S1.new (tk := tk) (o := .inst 215 hh.objs.size) (a := (hh.push emptyDict).objs.size) (fun b o e => Heap.get?_push_of_some (instObj 215 hh.objs.size) e) (Nat.le_refl _) (Heap.get?_push_size _ rfl) ⟨rfl, rfl, rfl⟩
  rw [Heap.size_push] at x0 S2
  have hw : (Code.builtin "type.__call__" ⟨.ref 215 :: vals, []⟩).weight = 1 := by kernel_rfl
  have hcu : (Code.builtin "type.__call__" ⟨.ref 215 :: vals, []⟩).cUnits = 1 := by kernel_rfl
  have hce : (Code.builtin "type.__call__" ⟨.ref 215 :: vals, []⟩).envs = [] := by rfl
  let c1 : Cx := ⟨c.w, c.s₀, c.base, c.A.under (Code.builtin "type.__call__" ⟨.ref 215 :: vals, []⟩), c.env, c.outs, c.lv - 1⟩
  have hdp := H.dp
  have hun := H.un
  have H1 : COk c1 := { H with
    dp := by show c.A.depth + _ + (c.lv - 1) ≤ 900; rw [hw]; lia
    un := by show c.A.units + _ + 10 * (c.lv - 1) ≤ 9000; rw [hcu]; lia
    fr := by
      obtain ⟨l, hl, hfr⟩ := H.fr
      refine ⟨l, ?_, hfr⟩
      have e : c1.A.frames = pushEnvs (Code.builtin "type.__call__" ⟨.ref 215 :: vals, []⟩).envs c.A.frames := rfl
      rw [e, hce]; exact hl }
  have S3 : Sit prog c1 m _ _ := { S2 with }
  have xd : hh.objs.size + 1 ≠ hh.objs.size := Nat.succ_ne_self _
  refine codeAny_mono (fn_init (prog := prog) (c := c1) (X := X) (Q := fun v n' => v = .none ∧ Q (.ref (hh.objs.size + 1)) n') (v1 := v1) (v2 := v2) (v3 := v3) (v4 := v4) (v5 := v5) (by show 4 < c.lv - 1; lia) (Led.set_self _ _ _) ((Led.set_ne _ _ (Ne.symm xd)).trans (Led.set_self _ _ _)) (fun n' a R e hk hf => ⟨rfl, ?_⟩) m H1 _ S3 _ (.cons (.ref _) hv)) fun r s' q => ?_
  · have kn : ∀ b, ((n.set hh.objs.size (.sd [] 0)).set (hh.objs.size + 1) (.inst 215 hh.objs.size)) b = none → n b = none := fun b q => by
      by_cases e1 : b = hh.objs.size + 1
      · rw [e1, Led.set_self] at q; cases q
      · rw [Led.set_ne _ _ e1] at q
        by_cases e2 : b = hh.objs.size
        · rw [e2, Led.set_self] at q; cases q
        · rw [Led.set_ne _ _ e2] at q; exact q
    have hx0 : n (hh.objs.size + 1) = none := by rw [← Led.set_ne n (.sd [] 0) xd]; exact x0
    have := h n' a R ?_ (by rw [e]; exact hx0) fun b hb => ?_
    · rw [e] at this; exact this
    · intro b hb _
      have b1 : b ≠ hh.objs.size + 1 := fun q => hb (by rw [q]; exact hx0)
      have b2 : b ≠ hh.objs.size := fun q => hb (by rw [q]; exact d0)
      have e3 : ((n.set hh.objs.size (.sd [] 0)).set (hh.objs.size + 1) (.inst 215 hh.objs.size)) b = n b := by rw [Led.set_ne _ _ b1, Led.set_ne _ _ b2]
      rw [← e3]
      exact hk b (by rw [e3]; exact hb) (by simpa using b2)
    · rcases hf b hb with rfl | q
      · exact d0
      · exact kn b q
  · match r, q with
    | .ok (.ret v), ⟨u, n', a, b, d, e⟩ =>
      subst d
      cases a
      exact ⟨rfl, _, n', .ref _, { b with }, e⟩
    | .error e, ⟨k, n', a, b, d⟩ => exact ⟨k, n', { a with }, ⟨b.ex⟩, d⟩
end

-- part E4
set_option maxHeartbeats 2000000
noncomputable def goodb (B : Nat) (W : WS) : Bool :=
  decide (W.files.length ≤ B) && decide (W.op.length ≤ B) && decide (W.fields.length ≤ B) && W.files.all (fun kv => decide (kv.2.length ≤ B)) &&
  W.op.all (fun kv => (aget W.files kv.2.name).isSome && decide (kv.2.buf.length ≤ B ∧ 0 ≤ kv.2.at_ ∧ kv.2.at_ ≤ B ∧ 0 ≤ kv.2.size ∧ kv.2.size ≤ 7 ∧ 0 ≤ kv.2.no ∧ kv.2.no ≤ 40000)) &&
  W.fields.all (fun kv => (aget W.op kv.2.ch).isSome && decide (0 ≤ kv.2.at_ ∧ kv.2.at_ ≤ 7 ∧ 0 ≤ kv.2.many ∧ kv.2.many ≤ 7))
theorem good_of {B : Nat} {W : WS} (h : goodb B W = true) : Good B W := by
  unfold goodb at h
  simp only [Bool.and_eq_true, decide_eq_true_eq, List.all_eq_true] at h
  obtain ⟨⟨⟨⟨⟨h1, h2⟩, h3⟩, h4⟩, h5⟩, h6⟩ := h
  refine ⟨h1, h2, h3, fun nm t e => h4 _ (aget_mem e), fun ch r e => ?_, fun nm p e => ?_⟩
  · obtain ⟨a, b⟩ := h5 _ (aget_mem e)
    exact ⟨Option.isSome_iff_exists.mp a, b⟩
  · obtain ⟨a, b⟩ := h6 _ (aget_mem e)
    exact ⟨Option.isSome_iff_exists.mp a, b⟩
noncomputable def rcAll : Rc := ⟨"R", "ALL", 0, 3, Txt.mul nul 3, 0⟩
noncomputable def beg0 : WS := ⟨[("ALL", "abcdefghijkl")], [], []⟩
noncomputable def beg1 : WS := ⟨[("ALL", "abcdefghijkl")], [(5, rcAll)], [("E$", ⟨5, 0, 3⟩)]⟩
noncomputable def begunW : WS := ⟨[("ALL", "abcdefghijkl")], [(5, rcAll), (6, rcAll)], [("E$", ⟨5, 0, 3⟩), ("F$", ⟨6, 0, 3⟩)]⟩
noncomputable def beg01 : WS := ⟨[("ALL", "abcdefghijkl")], [(5, rcAll)], []⟩
noncomputable def beg11 : WS := ⟨[("ALL", "abcdefghijkl")], [(5, rcAll), (6, rcAll)], [("E$", ⟨5, 0, 3⟩)]⟩
theorem b_open0 : openP beg0 "R" (5 + 0) "ALL" 3 = .ok beg01 := by rfl
theorem b_open1 : openP beg1 "R" (5 + 1) "ALL" 3 = .ok beg11 := by rfl
theorem b_set0 : setFieldsP beg01 (5 + 0) [(3, varEF 0)] = .ok beg1 := by rfl
theorem b_set1 : setFieldsP beg11 (5 + 1) [(3, varEF 1)] = .ok begunW := by rfl
theorem good0 : Good 50 beg0 := good_of (by decide +kernel)
theorem good01 : Good 50 beg01 := good_of (by decide +kernel)
theorem good1 : Good 50 beg1 := good_of (by decide +kernel)
theorem good11 : Good 50 beg11 := good_of (by decide +kernel)
theorem goodAll : GoodNm "ALL" := ⟨by decide, by decide, by decide⟩
/-- what is neither a table nor a list nor a cell stands still -/
noncomputable def Frz (n n' : Led) : Prop := ∀ x o, n x = some o → (∀ es ep, o ≠ .sd es ep) → (∀ es ep, o ≠ .idd es ep) → (∀ xs, o ≠ .list xs) → (∀ v, o ≠ .cell v) → n' x = some o
theorem Frz.trans {n n' n'' : Led} (h : Frz n n') (h' : Frz n' n'') : Frz n n'' := fun x o e a b c d => h' x o (h x o e a b c d) a b c d
theorem Keeps.frz {n n' : Led} (h : Keeps [] n n') : Frz n n' := fun x o e _ _ _ _ => h.at e
theorem Step.frz {n n' : Led} {a a' : Ads} {W W' : WS} (S : Step n a W n' a' W') (R : Rep n a W) : Frz n n' := fun x o e q1 q2 _ _ => S.keepO R e q1 q2
/-- an iterator that was not there at first has moved -/
noncomputable def Moves (n0 n n' : Led) : Prop := ∃ it cls vs, ItOf n it cls vs ∧ n0 it = none ∧ Keeps [it] n n'
theorem Rep.moves {n0 n n' : Led} {a : Ads} {W : WS} (R : Rep n a W) (h : Moves n0 n n') : Rep n' a W := let ⟨_, _, _, h1, _, h3⟩ := h; R.keepIt h1 h3
theorem Step.moves {n0 n n' : Led} {a a' : Ads} {W W' : WS} (S : Step n0 a W n a' W') (h : Moves n0 n n') : Step n0 a W n' a' W' := let ⟨_, _, _, h1, h2, h3⟩ := h; S.it h2 h1 h3
section
variable {prog : Program} {c : Cx} {m : Loc} {n : Led} {X : Str → Led → Prop} {N : Loc → Led → Prop} {R : V → Led → Prop}
theorem gi_World (w : World) : GlobalIs w "World" (.ref 215) := by show nsIn _ _ _ = _; kernel_rfl
theorem parts1 {n n1 : Led} {b t1 : Addr} {k1 : Int} {s1 : Str} (hb : n b = some (.list [.ref t1])) (h1 : n1 t1 = some (.tup [.int k1, .str s1])) (hk1 : Keeps [] n1 n) : PartsAt n b [(k1, s1)] := by
  refine ⟨[t1], hb, rfl, fun i t p e1 e2 => ?_⟩
  match i, e1, e2 with
  | 0, e1, e2 => cases e1; cases e2; exact hk1.at h1
/-- a class of the text's, by its name -/
theorem ev_callC {Q : V → Led → Prop} {X : Str → Led → Prop} {pos : Pos} {x : Str} {f : Addr} {np : Pos} {e : Expr} {args : List Expr} {sc : Scope} (hs : c.env.scope = sc) (hk : sc.names.lookup x = some .globalImplicit) (g : GlobalIs c.w x (.ref f)) (hkp : keepIn (KK c.w) (.ref f) = true)
    (h : Es prog c m n (spliced (backTo pos (starEach (e :: args) c.env))) (fun us n' => Fn prog c n' (.ref f) us Q X) X)
    (he : starEach (e :: args) c.env = (false, eval e c.env) :: starEach args c.env := by with_unfolding_all rfl)
    (hp : (backTo pos (starEach args c.env)).any (·.1) = false := by with_unfolding_all rfl) (hd : (x == ("__debug__" : Str)) = false := by with_unfolding_all rfl) : Ev prog c m n (eval (.Call (.Name x np) (e :: args) [] pos) c.env) Q X := by
  show Wp prog c m n (eval (.Name x np) c.env >>= fun f => callWith pos f [] (backTo pos (starEach (e :: args) c.env)) (backToKw pos (keywordEach [] c.env))) _ X
  exact Wp.bind (wp_global hs hk g (fun H s S => callWith_K H.X hkp (wpAny_mono (h H s S) (fun vs s₁ ⟨n₁, S₁, us, hus, q⟩ => ⟨fun a o e => S₁.keep _ _ (H.X a o e), q.call hus H s₁ S₁⟩) fun _ _ x => x) he hp) hd)
theorem ex_for01 {x : Str} {xp p tp : Pos} {k0 k1 kt : Nat} {p0 p1 : Pos} {body : List Stmt} {sc : Scope} (hh : c.A.handled = none) (hs : c.env.scope = sc) (hk : sc.names.lookup x = some .local) (P : Nat → Loc → Led → Prop)
    (h0 : ∀ n', Keeps [] n n' → P 0 m n') (hm : ∀ i m1 n1 n2, P i m1 n1 → Moves n n1 n2 → P i m1 n2)
    (hb : ∀ i : Nat, i < 2 → ∀ m1 n1, P i m1 n1 → Ex prog c ((x, .int i) :: m1) n1 (execs body c.env) (fun m3 n3 => Frz n1 n3 ∧ ∃ m4, LSub m4 m3 ∧ P (i + 1) m4 n3) R NoX)
    (he : ∀ m1 n1, P 2 m1 n1 → N m1 n1) :
    Ex prog c m n (exec (.For (.Name x xp) (.Tuple [.Constant (.int 0) k0 p0, .Constant (.int 1) k1 p1] kt tp) body [] p) c.env) N R X := by
  refine ex_for 2 (fun it i m' n' => i ≤ 2 ∧ P i m' n' ∧ n it = none ∧ ∃ t, n' t = some (.tup [.int 0, .int 1]) ∧ ItOf n' it "tuple_iterator" #[.ref t, .int i 0]) ?_ ?_
  · refine ev_tuple (es_cons (ev_int (es_cons (ev_int (es_nil ⟨by rw [szl]; show 2 ≤ _; decide, fun t ht => ?_⟩)))))
    refine it_tup (Led.set_self _ _ _) fun it n2 hn hk2 hit => ?_
    have hk1 : Keeps [] n (n.set t (.tup [.int 0, .int 1])) := keeps_new ht
    have hni : n it = none := by
      cases q : n it with
      | none => rfl
      | some o =>
        have := hk1 it (by rw [q]; exact Option.some_ne_none _) List.not_mem_nil
        rw [hn, q] at this; cases this
    exact ⟨by decide, h0 _ (hk1.trans hk2), hni, t, (hk2 t (by rw [Led.set_self]; exact Option.some_ne_none _) List.not_mem_nil).trans (Led.set_self _ _ _), hit⟩
  · intro it i m' n' ⟨hi, hP, hn0, t, ht, hit⟩
    refine ⟨hi, nx_tup hh hit ht (fun u n3 hu hk3 hit' => ?_) fun n3 hu hk3 => ?_⟩
    · have ht3 : n3 t = some (.tup [.int 0, .int 1]) := (hk3 _ (by rw [ht]; exact Option.some_ne_none _) (by simpa using hit.ne ht fun _ q => nomatch q)).trans ht
      have hP3 := hm i m' n' n3 hP ⟨it, _, _, hit, hn0, hk3⟩
      have hi2 : i < 2 := (List.getElem?_eq_some_iff.mp hu).1
      have eu : u = .int i := by
        rcases (by lia : i = 0 ∨ i = 1) with rfl | rfl <;> (cases hu; rfl)
      subst eu
      refine asg_name hs hk (Ex.mono (hb i hi2 m' n3 hP3) (fun m4 n4 ⟨hf, m5, hl, hP5⟩ => ⟨m5, hl, by lia, hP5, hn0, t, hf _ _ ht3 (fun _ _ q => nomatch q) (fun _ _ q => nomatch q) (fun _ q => nomatch q) (fun _ q => nomatch q), ?_⟩) (fun _ _ q => q) fun _ _ q => q)
      obtain ⟨o, ho, r⟩ := hit'
      exact ⟨o, hf _ _ ho (fun _ _ q => nomatch q) (fun _ _ q => nomatch q) (fun _ q => nomatch q) (fun _ q => nomatch q), r⟩
    · have hi2 : i = 2 := by
        rw [List.getElem?_eq_none_iff] at hu
        have : 2 ≤ i := hu
        lia
      subst hi2
      exact he m' n3 (hm 2 m' n' n3 hP ⟨it, _, _, hit, hn0, hk3⟩)
end
section
variable {prog : Program} [ProgOk prog] {c : Cx} {n : Led} {X : Str → Led → Prop} {Q : V → Led → Prop}
theorem fn_law_begun (hlv : 20 < c.lv) (hh : c.A.handled = none)
    (h : ∀ n' a, Rep n' a begunW → Keeps [] n n' → n a.wa = none → (∀ b ∈ foot a begunW, n b = none) → Q (.ref a.wa) n') : Fn prog c n (.ref 233) [] Q X := by
  wtm_at "enter"
  have I := ‹InFn _ _ _ _›
  have hh' := I.hd.trans hh
  wtm_at "go"
  refine ev_callC I.scope (by rfl) (gi_World _) (by kernel_rfl) ?_
  wtm_at "go"
  refine fn_world (by wtm_at "side") fun n1 a R1 hk1 hw1 hf1 => ?_
  refine ex_seq (fun m' n' => m' = ([("world", .ref a.wa)] : Loc) ∧ Step n1 a ⟨[], [], []⟩ n' a beg0) ?_ ?_
  · wtm_at "go"
    all_goals first
      | exact Nat.zero_le _
      | exact ⟨rfl, by assumption⟩
      | fail
  rintro _ n2 ⟨rfl, S2⟩
  refine ex_cons ?_
  refine ex_for01 hh' I.scope (by rfl) (fun i m' n' => m' = ([("world", .ref a.wa)] : Loc) ∧ ∃ a', a'.wa = a.wa ∧ Step n2 a beg0 n' a' (match i with | 0 => beg0 | 1 => beg1 | _ => begunW)) ?_ ?_ ?_ ?_
  · exact fun n' hk => ⟨rfl, a, rfl, S2.rep.stepGrow hk⟩
  · rintro i m1 n3 n4 ⟨rfl, a', ha, S⟩ hm
    exact ⟨rfl, a', ha, S.moves hm⟩
  · rintro i hi m1 n3 ⟨rfl, a', ha, S3⟩
    have R3 := S3.rep
    rw [← ha]
    rcases (by lia : i = 0 ∨ i = 1) with rfl | rfl
    · replace S3 : Step n2 a beg0 n3 a' beg0 := S3
      replace R3 : Rep n3 a' beg0 := R3
      show Ex _ _ ([("row", .int 0), ("world", .ref a'.wa)] : Loc) _ _ _ _ _
      wtm_at "go"
      refine fn_open_file (B := 50) (by wtm_at "side") (by wtm_at "side") R3 good0 (by decide) goodAll (by decide) (by decide) (fun n4 a4 W4 R4 S4 e => ?_) (fun k n' R' S' e => ?_)
      · rw [b_open0] at e
        cases e
        rw [← S4.wa]
        wtm_at "go"
        all_goals first
          | decide
          | (rw [szl]; decide)
          | exact short _ (by decide)
          | exact short _ (by show 1 ≤ 16; decide)
          | skip
        refine fn_set_fields (ps := [(3, varEF 0)]) (by wtm_at "side") (by wtm_at "side") (by assumption) good01 (by decide) (parts1 (by assumption) (by assumption) (by wtm_at "grown")) (by decide) (by decide) (fun n5 a5 W5 R5 S5 e => ?_) (fun k n' R' S' e => ?_)
        · rw [b_set0] at e
          cases e
          wtm_at "go"
          have S6 : Step n3 a' beg0 n5 a5 beg1 := S4.trans (Step.trans (by wtm_at "chain") S5)
          exact ⟨S6.frz R3, [("world", .ref a4.wa)], by wtm_at "lsub", rfl, a5, S6.wa.trans S4.wa.symm, S3.trans S6⟩
        · rw [b_set0] at e
          cases e
      · rw [b_open0] at e
        cases e
    · replace S3 : Step n2 a beg0 n3 a' beg1 := S3
      replace R3 : Rep n3 a' beg1 := R3
      show Ex _ _ ([("row", .int 1), ("world", .ref a'.wa)] : Loc) _ _ _ _ _
      wtm_at "go"
      refine fn_open_file (B := 50) (by wtm_at "side") (by wtm_at "side") R3 good1 (by decide) goodAll (by decide) (by decide) (fun n4 a4 W4 R4 S4 e => ?_) (fun k n' R' S' e => ?_)
      · rw [b_open1] at e
        cases e
        rw [← S4.wa]
        wtm_at "go"
        all_goals first
          | decide
          | (rw [szl]; decide)
          | exact short _ (by decide)
          | exact short _ (by show 1 ≤ 16; decide)
          | skip
        refine fn_set_fields (ps := [(3, varEF 1)]) (by wtm_at "side") (by wtm_at "side") (by assumption) good11 (by decide) (parts1 (by assumption) (by assumption) (by wtm_at "grown")) (by decide) (by decide) (fun n5 a5 W5 R5 S5 e => ?_) (fun k n' R' S' e => ?_)
        · rw [b_set1] at e
          cases e
          wtm_at "go"
          have S6 : Step n3 a' beg1 n5 a5 begunW := S4.trans (Step.trans (by wtm_at "chain") S5)
          exact ⟨S6.frz R3, [("world", .ref a4.wa)], by wtm_at "lsub", rfl, a5, S6.wa.trans S4.wa.symm, S3.trans S6⟩
        · rw [b_set1] at e
          cases e
      · rw [b_open1] at e
        cases e
  · rintro m1 n3 ⟨rfl, a', ha, S3⟩
    have S4 : Step n2 a beg0 n3 a' begunW := S3
    have R3 := S4.rep
    rw [← ha]
    wtm_at "go"
    have S12 := S2.trans S4
    have back : ∀ b, n1 b = none → n b = none := fun b q => by
      cases e : n b with
      | none => rfl
      | some o => have := hk1 b (by rw [e]; exact Option.some_ne_none _) List.not_mem_nil; rw [q, e] at this; cases this
    refine h n3 a' R3 (fun b hb _ => ?_) (by rw [ha]; exact hw1) fun b hb => ?_
    · have e := hk1 b hb (fun q => nomatch q)
      exact (S12.keeps b (by rw [e]; exact hb) fun q => hb (hf1 b q)).trans e
    · rcases S12.new b hb with q | q
      · exact hf1 b q
      · exact back b q
end

-- part P6
set_option maxHeartbeats 2000000
noncomputable abbrev Deed := Int × Int × Int × Int
structure Rng (d : Deed) : Prop where
  row : R01 d.1
  f0 : 0 ≤ d.2.1
  f1 : d.2.1 ≤ 13
  n0 : 0 ≤ d.2.2.1
  n1 : d.2.2.1 ≤ 3
  o0 : 0 ≤ d.2.2.2
  o1 : d.2.2.2 ≤ 5
theorem isCh_chan {r one : Int} : isCh r (chanAt r one) := by
  have h1 := Int.fmod_nonneg_of_pos one (b := 2) (by decide)
  have h2 := Int.fmod_lt_of_pos one (b := 2) (by decide)
  unfold isCh chanAt; lia
theorem isNm_name {r k : Int} : isNm r (nameAt r k) := by
  have h1 := Int.fmod_nonneg_of_pos k (b := 2) (by decide)
  have h2 := Int.fmod_lt_of_pos k (b := 2) (by decide)
  unfold isNm nameAt
  rcases (by lia : k.fmod 2 = 0 ∨ k.fmod 2 = 1) with e | e <;> rw [e]
  · exact .inl rfl
  · exact .inr rfl
theorem isVar_at {r k : Int} (h0 : 0 ≤ k) (h1 : k < 2) : isVar r (varAt r k) := by
  rcases (by lia : k = 0 ∨ k = 1) with rfl | rfl
  · exact .inl rfl
  · exact .inr rfl
theorem deed_ok {B : Nat} {r form one other : Int} (h : Rng (r, form, one, other)) : DeedOk r B fun W => deedP W r form one other := by
  obtain ⟨hr, f0, f1, n0, n1, o0, o1⟩ := h
  dsimp only at hr f0 f1 n0 n1 o0 o1
  have m1 := Int.fmod_nonneg_of_pos one (b := 2) (by decide)
  have m2 := Int.fmod_lt_of_pos one (b := 2) (by decide)
  have tl := textAt_len other
  have tl2 : (textAt other ++ "\n").length ≤ 10 := by rw [len_append]; show (textAt other).length + 1 ≤ 10; lia
  have d0 : 0 ≤ one.fdiv 2 ∧ one.fdiv 2 ≤ 7 := by
    rcases (by lia : one = 0 ∨ one = 1 ∨ one = 2 ∨ one = 3) with rfl | rfl | rfl | rfl <;> decide
  unfold deedP
  by_cases q : form < 2
  · simp only [if_pos q]; exact deed_open hr isCh_chan isNm_name (by lia) (by lia)
  simp only [if_neg q]
  by_cases q : form = 2
  · simp only [if_pos q]; exact deed_write hr isCh_chan tl2
  simp only [if_neg q]
  by_cases q : form = 3
  · simp only [if_pos q]; exact deed_write hr isCh_chan (by lia)
  simp only [if_neg q]
  by_cases q : form = 4
  · simp only [if_pos q]; exact deed_readRow hr isCh_chan
  simp only [if_neg q]
  by_cases q : form = 5
  · simp only [if_pos q]; exact deed_readSigns hr isCh_chan o0
  simp only [if_neg q]
  by_cases q : form = 6
  · simp only [if_pos q]; exact deed_fields hr isCh_chan (.inl rfl) (.inr rfl) o0 (by lia) d0.1 d0.2
  simp only [if_neg q]
  by_cases q : form = 7
  · simp only [if_pos q]; exact deed_place hr (isVar_at m1 m2) (by lia)
  simp only [if_neg q]
  by_cases q : form = 8
  · simp only [if_pos q]; exact deed_get hr isCh_chan
  simp only [if_neg q]
  by_cases q : form = 9
  · simp only [if_pos q]; exact deed_put hr isCh_chan
  simp only [if_neg q]
  by_cases q : form = 10
  · simp only [if_pos q]; exact deed_asked hr isCh_chan (.inl rfl)
  simp only [if_neg q]
  by_cases q : form = 11
  · simp only [if_pos q]; exact deed_close hr isCh_chan
  simp only [if_neg q]
  by_cases q : form = 12
  · simp only [if_pos q]
    by_cases q : one < 3
    · simp only [if_pos q]; exact deed_kill hr isNm_name
    · simp only [if_neg q]; exact deed_rename hr isNm_name isNm_name
  simp only [if_neg q]
  exact deed_moved hr o0 o1

/-! ### runs -/
noncomputable def stepP (W : WS) (d : Deed) : Ans × WS := match deedP W d.1 d.2.1 d.2.2.1 d.2.2.2 with
  | .ok p => p
  | .error k => (.one (.str k), W)
noncomputable abbrev RS := WS × List Ans × List Ans
noncomputable def stp (s : RS) (d : Deed) : RS := ((stepP s.1 d).2, if d.1 = 0 then s.2.1 ++ [(stepP s.1 d).1] else s.2.1, if d.1 = 0 then s.2.2 else s.2.2 ++ [(stepP s.1 d).1])
noncomputable def runP (W : WS) (ds : List Deed) : RS := ds.foldl stp (W, [], [])

theorem step_own {B : Nat} {W : WS} {d : Deed} (h : Rng d) (I : Inv W) (G : Good B W) : Own d.1 W (stepP W d).2 ∧ Good (2 * B + 50) (stepP W d).2 := by
  unfold stepP
  cases e : deedP W d.1 d.2.1 d.2.2.1 d.2.2.2 with
  | error k => exact ⟨Own.refl I, G.mono (by lia)⟩
  | ok p => exact (deed_ok (B := B) h).own W I G p.1 p.2 e
theorem step_sim {B : Nat} {W A : WS} {d : Deed} (h : Rng d) (I : Inv W) (J : Inv A) (G : Good B W) (H : Good B A) (S : Sim d.1 W A) : (stepP W d).1 = (stepP A d).1 ∧ Sim d.1 (stepP W d).2 (stepP A d).2 := by
  unfold stepP
  rcases (deed_ok (B := B) h).sim W A I J G H S with ⟨k, e1, e2⟩ | ⟨a, W', A', e1, e2, S'⟩
  · rw [e1, e2]; exact ⟨rfl, S⟩
  · rw [e1, e2]; exact ⟨rfl, S'⟩

structure Rel (B : Nat) (s s0 s1 : RS) : Prop where
  i : Inv s.1
  i0 : Inv s0.1
  i1 : Inv s1.1
  g : Good B s.1
  g0 : Good B s0.1
  g1 : Good B s1.1
  m0 : Sim 0 s.1 s0.1
  m1 : Sim 1 s.1 s1.1
  a0 : s.2.1 = s0.2.1
  a1 : s.2.2 = s1.2.2
  k0 : Sim 1 begunW s0.1
  k1 : Sim 0 begunW s1.1
theorem rel_step {B : Nat} {s s0 s1 : RS} {d : Deed} (h : Rng d) (R : Rel B s s0 s1) : Rel (2 * B + 50) (stp s d) (if d.1 = 0 then stp s0 d else s0) (if d.1 = 0 then s1 else stp s1 d) := by
  obtain ⟨o, g⟩ := step_own h R.i R.g
  rcases h.row with q | q
  · rw [if_pos q, if_pos q]
    obtain ⟨o0, g0⟩ := step_own h R.i0 R.g0
    obtain ⟨e, m⟩ := step_sim h R.i R.i0 R.g R.g0 (q ▸ R.m0)
    rw [q] at m
    have w1 : R01 1 := .inr rfl
    have ne : (1 : Int) ≠ d.1 := by rw [q]; decide
    exact { i := o.inv, i0 := o0.inv, i1 := R.i1, g := g, g0 := g0, g1 := R.g1.mono (by lia), m0 := m, m1 := (o.sim 1 w1 ne).symm.trans R.m1
            a0 := by unfold stp; dsimp only; rw [if_pos q, if_pos q, R.a0, e]
            a1 := by unfold stp; dsimp only; rw [if_pos q]; exact R.a1
            k0 := R.k0.trans (o0.sim 1 w1 ne)
            k1 := R.k1 }
  · have q0 : ¬ d.1 = 0 := by rw [q]; decide
    rw [if_neg q0, if_neg q0]
    obtain ⟨o1, g1⟩ := step_own h R.i1 R.g1
    obtain ⟨e, m⟩ := step_sim h R.i R.i1 R.g R.g1 (q ▸ R.m1)
    rw [q] at m
    have w0 : R01 0 := .inl rfl
    have ne : (0 : Int) ≠ d.1 := by rw [q]; decide
    exact { i := o.inv, i0 := R.i0, i1 := o1.inv, g := g, g0 := R.g0.mono (by lia), g1 := g1, m0 := (o.sim 0 w0 ne).symm.trans R.m0, m1 := m
            a0 := by unfold stp; dsimp only; rw [if_neg q0]; exact R.a0
            a1 := by unfold stp; dsimp only; rw [if_neg q0, if_neg q0, R.a1, e]
            k0 := R.k0
            k1 := R.k1.trans (o1.sim 0 w0 ne) }
theorem rel_run : ∀ {ds : List Deed} {B : Nat} {s s0 s1 : RS}, (∀ d ∈ ds, Rng d) → Rel B s s0 s1 → ∃ B', B' + 50 = (B + 50) * 2 ^ ds.length ∧
    Rel B' (ds.foldl stp s) ((ds.filter fun d => decide (d.1 = 0)).foldl stp s0) ((ds.filter fun d => decide (d.1 = 1)).foldl stp s1)
  | [], B, s, s0, s1, _, R => ⟨B, by simp, R⟩
  | d :: ds, B, s, s0, s1, h, R => by
    have R' := rel_step (h d (.head _)) R
    obtain ⟨B', e, R''⟩ := rel_run (fun d hd => h d (.tail _ hd)) R'
    refine ⟨B', ?_, ?_⟩
    · rw [e, List.length_cons, Nat.pow_succ, show 2 * B + 50 + 50 = (B + 50) * 2 by lia, Nat.mul_assoc, Nat.mul_comm 2]
    · rcases (h d (.head _)).row with q | q
      · rw [if_pos q, if_pos q] at R''
        rw [List.foldl_cons, List.filter_cons, if_pos (by simpa using q), List.foldl_cons, List.filter_cons, if_neg (by rw [q]; decide)]
        exact R''
      · have q0 : ¬ d.1 = 0 := by rw [q]; decide
        rw [if_neg q0, if_neg q0] at R''
        rw [List.foldl_cons, List.filter_cons, if_neg (by rw [q]; decide), List.filter_cons, if_pos (by simpa using q), List.foldl_cons]
        exact R''
theorem goodB : Good 50 begunW := good_of (by decide +kernel)
theorem invB : Inv begunW where
  no := by decide
  ni := by decide +kernel
  all := ⟨"abcdefghijkl", by rfl, by decide +kernel⟩
  ch := fun r hr => by rcases hr with rfl | rfl <;> exact ⟨rcAll, by rfl, rfl, rfl, rfl, by decide +kernel⟩
  ef := fun r hr => by rcases hr with rfl | rfl <;> rfl
  fk := fun k t h => by
    have := aget_mem h
    replace this : (k, t) ∈ [(("ALL" : Str), ("abcdefghijkl" : Str))] := this
    simp only [List.mem_cons, List.not_mem_nil, or_false, Prod.mk.injEq] at this
    exact .inl this.1
  ok := fun k rc h => by
    have := aget_mem h
    replace this : (k, rc) ∈ [((5 : Int), rcAll), (6, rcAll)] := this
    simp only [List.mem_cons, List.not_mem_nil, or_false, Prod.mk.injEq] at this
    rcases this with ⟨rfl, _⟩ | ⟨rfl, _⟩
    · exact .inl ⟨0, .inl rfl, by decide⟩
    · exact .inl ⟨1, .inr rfl, by decide⟩
  ik := fun k p h => by
    have := aget_mem h
    replace this : (k, p) ∈ [(("E$" : Str), (⟨5, 0, 3⟩ : Pt3)), ("F$", ⟨6, 0, 3⟩)] := this
    simp only [List.mem_cons, List.not_mem_nil, or_false, Prod.mk.injEq] at this
    rcases this with ⟨rfl, _⟩ | ⟨rfl, _⟩
    · exact .inl ⟨0, .inl rfl, ef0.symm⟩
    · exact .inl ⟨1, .inr rfl, ef1.symm⟩
theorem rel_begun {ds : List Deed} (h : ∀ d ∈ ds, Rng d) (hl : ds.length ≤ 14) : ∃ B, B ≤ BM ∧ Rel B (runP begunW ds) (runP begunW (ds.filter fun d => decide (d.1 = 0))) (runP begunW (ds.filter fun d => decide (d.1 = 1))) := by
  have w0 := Sim.refl 0 begunW
  have w1 := Sim.refl 1 begunW
  obtain ⟨B, e, R⟩ := rel_run (B := 50) (s := (begunW, [], [])) (s0 := (begunW, [], [])) (s1 := (begunW, [], [])) h ⟨invB, invB, invB, goodB, goodB, goodB, w0, w1, rfl, rfl, w1, w0⟩
  refine ⟨B, ?_, R⟩
  have h2 : 2 ^ ds.length ≤ 2 ^ 14 := Nat.pow_le_pow_right (by decide) hl
  have : (2 : Nat) ^ 14 = 16384 := by decide
  have hb : BM = 4000000 := rfl
  lia
theorem nodup_len {α : Type} [DecidableEq α] : ∀ {l m : List α}, l.Nodup → (∀ x ∈ l, x ∈ m) → l.length ≤ m.length
  | [], _, _, _ => Nat.zero_le _
  | x :: l, m, hn, h => by
    rw [List.nodup_cons] at hn
    have hx := h x (.head _)
    have := nodup_len (l := l) (m := m.erase x) hn.2 fun y hy => by
      have ne : y ≠ x := fun q => hn.1 (q ▸ hy)
      exact (List.mem_erase_of_ne ne).mpr (h y (.tail _ hy))
    rw [List.length_erase_of_mem hx] at this
    have : 0 < m.length := List.length_pos_of_mem hx
    rw [List.length_cons]; lia
theorem Inv.few {W : WS} (I : Inv W) : W.fields.length < 64 := by
  have := nodup_len (l := W.fields.map (·.1)) (m := [varEF 0, varEF 1, varAt 0 0, varAt 0 1, varAt 1 0, varAt 1 1]) I.ni fun x hx => by
    obtain ⟨kv, hkv, rfl⟩ := List.mem_map.mp hx
    rcases I.ik kv.1 kv.2 (aget_of_mem I.ni hkv) with ⟨r, hr, e⟩ | ⟨r, hr, e, _⟩
    · rw [e]; rcases hr with rfl | rfl <;> simp
    · rcases hr with rfl | rfl <;> rcases e with e | e <;> rw [e] <;> simp
  rw [List.length_map] at this
  have : W.fields.length ≤ 6 := this
  lia
theorem good_getP {B : Nat} {W W' : WS} {ch : Int} {num : Option Int} (G : Good B W) (h : getP W ch num = .ok W') : Good (2 * B + 50) W' := by
  unfold getP at h
  cases e : chOf W ch ["R"] with
  | error k => rw [e] at h; cases h
  | ok rc =>
    rw [e] at h
    simp only [bind, Except.bind, pure, Except.pure] at h
    cases hk : toldP rc num with
    | error k => rw [hk] at h; cases h
    | ok k =>
      rw [hk] at h
      dsimp only at h
      split at h
      · cases h
      · cases h
        obtain ⟨k0, k1⟩ := told_ok hk
        obtain ⟨u, F⟩ := G.found (chOf_ok e).1
        have f0 := F.tl; have f1 := F.bl; have f2 := F.a0; have f3 := F.a1; have f4 := F.s0; have f5 := F.s1; have f6 := F.n0; have f7 := F.n1
        refine good_setR G (by lia) ⟨_, F.file⟩ ?_ ⟨f2, by dsimp only; lia, f4, f5, by dsimp only; lia, by dsimp only; lia⟩
        refine Nat.le_trans (sl_len _ _ _) ?_
        rw [len_append, len_mul' nul1, F.txt]
        have := sl_len u (some ((k - 1) * rc.size)) (some ((k - 1) * rc.size + rc.size))
        lia

-- part P7
set_option maxHeartbeats 2000000
/-- what is left of the law when all deeds are done -/
structure Ends (W A0 A1 : WS) : Prop where
  i : Inv W
  i0 : Inv A0
  i1 : Inv A1
  m0 : Sim 0 W A0
  m1 : Sim 1 W A1
  k0 : Sim 1 begunW A0
  k1 : Sim 0 begunW A1
section
variable {W A0 A1 : WS}
theorem w0 : R01 0 := .inl rfl
theorem w1 : R01 1 := .inr rfl
theorem begun_files {r : Int} (hr : R01 r) {k : Str} (h : isNm r k) : aget begunW.files k = none := by
  rcases hr with rfl | rfl <;> (simp only [isNm, nm00, nm01, nm10, nm11] at h; rcases h with rfl | rfl <;> decide)
theorem begun_op {r : Int} (hr : R01 r) {k : Int} (h : isCh r k) : aget begunW.op k = none := by
  rcases hr with rfl | rfl <;> (unfold isCh at h; rcases h with rfl | rfl <;> decide)
theorem begun_fields {r : Int} (hr : R01 r) {k : Str} (h : isVar r k) : aget begunW.fields k = none := by
  rcases hr with rfl | rfl <;> (simp only [isVar, va00, va01, va10, va11] at h; rcases h with rfl | rfl <;> decide)
theorem Ends.all (E : Ends W A0 A1) : txt W "ALL" = Txt.slice (txt A0 "ALL") none (some 6) ++ Txt.slice (txt A1 "ALL") (some 6) none := by
  have h0 := E.m0.h
  have h1 := E.m1.h
  obtain ⟨l, hl⟩ := str_list (txt W "ALL")
  have hlen : l.length = 12 := by
    have := txt12 E.i
    rw [hl] at this
    exact this
  unfold half at h0 h1
  rw [if_pos rfl, if_pos rfl] at h0
  rw [if_neg (by decide), if_neg (by decide)] at h1
  rw [← h0, ← h1, hl]
  have e0 : Txt.slice ⟨l.toArray⟩ none (some 6) = ⟨(l.take 6).toArray⟩ := slice_to 6 (by lia)
  have e1 : Txt.slice ⟨l.toArray⟩ (some 6) none = ⟨(l.drop 6).toArray⟩ := slice_from 6 (by lia)
  rw [e0, e1, app_eq, List.take_append_drop]
theorem Ends.files (E : Ends W A0 A1) {k : Str} (hk : k ≠ "ALL") : aget W.files k = (aget A1.files k).or (aget A0.files k) := by
  by_cases q0 : isNm 0 k
  · rw [← E.k1.f k q0, begun_files w0 q0, E.m0.f k q0]; rfl
  by_cases q1 : isNm 1 k
  · rw [← E.k0.f k q1, begun_files w1 q1, E.m1.f k q1]; simp
  have no : ∀ {X : WS}, Inv X → aget X.files k = none := fun {X} I => by
    cases e : aget X.files k with
    | none => rfl
    | some t =>
      rcases I.fk k t e with h | ⟨r, hr, h⟩
      · exact absurd h hk
      · rcases hr with rfl | rfl
        · exact absurd h q0
        · exact absurd h q1
  rw [no E.i, no E.i0, no E.i1]; rfl
theorem Ends.op (E : Ends W A0 A1) (k : Int) : aget W.op k = (aget (closeP A1 5).op k).or (aget (closeP A0 6).op k) := by
  show _ = (aget (adel A1.op 5) k).or (aget (adel A0.op 6) k)
  rw [aget_adel, aget_adel]
  by_cases q5 : k = 5
  · subst q5
    rw [if_pos rfl, if_neg (by decide), E.m0.o 5 (.inr (by decide))]; rfl
  by_cases q6 : k = 6
  · subst q6
    rw [if_neg (by decide), if_pos rfl, E.m1.o 6 (.inr (by decide))]; simp
  rw [if_neg (Ne.symm q5), if_neg (Ne.symm q6)]
  by_cases q0 : isCh 0 k
  · rw [← E.k1.o k (.inl q0), begun_op w0 q0, E.m0.o k (.inl q0)]; rfl
  by_cases q1 : isCh 1 k
  · rw [← E.k0.o k (.inl q1), begun_op w1 q1, E.m1.o k (.inl q1)]; simp
  have no : ∀ {X : WS}, Inv X → aget X.op k = none := fun {X} I => by
    cases e : aget X.op k with
    | none => rfl
    | some t =>
      rcases I.ok k t e with ⟨r, hr, h⟩ | ⟨r, hr, h, _⟩
      · rcases hr with rfl | rfl
        · exact absurd h q5
        · exact absurd h q6
      · rcases hr with rfl | rfl
        · exact absurd h q0
        · exact absurd h q1
  rw [no E.i, no E.i0, no E.i1]; rfl
theorem close_fields {X : WS} (I : Inv X) (c : Int) (k : Str) : aget (closeP X c).fields k = (aget X.fields k).filter fun p => decide (p.ch ≠ c) := by
  show aget (List.filter _ _) k = _
  rw [aget_filter I.ni]
theorem Ends.fields (E : Ends W A0 A1) (k : Str) : aget W.fields k = (aget (closeP A1 5).fields k).or (aget (closeP A0 6).fields k) := by
  rw [close_fields E.i1, close_fields E.i0]
  by_cases e0 : k = varEF 0
  · subst e0
    rw [E.i.ef 0 w0, E.i0.ef 0 w0, E.i1.ef 0 w0]; rfl
  by_cases e1 : k = varEF 1
  · subst e1
    rw [E.i.ef 1 w1, E.i0.ef 1 w1, E.i1.ef 1 w1]; rfl
  have no : ∀ {X : WS} {r r' : Int}, R01 r → R01 r' → r ≠ r' → Inv X → isVar r k → ∀ c, c = 5 + r' → (aget X.fields k).filter (fun p : Pt3 => decide (p.ch ≠ c)) = aget X.fields k := fun {X r r'} hr hr' hne I hv c hc => by
    cases e : aget X.fields k with
    | none => rfl
    | some p =>
      rcases I.ik k p e with ⟨r2, h2, q⟩ | ⟨r2, h2, hv2, hp⟩
      · exact absurd q (va_ef hr h2 hv)
      · have hpc := ch_five h2 hr' hp
        show (if decide (p.ch ≠ c) = true then some p else none) = some p
        rw [if_pos (by rw [hc]; simpa using hpc)]
  by_cases q0 : isVar 0 k
  · have n1 : aget A1.fields k = none := by rw [← E.k1.i k q0]; exact begun_fields w0 q0
    rw [n1, no w0 w1 (by decide) E.i0 q0 6 (by decide), E.m0.i k q0]; rfl
  by_cases q1 : isVar 1 k
  · have n0 : aget A0.fields k = none := by rw [← E.k0.i k q1]; exact begun_fields w1 q1
    rw [n0, no w1 w0 (by decide) E.i1 q1 5 (by decide), E.m1.i k q1]; simp
  have nn : ∀ {X : WS}, Inv X → aget X.fields k = none := fun {X} I => by
    cases e : aget X.fields k with
    | none => rfl
    | some t =>
      rcases I.ik k t e with ⟨r, hr, h⟩ | ⟨r, hr, h, _⟩
      · rcases hr with rfl | rfl
        · exact absurd h e0
        · exact absurd h e1
      · rcases hr with rfl | rfl
        · exact absurd h q0
        · exact absurd h q1
  rw [nn E.i, nn E.i0, nn E.i1]; rfl
end

-- part E5
set_option maxHeartbeats 2000000
section
variable {prog : Program} {w : World} {A : Around} {E : Value → Shared → Prop} {s : Shared} {K : Frag} {x C : Addr} {ox : Obj} {od : Option Obj} {name : Str} {expr : Bool} {Q : Value → Shared → Prop}
theorem exc_get {v : Value} (X : K.In s.heap) (I : InstAt s.heap x ox C od) (hga : findIn K (.ref C) "__getattribute__" = some (some (.builtin "BaseException.__getattribute__"))) (hgn : findIn K (.ref C) "__getattr__" = some none) (hsub : mroIn K C (.type "BaseException") = some true)
    (hf : findObj K C od name = some (.value v)) (hh : handedIn v = true) (h : Q v { s with toks := s.toks + 1 }) : wpAny (model prog w) A (getAttr (.ref x) name expr) Q E s := by
  obtain ⟨hp, g, d, t, os⟩ := s
  have L0 := I.type (M := model prog w)
  have L1 := looks_findIn (M := model prog w) X hga
  have L2 := looks_findIn (M := model prog w) X hgn
  have L3 := looks_find (M := model prog w) X I hf
  have L4 : Looks (model prog w) hp (isInstance (.ref x) (.type "BaseException")) true := I.type.andThen (looks_mroIn X hsub)
  have hk : builtinKind "BaseException.__getattribute__" = some .slot := by decide +kernel
  have hsp : splitId "BaseException.__getattribute__" = some ("BaseException", "__getattribute__") := by decide +kernel
  unfold getAttr getAttrBy
  refine wpAny_bind (wpAny_mkText (wpAny_holding (wpAny_bind (L0.at (wpAny_bind (L1.at ?_))))))
  show wpAny _ _ (if _ = true then _ else _) _ _ _
  rw [if_neg (by rw [show (Value.builtin "BaseException.__getattribute__" == Value.builtin "object.__getattribute__") = false by decide +kernel]; simp)]
  unfold getAttrByItsOwn hookBefore
  refine wpAny_bind ?_
  show wpAny _ _ (typeLookup _ _) _ _ _
  refine L2.at ?_
  refine wpAny_bind (wpAny_attempt (wpAny_holding ?_))
  unfold callGetattribute boundAndCalled
  rw [show (expr && onTheHeap (Value.builtin "BaseException.__getattribute__")) = false by cases expr <;> rfl]
  show wpAny _ _ (bindSpecial _ _ >>= _) _ _ _
  rw [PySem.F.attr_Exception.ga.bind (.ref x)]
  refine wpAny_bind (wpAny_pure (wpAny_call ?_))
  refine codeAny_call_builtin PySem.F.attr_Exception.ga.plain PySem.F.entry_bexc_ga (@check_slot (model prog w) _ _ _ "BaseException.__getattribute__" "BaseException" "__getattribute__" (.ref x) [.str name t] [] _ hk hsp L4 (PySem.F.args_bexc_ga _ _) ?_)
  unfold Builtin.«object.__getattribute__»
  refine wpAny_bind (wpAny_pure (wpAny_bind (wpAny_pure (wpAny_bind (L0.at (wpAny_bind (L3.at ?_)))))))
  refine wpAny_pure ?_
  show wpAny _ _ (handedOut v) _ _ _
  rw [handedOut_of hh]; exact wpAny_pure h
end
section
variable {prog : Program} {c : Cx} {m : Loc} {n : Led} {X : Str → Led → Prop}
theorem wp_flight {e : Value} {s : Shared} (H : COk c) (T : Thrown prog c m X e s) : wpAny (model prog c.w) c.A (setFlight e none) (fun _ s'' => Thrown prog c m X e s'') (fun _ _ => False) s := by
  obtain ⟨k, n, S, ⟨ea, oe, vs, d, od, kvs, ep, t, rfl, D⟩, hX⟩ := T
  unfold setFlight
  rcases D.htb with h1 | ⟨T, oT, ts, h1, hT, hdT, h3, hTe, hTb, hTn⟩
  · refine wpAny_bind (wpAny_field D.he D.hdat h1 ?_)
    rw [if_neg (by decide)]
    exact wpAny_pure ⟨k, n, S, ⟨ea, oe, vs, d, od, kvs, ep, t, rfl, D⟩, hX⟩
  · refine wpAny_bind (wpAny_field D.he D.hdat h1 ?_)
    rw [if_pos (show (Value.ref T != Value.none) = true from by simp)]
    have isF : ∀ {b : Addr} {o : Obj} {ws : Array Value}, s.heap.get? b = some o → o.data = .fields ws → b ∉ (c.env.locals :: c.outs.map (·.1)) := fun {b o ws} hb hw hm => by
      have : ∃ m', NsOk c.base b m' s.heap := by
        rcases List.mem_cons.mp hm with q | q
        · exact ⟨m, q ▸ S.loc⟩
        · obtain ⟨f, hf, q⟩ := List.mem_map.mp q
          exact ⟨f.2, q ▸ S.outs f hf⟩
      obtain ⟨m', _, mv, ⟨o', es, ep', ho', hd', _⟩, _⟩ := this
      rw [hb] at ho'; cases ho'; rw [hw] at hd'; cases hd'
    have other : ∀ b, b ≠ T → (s.heap.update T (Obj.mapFields (·.setIfInBounds 3 Value.none))).get? b = s.heap.get? b := fun b hb => Heap.get?_update_other _ _ (Ne.symm hb)
    have hTL : T ∉ (c.env.locals :: c.outs.map (·.1)) := isF hT hdT
    have h3' : 3 < ts.size := (Array.getElem?_eq_some_iff.mp h3).1
    refine wpAny_setField hT hdT h3' ?_
    have hdT' := Obj.data_mapFields hdT (·.setIfInBounds 3 Value.none)
    have S₁ : Sit prog c m n { s with heap := s.heap.update T (Obj.mapFields (·.setIfInBounds 3 Value.none)) } := S.turn (fun b => b = T) (fun b q => q ▸ ⟨hTb, hTn, hTL⟩) (fun b o hb hn _ => (other b hn).trans hb)
      (fun b o hb hm => ⟨o.slots, (other b fun q => hTL (q ▸ hm)).trans hb⟩)
    refine ⟨k, n, S₁, ⟨ea, oe, vs, d, od, kvs, ep, t, rfl, { D with he := (other ea (Ne.symm hTe)).trans D.he, hd := (other d fun q => ?_).trans D.hd, htb := .inr ⟨T, _, _, h1, Heap.get?_update_self _ hT (Obj.isFreed_of_fields hdT'), hdT', by simp [h3'], hTe, hTb, hTn⟩ }⟩, hX⟩
    obtain ⟨es, _, hde, _⟩ := D.hdi
    have hd := D.hd
    rw [q, hT] at hd; cases hd
    rw [hdT] at hde; cases hde
end

-- part E6
set_option maxHeartbeats 2000000
/-- a caught BasicError, seen -/
noncomputable def ExcHas (prog : Program) (w : World) (n : Led) (ea : Addr) (k : Str) : Prop :=
  ∃ oe od d kvs ep t, n ea = some (.exc oe) ∧ oe.cls = .ref 34 ∧ notCls oe = true ∧ oe.dict = some d ∧ n d = some (.exc od) ∧ DictIs (PySem.strKind prog w) od kvs ep ∧ valueAt kvs (Str.ofString "code") = some (.str k t)
section
variable {prog : Program} {c : Cx} {m : Loc} {n : Led} {X : Str → Led → Prop} {Q : V → Led → Prop} {N : Loc → Led → Prop} {R : V → Led → Prop}
theorem at_exc {ea : Addr} {k : Str} (h : ExcHas prog c.w n ea k) (hq : Q (.str k) n) : At prog c m n (.ref ea) "code" Q X := by
  rintro _ ⟨⟩
  refine Ev.of fun H s S => ?_
  obtain ⟨oe, od, d, kvs, ep, t, h1, h2, h3, h4, h5, h6, h7⟩ := h
  obtain ⟨⟨ob, g1, g2⟩, _⟩ := S.led _ _ h1
  obtain ⟨⟨ob', g3, g4⟩, _⟩ := S.led _ _ h5
  have g2 : ob = oe := g2
  have g4 : ob' = od := g4
  subst g2 g4
  obtain ⟨es', rfl, hp, _⟩ := h6.eqDictOf
  exact exc_get (fun a o e => S.keep _ _ (H.X a o e)) ⟨g1, h2, h3, by rw [h4]; exact g3⟩ (by kernel_rfl) (by kernel_rfl) (by kernel_rfl)
    (findObj_own (K := KK c.w) (C := 34) (attr := none) (od := dictOf es' ep) (by kernel_rfl) (by kernel_rfl) (by kernel_rfl) (getL_of hp h7)) rfl ⟨_, n, .str _ _, S.toks _, hq⟩
theorem Sit.mark {s : Shared} (S : Sit prog c m n s) (A' : Around) : Sit prog { c with A := A' } m n s := { S with }
theorem gi_BasicError (w : World) : GlobalIs w "BasicError" (.ref 34) := by show nsIn _ _ _ = _; kernel_rfl
theorem ExcAt.cls {k : Str} {e : Value} {hp : Heap} (E : ExcAt prog c n k e hp) : ∃ ea oe, e = .ref ea ∧ hp.get? ea = some oe ∧ oe.cls = .ref 34 := by
  obtain ⟨ea, oe, _, _, _, _, _, _, e1, D⟩ := E
  exact ⟨ea, oe, e1, D.he, D.hcls⟩
theorem Thrown.has {ea : Addr} {s : Shared} (T : Thrown prog c m X (.ref ea) s) : ∃ k n1 n2, X k n1 ∧ n1 ea = none ∧ Keeps [] n1 n2 ∧ ExcHas prog c.w n2 ea k ∧ Sit prog c m n2 s := by
  obtain ⟨k, n1, S3, ⟨ea', oe, vs, d, od, kvs, ep, t, e0, D⟩, hX⟩ := T
  cases e0
  have isF : ea ∉ (c.env.locals :: c.outs.map (·.1)) := fun hm => by
    have : ∃ m', NsOk c.base ea m' s.heap := by
      rcases List.mem_cons.mp hm with q | q
      · exact ⟨m, q ▸ S3.loc⟩
      · obtain ⟨f, hf, q⟩ := List.mem_map.mp q
        exact ⟨f.2, q ▸ S3.outs f hf⟩
    obtain ⟨m', _, mv, ⟨o', es, ep', ho', hd', _⟩, _⟩ := this
    rw [D.he] at ho'; cases ho'; rw [D.hdat] at hd'; cases hd'
  have ned : d ≠ ea := fun q => by
    obtain ⟨es, _, hde, _⟩ := D.hdi
    have hd := D.hd
    rw [q, D.he] at hd; cases hd
    rw [D.hdat] at hde; cases hde
  have k2 : Keeps [] (n1.set ea (.exc oe)) ((n1.set ea (.exc oe)).set d (.exc od)) := keeps_new ((Led.set_ne _ _ ned).trans D.hdn)
  exact ⟨k, n1, _, hX, D.hen, (keeps_new D.hen).trans k2, ⟨oe, od, d, kvs, ep, t, (Led.set_ne _ _ (Ne.symm ned)).trans (Led.set_self _ _ _), D.hcls, by unfold notCls; rw [D.hdat], D.hdict, Led.set_self _ _ _, D.hdi, D.hcode⟩,
    (S3.see (o := .exc oe) D.he rfl (.inr ⟨D.heb, _, rfl⟩) isF).see (o := .exc od) D.hd rfl (.inr ⟨D.hdb, _, rfl⟩) D.hdL⟩
/-- a name is taken away -/
theorem Sit.gone {m6 m7 : Loc} {n6 : Led} {s6 : Shared} {h' : Heap} {x : Str} {mv : Str → Option Value} {vo : Option Value} {tk : Nat} (SN : Sit prog c m6 n6 s6) (hm7 : ∀ y v, m7.lookup y = some v → y ≠ x ∧ m6.lookup y = some v) (lb : c.base.objs.size ≤ c.env.locals)
    (hmv : ∀ x v, m6.lookup x = some v → ∃ v', mv x = some v' ∧ VIs v v') (hns' : h'.Ns c.env.locals (fun y => if y = x then vo else mv y)) (hsb : Heap.SameBut c.env.locals s6.heap h') : Sit prog c m7 n6 { s6 with heap := h', toks := tk } where
  gens := SN.gens
  drawn := SN.drawn
  os := SN.os
  keep := fun b o e => (hsb.2 b fun q => by rw [q, SN.loc.fresh] at e; cases e).trans (SN.keep b o e)
  loc := ⟨lb, _, hns', fun y u hy => by
    obtain ⟨h1, h2⟩ := hm7 y u hy
    obtain ⟨v', h3, h4⟩ := hmv y u h2
    exact ⟨v', by rw [if_neg h1]; exact h3, h4⟩⟩
  outs := fun f hf => (SN.outs f hf).of fun o e => (hsb.2 _ fun q => (List.nodup_cons.mp SN.apart).1 (q ▸ List.mem_map_of_mem hf)).trans e
  apart := SN.apart
  led := fun a o e => by
    obtain ⟨⟨ob, h1, h2⟩, h3, h4⟩ := SN.led a o e
    exact ⟨⟨ob, (hsb.2 a fun q => h4 (q ▸ .head _)).trans h1, h2⟩, h3, h4⟩
theorem ex_tryB {e : Expr} {p1 hp p np : Pos} {b₀ : Stmt} {suite : List Stmt} {x : Str} {sc : Scope} {l : List Env} {XB : Str → Led → Prop} (hh : c.A.handled = none) (hf : c.env.frame = some c.env.locals) (hA : c.A.frames = some (c.env :: l))
    (hs : c.env.scope = sc) (hk : sc.names.lookup ("BasicError" : Str) = some .globalImplicit) (hx : sc.names.lookup x = some .local)
    (h : Ev prog c m n (eval e c.env) (fun _ n' => N m n') XB)
    (hb : ∀ k n1 ea n2 A', XB k n1 → n1 ea = none → Keeps [] n1 n2 → ExcHas prog c.w n2 ea k → Ex prog { c with A := A' } ((x, .ref ea) :: m) n2 (execs (b₀ :: suite) c.env) (fun m4 n4 => ∃ m5, (∀ y v, m5.lookup y = some v → y ≠ x ∧ m4.lookup y = some v) ∧ N m5 n4) (fun _ _ => False) NoX)
    (hsw : swapsWith e none p1.line c.env = pure false := by with_unfolding_all rfl) :
    Ex prog c m n (exec (.Try [.Expr e p1] [.ExceptHandler (some (.Name "BasicError" np)) (some x) (b₀ :: suite) hp] [] [] p) c.env) N R X := fun H s S => by
  have hi : interactive c.env = false := by unfold interactive; rw [H.fk]; rfl
  refine wpAny_Try_except (wpAny_execs_cons ?_)
  rw [exec_Expr c.env e p1 hi hsw]
  refine wpAny_bind (wpAny_standAt (wpAny_bind (wpAny_mono (h H s S) (fun v s' ⟨n', S', u, hu, q⟩ => wpAny_dropValue ?_) fun e s' T => ?_)))
  · exact wpAny_execs_nil (wpAny_execs_nil ⟨m, n', S', q⟩)
  refine wpAny_mono (wp_noteFlight H hf hA T) (fun _ s1 h1 => wpAny_mono h1 (fun _ s2 T2 => ?_) fun _ _ q => q.elim) fun _ _ q => q.elim
  obtain ⟨ea, rfl⟩ : ∃ ea, e = .ref ea := by
    obtain ⟨_, _, _, E, _⟩ := T2
    obtain ⟨ea, _, h, _⟩ := E.cls
    exact ⟨ea, h⟩
  let A2 := c.A.mark (some (.ref ea))
  let c2 : Cx := { c with A := A2 }
  have H2 : COk c2 := { H with }
  refine wpAny_handleBy_cons (codeAny_handlers_test ?_) (by intro q; cases q)
  obtain ⟨mg, mb, T⟩ := H.T
  obtain ⟨k0, n0, S0, E0, hX0⟩ := id T2
  refine Name_function_global H2.fk (by rw [Env.kindOf, hs]; exact hk) (loadGlobal_global (env := c.env) (mg := mg) (v := .ref 34) (by rw [H.gl]; exact T.g.keeps S0.keep) (mg_of H.X T.g (gi_BasicError _)) ?_) (by rfl)
  obtain ⟨hp2, g2, d2, t2, os2⟩ := s2
  obtain ⟨_, oe0, e0, he0, hc0⟩ := E0.cls
  cases e0
  refine wpAny_excMatches_sub_self (S0.keep 34 _ (H.X 34 _ (by rfl))) he0 hc0 (by decide +kernel) ?_
  show codeAny _ _ _ _ _
  refine codeAny_handlers_suite_as ?_
  refine wpAny_mono (wp_flight (c := c2) (m := m) (X := XB) H2 ?_) (fun _ s3 T3 => ?_) fun _ _ q => q.elim
  · obtain ⟨a1, a2, a3, a4, a5⟩ := T2
    exact ⟨a1, a2, a3.mark _, ⟨a4.ex⟩, a5⟩
  obtain ⟨k, n1, n2, hX, hen, hk2, hexc, S4⟩ := T3.has
  refine storeL (c := c2) H2 S4 hs hx (.ref ea) fun s5 S5 => ?_
  refine wpAny_mono (hb k n1 ea _ A2 hX hen hk2 hexc H2 s5 S5) (fun f s6 q6 => ?_) fun e s' ⟨m', q⟩ => (thrown_no q).elim
  cases f with
  | next =>
    obtain ⟨m6, n6, S6, m7, hm7, q7⟩ := q6
    show wpAny _ _ _ _ _ _
    obtain ⟨lb, mv, hns, hmv⟩ := S6.loc
    refine wpAny_nameGoes_keeps (by rw [Env.kindOf, hs]; exact hx) hns (by rw [H.fk]; rfl) fun h' v hns' hsb => ?_
    refine ⟨m7, n6, ?_, q7⟩
    exact Sit.mark (c := c2) (Sit.gone (c := c2) (tk := s6.toks + 1) S6 hm7 lb hmv hns' hsb) c.A
  | ret v => obtain ⟨u, m6, n6, _, _, q⟩ := q6; exact q.elim
  | _ => exact q6.elim
end

-- part E7
set_option maxHeartbeats 2000000
inductive AnsL (n : Led) : List V → List Ans → Prop
  | nil : AnsL n [] []
  | cons {v : V} {a : Ans} {vs : List V} {as : List Ans} : AnsAt n v a → AnsL n vs as → AnsL n (v :: vs) (a :: as)
theorem AnsAt.frz {n n' : Led} (F : Frz n n') {v : V} {a : Ans} (h : AnsAt n v a) : AnsAt n' v a := by
  cases a with
  | one u => exact h
  | two u w => obtain ⟨t, h1, h2, h3⟩ := h; exact ⟨t, h1, F _ _ h2 (fun _ _ q => nomatch q) (fun _ _ q => nomatch q) (fun _ q => nomatch q) (fun _ q => nomatch q), h3⟩
theorem AnsL.frz {n n' : Led} (F : Frz n n') {vs : List V} {as : List Ans} (h : AnsL n vs as) : AnsL n' vs as := by
  induction h with
  | nil => exact .nil
  | cons h _ ih => exact .cons (h.frz F) ih
theorem AnsL.map {n n' : Led} (F : ∀ v a, AnsAt n v a → AnsAt n' v a) {vs : List V} {as : List Ans} (h : AnsL n vs as) : AnsL n' vs as := by
  induction h with
  | nil => exact .nil
  | cons h _ ih => exact .cons (F _ _ h) ih
theorem AnsL.snoc {n : Led} {vs : List V} {as : List Ans} {v : V} {a : Ans} (h : AnsL n vs as) (h' : AnsAt n v a) : AnsL n (vs ++ [v]) (as ++ [a]) := by
  induction h with
  | nil => exact .cons h' .nil
  | cons h _ ih => exact .cons h ih
theorem AnsL.length {n : Led} {vs : List V} {as : List Ans} (h : AnsL n vs as) : vs.length = as.length := by
  induction h with
  | nil => rfl
  | cons _ _ ih => simp [ih]
theorem frz_list {n : Led} {l : Addr} {vs us : List V} (h : n l = some (.list vs)) : Frz n (n.set l (.list us)) := fun x o e _ _ q _ => (Led.set_ne _ _ fun q' => by
  subst q'; rw [h] at e; cases e; exact q _ rfl).trans e
theorem Rep.off {n : Led} {a : Ads} {W : WS} (R : Rep n a W) {l : Addr} {vs us : List V} (h : n l = some (.list vs)) : Rep (n.set l (.list us)) a W := by
  have k : ∀ b o, n b = some o → (∀ xs, o ≠ .list xs) → (n.set l (.list us)) b = some o := fun b o e q => (Led.set_ne _ _ fun q' => by subst q'; rw [h] at e; cases e; exact q _ rfl).trans e
  exact {
    inst := k _ _ R.inst (fun _ q => nomatch q)
    attrs := let ⟨es, ep, h1, r⟩ := R.attrs; ⟨es, ep, k _ _ h1 (fun _ q => nomatch q), r⟩
    files := let ⟨ep, h1⟩ := R.files; ⟨ep, k _ _ h1 (fun _ q => nomatch q)⟩
    op := let ⟨ep, h1⟩ := R.op; ⟨ep, k _ _ h1 (fun _ q => nomatch q)⟩
    fields := let ⟨ep, h1⟩ := R.fields; ⟨ep, k _ _ h1 (fun _ q => nomatch q)⟩
    recs := fun ch r hr => let ⟨ep, h1⟩ := R.recs ch r hr; ⟨ep, k _ _ h1 (fun _ q => nomatch q)⟩
    tups := fun nm p hp => k _ _ (R.tups nm p hp) (fun _ q => nomatch q)
    apart := R.apart }
theorem Step.off {n n' : Led} {a a' : Ads} {W W' : WS} (S : Step n a W n' a' W') {l : Addr} {vs us : List V} (h0 : n l = none) (h : n' l = some (.list vs)) : Step n a W (n'.set l (.list us)) a' W' where
  rep := S.rep.off h
  wa := S.wa
  keeps := fun b hb hf => (Led.set_ne _ _ fun q => by subst q; exact hb h0).trans (S.keeps b hb hf)
  new := S.new
/-- where the answers are gathered -/
structure LA (n : Led) (a : Ads) (W : WS) (f l0 l1 : Addr) (s : RS) (n' : Led) (a' : Ads) : Prop where
  step : Step n a W n' a' s.1
  hf : n' f = some (.list [.ref l0, .ref l1])
  h0 : ∃ vs, n' l0 = some (.list vs) ∧ AnsL n' vs s.2.1
  h1 : ∃ vs, n' l1 = some (.list vs) ∧ AnsL n' vs s.2.2
section
variable {n n' n'' : Led} {a a' a'' : Ads} {W W'' : WS} {f l0 l1 : Addr} {s : RS}
theorem LA.move (L : LA n a W f l0 l1 s n' a') (S : Step n' a' s.1 n'' a'' W'') : LA n a W f l0 l1 (W'', s.2) n'' a'' where
  step := L.step.trans S
  hf := S.keepO L.step.rep L.hf (fun _ _ q => nomatch q) (fun _ _ q => nomatch q)
  h0 := let ⟨vs, h1, h2⟩ := L.h0; ⟨vs, S.keepO L.step.rep h1 (fun _ _ q => nomatch q) (fun _ _ q => nomatch q), h2.frz (S.frz L.step.rep)⟩
  h1 := let ⟨vs, h1, h2⟩ := L.h1; ⟨vs, S.keepO L.step.rep h1 (fun _ _ q => nomatch q) (fun _ _ q => nomatch q), h2.frz (S.frz L.step.rep)⟩
theorem LA.grow (L : LA n a W f l0 l1 s n' a') (h : Keeps [] n' n'') : LA n a W f l0 l1 s n'' a' := L.move (L.step.rep.stepGrow h)
theorem LA.moves (L : LA n a W f l0 l1 s n' a') (h : Moves n n' n'') : LA n a W f l0 l1 s n'' a' := by
  have S' := L.step.moves h
  obtain ⟨it, cls, vs, h1, h2, h3⟩ := h
  have kl : ∀ {x : Addr} {xs : List V}, n' x = some (.list xs) → n'' x = some (.list xs) := fun {x xs} e => (h3 x (by rw [e]; exact Option.some_ne_none _) (by simpa using h1.ne e fun _ q => nomatch q)).trans e
  have fz : ∀ {vs : List V} {as : List Ans}, AnsL n' vs as → AnsL n'' vs as := fun h => h.map fun v x hx => by
    cases x with
    | one u => exact hx
    | two u w => obtain ⟨t, g1, g2, g3⟩ := hx; exact ⟨t, g1, (h3 t (by rw [g2]; exact Option.some_ne_none _) (by simpa using h1.ne g2 fun _ q => nomatch q)).trans g2, g3⟩
  exact ⟨S', kl L.hf, let ⟨vs, q1, q2⟩ := L.h0; ⟨vs, kl q1, fz q2⟩, let ⟨vs, q1, q2⟩ := L.h1; ⟨vs, kl q1, fz q2⟩⟩
theorem LA.add0 (L : LA n a W f l0 l1 s n' a') (e0 : n l0 = none) (ne1 : l1 ≠ l0) (nef : f ≠ l0) {vs : List V} {v : V} {x : Ans} (h : n' l0 = some (.list vs)) (hx : AnsAt n' v x) : LA n a W f l0 l1 (s.1, s.2.1 ++ [x], s.2.2) (n'.set l0 (.list (vs ++ [v]))) a' where
  step := L.step.off e0 h
  hf := (Led.set_ne _ _ nef).trans L.hf
  h0 := let ⟨us, h1, h2⟩ := L.h0; ⟨_, Led.set_self _ _ _, by
    rw [h] at h1; cases h1
    exact (h2.frz (frz_list h)).snoc (hx.frz (frz_list h))⟩
  h1 := let ⟨us, h1, h2⟩ := L.h1; ⟨us, (Led.set_ne _ _ ne1).trans h1, h2.frz (frz_list h)⟩
theorem LA.add1 (L : LA n a W f l0 l1 s n' a') (e1 : n l1 = none) (ne1 : l0 ≠ l1) (nef : f ≠ l1) {vs : List V} {v : V} {x : Ans} (h : n' l1 = some (.list vs)) (hx : AnsAt n' v x) : LA n a W f l0 l1 (s.1, s.2.1, s.2.2 ++ [x]) (n'.set l1 (.list (vs ++ [v]))) a' where
  step := L.step.off e1 h
  hf := (Led.set_ne _ _ nef).trans L.hf
  h0 := let ⟨us, h1, h2⟩ := L.h0; ⟨us, (Led.set_ne _ _ ne1).trans h1, h2.frz (frz_list h)⟩
  h1 := let ⟨us, h1, h2⟩ := L.h1; ⟨_, Led.set_self _ _ _, by
    rw [h] at h1; cases h1
    exact (h2.frz (frz_list h)).snoc (hx.frz (frz_list h))⟩
end
noncomputable def DeedsAt (n : Led) (d : Addr) (ds : List Deed) : Prop := ∃ ts : List Addr, n d = some (.list (ts.map V.ref)) ∧ ts.length = ds.length ∧
  ∀ (i : Nat) (t : Addr) (e : Deed), ts[i]? = some t → ds[i]? = some e → n t = some (.tup [.int e.1, .int e.2.1, .int e.2.2.1, .int e.2.2.2])
theorem run_inv : ∀ {ds : List Deed} {B : Nat} {s : RS}, (∀ d ∈ ds, Rng d) → Inv s.1 → Good B s.1 → ∃ B', B' + 50 = (B + 50) * 2 ^ ds.length ∧ Inv (ds.foldl stp s).1 ∧ Good B' (ds.foldl stp s).1
  | [], B, s, _, I, G => ⟨B, by simp, I, G⟩
  | d :: ds, B, s, h, I, G => by
    obtain ⟨o, g⟩ := step_own (h d (.head _)) I G
    obtain ⟨B', e, r⟩ := run_inv (ds := ds) (s := stp s d) (fun d hd => h d (.tail _ hd)) o.inv g
    exact ⟨B', by rw [e, List.length_cons, Nat.pow_succ, show 2 * B + 50 + 50 = (B + 50) * 2 by lia, Nat.mul_assoc, Nat.mul_comm 2], r⟩

-- part E8
set_option maxHeartbeats 2000000
theorem Keeps.back {n n' : Led} (h : Keeps [] n n') {b : Addr} (e : n' b = none) : n b = none := by
  cases q : n b with
  | none => rfl
  | some o => have := h b (by rw [q]; exact Option.some_ne_none _) List.not_mem_nil; rw [e, q] at this; cases this
theorem ItOf.frz {n n' : Led} (F : Frz n n') {it : Addr} {cls : String} {vs : Array Value} (h : ItOf n it cls vs) : ItOf n' it cls vs := let ⟨o, h1, r⟩ := h; ⟨o, F _ _ h1 (fun _ _ q => nomatch q) (fun _ _ q => nomatch q) (fun _ q => nomatch q) (fun _ q => nomatch q), r⟩
theorem DeedsAt.step {n n' : Led} {a a' : Ads} {W W' : WS} {d : Addr} {ds : List Deed} (D : DeedsAt n d ds) (S : Step n a W n' a' W') (R : Rep n a W) : DeedsAt n' d ds := by
  obtain ⟨ts, h1, h2, h3⟩ := D
  exact ⟨ts, S.keepO R h1 (fun _ _ q => nomatch q) (fun _ _ q => nomatch q), h2, fun i t e e1 e2 => S.keepO R (h3 i t e e1 e2) (fun _ _ q => nomatch q) (fun _ _ q => nomatch q)⟩
theorem forget_name {m : Loc} {x : Str} {u : V} (h : m.lookup x = none) : ∀ y v, m.lookup y = some v → y ≠ x ∧ (((x, u) :: m : Loc).lookup y) = some v := fun y v hy => by
  have ne : y ≠ x := fun q => by rw [q, h] at hy; cases hy
  refine ⟨ne, ?_⟩
  rw [List.lookup_cons, beq_eq_false_iff_ne.mpr ne]
  exact hy
theorem run_len : ∀ {ds : List Deed} {s : RS}, (ds.foldl stp s).2.1.length ≤ s.2.1.length + ds.length ∧ (ds.foldl stp s).2.2.length ≤ s.2.2.length + ds.length
  | [], s => ⟨Nat.le_refl _, Nat.le_refl _⟩
  | d :: ds, s => by
    obtain ⟨h1, h2⟩ := run_len (ds := ds) (s := stp s d)
    have g1 : (stp s d).2.1.length ≤ s.2.1.length + 1 := by unfold stp; dsimp only; split <;> simp
    have g2 : (stp s d).2.2.length ≤ s.2.2.length + 1 := by unfold stp; dsimp only; split <;> simp
    rw [List.foldl_cons, List.length_cons]
    exact ⟨by lia, by lia⟩
theorem stp0 {s : RS} {f o t : Int} {ans : Ans} {W' : WS} (h : deedP s.1 0 f o t = .ok (ans, W')) : stp s (0, f, o, t) = (W', s.2.1 ++ [ans], s.2.2) := by
  unfold stp stepP; dsimp only; rw [h, if_pos rfl, if_pos rfl]
theorem stp1 {s : RS} {f o t : Int} {ans : Ans} {W' : WS} (h : deedP s.1 1 f o t = .ok (ans, W')) : stp s (1, f, o, t) = (W', s.2.1, s.2.2 ++ [ans]) := by
  unfold stp stepP; dsimp only; rw [h, if_neg (by decide), if_neg (by decide)]
theorem stp0e {s : RS} {f o t : Int} {k : Str} (h : deedP s.1 0 f o t = .error k) : stp s (0, f, o, t) = (s.1, s.2.1 ++ [.one (.str k)], s.2.2) := by
  unfold stp stepP; dsimp only; rw [h, if_pos rfl, if_pos rfl]
theorem stp1e {s : RS} {f o t : Int} {k : Str} (h : deedP s.1 1 f o t = .error k) : stp s (1, f, o, t) = (s.1, s.2.1, s.2.2 ++ [.one (.str k)]) := by
  unfold stp stepP; dsimp only; rw [h, if_neg (by decide), if_neg (by decide)]
section
variable {prog : Program} [ProgOk prog] {c : Cx} {n : Led} {X : Str → Led → Prop} {a : Ads} {W : WS} {Q : V → Led → Prop}
theorem fn_law_answers {B : Nat} {d : Addr} {ds : List Deed} (hlv : 30 < c.lv) (hh : c.A.handled = none) (R : Rep n a W) (D : DeedsAt n d ds) (hR : ∀ e ∈ ds, Rng e) (I0 : Inv W) (G0 : Good B W) (hB : (B + 50) * 2 ^ ds.length ≤ BM + 50) (hz : ds.length ≤ 100)
    (h : ∀ n' a' f l0 l1, LA n a W f l0 l1 (runP W ds) n' a' → n f = none → n l0 = none → n l1 = none → Q (.ref f) n') : Fn prog c n (.ref 261) [.ref a.wa, .ref d] Q X := by
  refine fn_bodyC (by rfl) (by kernel_rfl) (Nat.zero_lt_of_lt hlv) (by wtm_at "args") (by decide) ?_ [("world", .ref a.wa), ("deeds", .ref d)] ?_ [] (fun p hp => nomatch hp) List.nodup_nil ?_
  · intro x hx
    simp only [List.map_cons, List.map_nil, List.mem_cons, List.not_mem_nil, or_false] at hx
    rcases hx with rfl | rfl <;> exact .inl rfl
  · intro x v h
    have hm := mem_of_lookup h
    simp only [List.mem_cons, List.not_mem_nil, or_false] at hm
    rcases hm with e | e <;> cases e <;> exact ⟨rfl, rfl⟩
  intro c' n0 I hfr hfs hk0 hcf
  obtain ⟨fs, hfs⟩ := hfs
  refine ex_cons (ex_assign I.scope (by rfl) (ev_list (es_cons (ev_list (es_nil ⟨Nat.zero_le _, fun l0 hl0 => es_cons (ev_list (es_nil ⟨Nat.zero_le _, fun l1 hl1 => es_nil ⟨by rw [szl]; show 2 ≤ _; decide, fun f hf => ?_⟩⟩))⟩)))))
  have k1 : Keeps [] n0 (n0.set l0 (.list [])) := keeps_new hl0
  have k2 : Keeps [] (n0.set l0 (.list [])) ((n0.set l0 (.list [])).set l1 (.list [])) := keeps_new hl1
  have k3 : Keeps [] ((n0.set l0 (.list [])).set l1 (.list [])) (((n0.set l0 (.list [])).set l1 (.list [])).set f (.list [.ref l0, .ref l1])) := keeps_new hf
  have z0 : n l0 = none := hk0.back hl0
  have z1 : n l1 = none := (hk0.trans k1).back hl1
  have zf : n f = none := ((hk0.trans k1).trans k2).back hf
  have ne10 : l1 ≠ l0 := fun q => by subst q; rw [Led.set_self] at hl1; cases hl1
  have nef0 : f ≠ l0 := fun q => by subst q; rw [Led.set_ne _ _ (Ne.symm ne10), Led.set_self] at hf; cases hf
  have nef1 : f ≠ l1 := fun q => by subst q; rw [Led.set_self] at hf; cases hf
  have hk3 := ((hk0.trans k1).trans k2).trans k3
  have L0 : LA n a W f l0 l1 (W, [], []) (((n0.set l0 (.list [])).set l1 (.list [])).set f (.list [.ref l0, .ref l1])) a :=
    { step := R.stepGrow (((hk0.trans k1).trans k2).trans k3)
      hf := Led.set_self _ _ _
      h0 := ⟨[], (Led.set_ne _ _ (Ne.symm nef0)).trans ((Led.set_ne _ _ (Ne.symm ne10)).trans (Led.set_self _ _ _)), .nil⟩
      h1 := ⟨[], (Led.set_ne _ _ (Ne.symm nef1)).trans (Led.set_self _ _ _), .nil⟩ }
  generalize (((n0.set l0 (.list [])).set l1 (.list [])).set f (.list [.ref l0, .ref l1])) = n3 at L0 hk3
  clear k1 k2 k3 hl0 hl1 hf hcf
  refine ex_cons ?_
  refine ex_for ds.length (fun it i m' n' => m' = ([("found", .ref f), ("world", .ref a.wa), ("deeds", .ref d)] : Loc) ∧ i ≤ ds.length ∧ n it = none ∧ ItOf n' it "list_iterator" #[.ref d, .int i 0] ∧ ∃ a', LA n a W f l0 l1 (runP W (ds.take i)) n' a') ?_ ?_
  · obtain ⟨ts, h1, _⟩ := D.step L0.step R
    refine ev_local I.scope (by rfl) (by rfl) (it_list h1 fun it n4 hn hk hit => ⟨rfl, Nat.zero_le _, ?_, hit, a, L0.grow hk⟩)
    exact hk3.back hn
  · rintro it i _ n' ⟨rfl, hi, hn0, hit, a', L⟩
    refine ⟨hi, ?_⟩
    obtain ⟨ts, hd', htl, htup⟩ := D.step L.step R
    refine nx_list (I.hd.trans hh) hit hd' (fun u n4 hu hk hit' => ?_) (fun n4 hn hk => ?_)
    · rw [List.getElem?_map] at hu
      obtain ⟨tt, hta, rfl⟩ := Option.map_eq_some_iff.mp hu
      have hl : i < ts.length := (List.getElem?_eq_some_iff.mp hta).1
      obtain ⟨row, form, one, other, hpi⟩ : ∃ q1 q2 q3 q4, ds[i]? = some (q1, q2, q3, q4) := ⟨_, _, _, _, List.getElem?_eq_getElem (by lia : i < ds.length)⟩
      have hrg := hR _ (List.mem_of_getElem? hpi)
      have htk : runP W (ds.take (i + 1)) = stp (runP W (ds.take i)) (row, form, one, other) := by
        rw [List.take_add_one, hpi]
        unfold runP
        rw [List.foldl_append]; rfl
      have htu := htup i tt _ hta hpi
      have htu4 : n4 tt = some (.tup [.int row, .int form, .int one, .int other]) := (hk _ (by rw [htu]; exact Option.some_ne_none _) (by simpa using hit.ne htu fun _ q => nomatch q)).trans htu
      have L4 := L.moves ⟨it, _, _, hit, hn0, hk⟩
      obtain ⟨B', eB, I', G'⟩ := run_inv (ds := ds.take i) (s := (W, [], [])) (fun e he => hR e (List.mem_of_mem_take he)) I0 G0
      have hB' : 2 * B' + 50 ≤ BM := by
        have h1 : (B + 50) * 2 ^ (i + 1) ≤ (B + 50) * 2 ^ ds.length := Nat.mul_le_mul_left _ (Nat.pow_le_pow_right (by decide) (by lia))
        rw [List.length_take, Nat.min_eq_left (by lia)] at eB
        rw [Nat.pow_succ, ← Nat.mul_assoc, ← eB] at h1
        lia
      replace I' : Inv (runP W (ds.take i)).1 := I'
      replace G' : Good B' (runP W (ds.take i)).1 := G'
      refine asg_tup I.scope (names := [("row", _), ("form", _), ("one", _), ("other", _)]) (by rfl) (fun x hx => by
        simp only [List.mem_cons, List.not_mem_nil, or_false] at hx
        rcases hx with rfl | rfl | rfl | rfl <;> rfl) (I.hd.trans hh) hit' htu4 (by rfl) ?_
      show Ex _ _ ([("other", .int other), ("one", .int one), ("form", .int form), ("row", .int row), ("found", .ref f), ("world", .ref a.wa), ("deeds", .ref d)] : Loc) _ _ _ _ _
      have lsub : LSub ([("found", .ref f), ("world", .ref a.wa), ("deeds", .ref d)] : Loc) ([("other", .int other), ("one", .int one), ("form", .int form), ("row", .int row), ("found", .ref f), ("world", .ref a.wa), ("deeds", .ref d)] : Loc) := by wtm_at "lsub"
      have hlen := run_len (ds := ds.take i) (s := (W, [], []))
      replace hlen : (runP W (ds.take i)).2.1.length ≤ 0 + (ds.take i).length ∧ (runP W (ds.take i)).2.2.length ≤ 0 + (ds.take i).length := hlen
      rw [List.length_take] at hlen
      generalize hs : runP W (ds.take i) = s at L4 I' G' htk hlen
      have next : ∀ n6 a6, LA n a W f l0 l1 (stp s (row, form, one, other)) n6 a6 → Frz n4 n6 → ∃ m4, LSub m4 ([("other", .int other), ("one", .int one), ("form", .int form), ("row", .int row), ("found", .ref f), ("world", .ref a.wa), ("deeds", .ref d)] : Loc) ∧
          m4 = ([("found", .ref f), ("world", .ref a.wa), ("deeds", .ref d)] : Loc) ∧ i + 1 ≤ ds.length ∧ n it = none ∧ ItOf n6 it "list_iterator" #[.ref d, .int ((i + 1 : Nat) : Int) 0] ∧ ∃ a', LA n a W f l0 l1 (runP W (ds.take (i + 1))) n6 a' :=
        fun n6 a6 L6 F6 => ⟨_, lsub, rfl, by lia, hn0, hit'.frz F6, a6, by rw [htk]; exact L6⟩
      refine ex_one ?_
      rcases hrg.row with q | q
      · obtain rfl : row = 0 := q
        obtain ⟨vs, hv, _⟩ := L4.h0
        have R4 := L4.step.rep
        refine ex_tryB (l := fs) (XB := fun k n5 => LA n a W f l0 l1 s n5 a' ∧ Frz n4 n5 ∧ deedP s.1 0 form one other = .error k) (I.hd.trans hh) hfr hfs I.scope (by rfl) (by rfl) ?_ ?_
        · rw [← L4.step.wa] at next ⊢
          wtm_at "go"
          refine sub_list L4.hf (by decide) (by decide) (by rfl) ?_
          wtm_at "go"
          refine fn_law_deed (p := ⟨5 + 0, 0, 3⟩) (by wtm_at "side") (by wtm_at "side") R4 G' (by lia) (by decide) (by decide) hrg.f0 hrg.f1 hrg.o0 hrg.o1 hrg.n0 hrg.n1 (I'.ef 0 hrg.row) (fun k W' e => (good_getP G' e).mono hB') I'.few (fun n5 v ans a5 W5 R5 S5 hans e5 => ?_) (fun k n5 R5 S5 e5 => ?_)
          · wtm_at "go"
            have L5 := L4.move S5
            obtain ⟨us, hus, hAu⟩ := L5.h0
            refine mb_append hus ?_ ?_
            · rw [hAu.length, szl]; dsimp only; lia
            · have L6 := L5.add0 z0 ne10 nef0 hus hans
              rw [← stp0 e5] at L6
              exact next _ a5 L6 ((S5.frz R4).trans (frz_list hus))
          · have L5 := L4.move S5
            exact ⟨L5, S5.frz R4, e5⟩
        · rintro k n5 ea n7 A' ⟨L5, F5, e5⟩ hea hk7 hex
          have L7 := L5.grow hk7
          obtain ⟨us, hus, hAu⟩ := L7.h0
          refine ex_one (ex_expr (em_append (ev_sub (ev_local I.scope (by rfl) (by rfl) (ev_local I.scope (by rfl) (by rfl) (sub_list L7.hf (by decide) (by decide) (by rfl) ⟨has_list hus, es_cons (ev_attr (ev_local I.scope (by rfl) (by rfl) (at_exc hex (es_nil ?_))))⟩))))))
          refine mb_append hus ?_ ?_
          · rw [hAu.length, szl]; lia
          · have L8 := L7.add0 z0 ne10 nef0 hus (x := .one (.str k)) (v := .str k) ⟨rfl, fun _ q => by cases q⟩
            rw [← stp0e e5] at L8
            exact ⟨_, forget_name (by rfl), next _ a' L8 ((F5.trans hk7.frz).trans (frz_list hus))⟩
      · obtain rfl : row = 1 := q
        obtain ⟨vs, hv, _⟩ := L4.h1
        have R4 := L4.step.rep
        refine ex_tryB (l := fs) (XB := fun k n5 => LA n a W f l0 l1 s n5 a' ∧ Frz n4 n5 ∧ deedP s.1 1 form one other = .error k) (I.hd.trans hh) hfr hfs I.scope (by rfl) (by rfl) ?_ ?_
        · rw [← L4.step.wa] at next ⊢
          wtm_at "go"
          refine sub_list L4.hf (by decide) (by decide) (by rfl) ?_
          wtm_at "go"
          refine fn_law_deed (p := ⟨5 + 1, 0, 3⟩) (by wtm_at "side") (by wtm_at "side") R4 G' (by lia) (by decide) (by decide) hrg.f0 hrg.f1 hrg.o0 hrg.o1 hrg.n0 hrg.n1 (I'.ef 1 hrg.row) (fun k W' e => (good_getP G' e).mono hB') I'.few (fun n5 v ans a5 W5 R5 S5 hans e5 => ?_) (fun k n5 R5 S5 e5 => ?_)
          · wtm_at "go"
            have L5 := L4.move S5
            obtain ⟨us, hus, hAu⟩ := L5.h1
            refine mb_append hus ?_ ?_
            · rw [hAu.length, szl]; dsimp only; lia
            · have L6 := L5.add1 z1 (Ne.symm ne10) nef1 hus hans
              rw [← stp1 e5] at L6
              exact next _ a5 L6 ((S5.frz R4).trans (frz_list hus))
          · have L5 := L4.move S5
            exact ⟨L5, S5.frz R4, e5⟩
        · rintro k n5 ea n7 A' ⟨L5, F5, e5⟩ hea hk7 hex
          have L7 := L5.grow hk7
          obtain ⟨us, hus, hAu⟩ := L7.h1
          refine ex_one (ex_expr (em_append (ev_sub (ev_local I.scope (by rfl) (by rfl) (ev_local I.scope (by rfl) (by rfl) (sub_list L7.hf (by decide) (by decide) (by rfl) ⟨has_list hus, es_cons (ev_attr (ev_local I.scope (by rfl) (by rfl) (at_exc hex (es_nil ?_))))⟩))))))
          refine mb_append hus ?_ ?_
          · rw [hAu.length, szl]; lia
          · have L8 := L7.add1 z1 (Ne.symm ne10) nef1 hus (x := .one (.str k)) (v := .str k) ⟨rfl, fun _ q => by cases q⟩
            rw [← stp1e e5] at L8
            exact ⟨_, forget_name (by rfl), next _ a' L8 ((F5.trans hk7.frz).trans (frz_list hus))⟩
    · wtm_at "go"
      have hl : ¬ i < ds.length := fun q => by
        rw [List.getElem?_eq_none_iff, List.length_map] at hn
        lia
      have L4 := L.moves ⟨it, _, _, hit, hn0, hk⟩
      rw [List.take_of_length_le (by lia)] at L4
      exact h n4 a' f l0 l1 L4 zf z0 z1
end

-- part E9
set_option maxHeartbeats 2000000
/-- two values are found equal here -/
noncomputable def EqHere (prog : Program) (w : World) (A : Around) (s : Shared) (x y : Value) : Prop := ∀ (E : Value → Shared → Prop) (Q : Bool → Shared → Prop), Q true s → wpAny (model prog w) A (eqBool x y) Q E s
theorem EqHere.of {prog : Program} {w : World} {A : Around} {s : Shared} {x y : Value} (h : SeqAt.EqAt A s x y true) : EqHere prog w A s x y := fun E Q hq => h prog w E Q hq
section
variable {prog : Program} {w : World} {K : Type} [DecidableEq K] {knd : KeyKind prog w K} {A : Around} {E : Value → Shared → Prop} {s : Shared}
theorem same_tables {nm : String} {a b : Addr} {ka kb : List (K × Value)} {Q : Bool → Shared → Prop} (ha : (a == sysModules) = false) (hb : (b == sysModules) = false)
    (da : s.heap.DictOf knd a ka) (db : s.heap.DictOf knd b kb) (hl : ka.length = kb.length) (hits : ∀ (i : Nat) k v, ka[i]? = some (k, v) → ∃ y, valueAt kb k = some y ∧ EqHere prog w A s v y) (h : Q true s) :
    wpAny (model prog w) A (Builtin.Dict.samePairs nm a b) Q E s := by
  obtain ⟨oa, ea, na, ha1, _, ha2, ha3, ha4, _⟩ := da
  obtain ⟨ob, eb, nb, hb1, _, hb2, hb3, hb4, _⟩ := db
  have la : ea.size = ka.length := by rw [← ha4.length, Array.length_toList]
  have lb : eb.size = kb.length := by rw [← hb4.length, Array.length_toList]
  unfold Builtin.Dict.samePairs Builtin.Dict.showsAll
  simp only [ha, hb, Bool.false_eq_true, if_false]
  refine wpAny_bind (wpAny_pure (wpAny_bind (wpAny_pure (wpAny_bind (wpAny_dictEntries ha1 ha2 (wpAny_bind (wpAny_dictEntries hb1 hb2 ?_)))))))
  rw [if_neg (by rw [la, lb, hl]; simp)]
  refine wpAny_bind (wpAny_dictEpoch ha1 ha2 (wpAny_bind ?_))
  rw [Std.Legacy.Range.forIn_eq_forIn_range']
  refine wpAny_forIn_list _ (fun rest q s' => s' = s ∧ q = (none, ()) ∧ ∀ i ∈ rest, i < ea.size) _ ?_ ?_ _ _ ⟨rfl, rfl, fun i hi => ?_⟩
  · rintro i rest q s' ⟨rfl, rfl, hin⟩
    have hi := hin i (.head _)
    obtain ⟨k, v, hkv⟩ : ∃ k v, ka[i]? = some (k, v) := ⟨_, _, List.getElem?_eq_getElem (by lia)⟩
    have hei : ea[i]? = some ea[i] := Array.getElem?_eq_getElem hi
    obtain ⟨g1, g2⟩ := ha4.get? (i := i) (e := ea[i]) (by rw [Array.getElem?_toList]; exact hei) hkv
    obtain ⟨k', g3, g4⟩ := ha3 ea[i] (Array.getElem_mem hi)
    obtain rfl := knd.inj _ _ _ g3 g1
    obtain ⟨y, hy, hq⟩ := hits i k' v hkv
    refine wpAny_bind (wpAny_dictEntries ha1 ha2 ?_)
    rw [hei]
    show wpAny _ _ (holding [ea[i].key, ea[i].val] _ >>= _) _ _ _
    rw [g4]
    refine wpAny_bind (wpAny_holding (wpAny_bind (wpAny_dictFind_of g1 hb1 hb2 hb3 ?_)))
    have hf : findBy knd.is eb k' = some y := by
      rw [← hy, ← hb4.find k']
      obtain ⟨l⟩ := eb
      simp [findBy]
    rw [findBy_of_findIdx?] at hf
    cases hj : eb.findIdx? fun e => knd.is k' e.key with
    | none => rw [hj] at hf; cases hf
    | some j =>
      rw [hj] at hf
      obtain ⟨f, hf1, hf2⟩ := Option.map_eq_some_iff.mp hf
      refine wpAny_bind (wpAny_dictEntries hb1 hb2 ?_)
      rw [hf1]
      refine wpAny_holding ?_
      rw [hf2, g2]
      refine hq _ _ ?_
      show wpAny _ _ (if (!true) = true then _ else _) _ _ _
      rw [if_neg (by decide)]
      refine wpAny_bind (wpAny_dictEpoch ha1 ha2 ?_)
      rw [if_neg (by simp)]
      exact wpAny_pure ⟨rfl, rfl, fun i' hi' => hin i' (.tail _ hi')⟩
  · rintro q s' ⟨rfl, rfl, _⟩
    exact wpAny_pure h
  · simp only [Std.Legacy.Range.size, Nat.sub_zero, Nat.add_sub_cancel, Nat.div_one] at hi
    obtain ⟨h1, h2⟩ := List.mem_range'_1.mp hi
    lia
theorem eq_tables {a b : Addr} {ka kb : List (K × Value)} {Q : Value → Shared → Prop} (ha : (a == sysModules) = false) (hb : (b == sysModules) = false)
    (da : s.heap.DictOf knd a ka) (db : s.heap.DictOf knd b kb) (hu : A.units < cLine) (hl : ka.length = kb.length) (hits : ∀ (i : Nat) k v, ka[i]? = some (k, v) → ∃ y, valueAt kb k = some y ∧ EqHere prog w A.in1 s v y) (h : Q (.bool true) s) :
    wpAny (model prog w) A (richCompare .Eq (.ref a) (.ref b)) Q E s := by
  refine wpAny_richCompare_same_room (op := .Eq) da.typeIs db.typeIs PySem.F.slot_dict_eq (wpAny_call_entry PySem.F.slot_dict_eq da.typeIs PySem.F.entry_dict_eq ?_ (PySem.F.args_dict_eq_2 _ _)) hu
  show wpAny _ _ (Builtin.Dict.dictSlotArgs "__eq__" ⟨[.ref a, .ref b], []⟩ >>= _) _ _ s
  unfold Builtin.Dict.dictSlotArgs
  refine wpAny_bind (wpAny_bind (wpAny_notOrdered_dict da.typeIs (wpAny_pure ?_)))
  refine wpAny_bind (wpAny_isInstance (T := "dict") db.typeIs PySem.F.sub_dict_dict ?_)
  simp only [Bool.not_true, Bool.false_eq_true, if_false]
  refine wpAny_bind (wpAny_pure (wpAny_bind (wpAny_pure (wpAny_bind (same_tables ha hb da db hl hits ?_)))))
  exact wpAny_pure ⟨_, rfl, (fun x => nomatch x), h⟩
theorem ne_tables {a b : Addr} {ka kb : List (K × Value)} {Q : Value → Shared → Prop} (ha : (a == sysModules) = false) (hb : (b == sysModules) = false)
    (da : s.heap.DictOf knd a ka) (db : s.heap.DictOf knd b kb) (hu : A.units < cLine) (hl : ka.length = kb.length) (hits : ∀ (i : Nat) k v, ka[i]? = some (k, v) → ∃ y, valueAt kb k = some y ∧ EqHere prog w A.in1 s v y) (h : Q (.bool false) s) :
    wpAny (model prog w) A (richCompare .NotEq (.ref a) (.ref b)) Q E s := by
  refine wpAny_richCompare_same_room (op := .NotEq) da.typeIs db.typeIs PySem.F.slot_dict_ne (wpAny_call_entry PySem.F.slot_dict_ne da.typeIs PySem.F.entry_dict_ne ?_ (PySem.F.args_dict_ne_2 _ _)) hu
  show wpAny _ _ (Builtin.Dict.dictSlotArgs "__ne__" ⟨[.ref a, .ref b], []⟩ >>= _) _ _ s
  unfold Builtin.Dict.dictSlotArgs
  refine wpAny_bind (wpAny_bind (wpAny_notOrdered_dict da.typeIs (wpAny_pure ?_)))
  refine wpAny_bind (wpAny_isInstance (T := "dict") db.typeIs PySem.F.sub_dict_dict ?_)
  simp only [Bool.not_true, Bool.false_eq_true, if_false]
  refine wpAny_bind (wpAny_pure (wpAny_bind (wpAny_pure (wpAny_bind (same_tables ha hb da db hl hits ?_)))))
  exact wpAny_pure ⟨_, rfl, (fun x => nomatch x), h⟩
end

-- part E10
set_option maxHeartbeats 2000000
noncomputable def FlatV (u : V) : Prop := ∀ x, u ≠ .ref x
inductive VEq (n : Led) : V → V → Prop
  | flat {u : V} : FlatV u → VEq n u u
  | tup {t1 t2 : Addr} {us : List V} : n t1 = some (.tup us) → n t2 = some (.tup us) → (∀ u ∈ us, FlatV u) → VEq n (.ref t1) (.ref t2)
  | sd {a b : Addr} {es : List (Str × V)} {e1 e2 : Nat} : n a = some (.sd es e1) → n b = some (.sd es e2) → (∀ kv ∈ es, FlatV kv.2) → VEq n (.ref a) (.ref b)
theorem flat_here {A : Around} {s : Shared} {u : V} {x y : Value} (hf : FlatV u) (hx : VIs u x) (hy : VIs u y) : SeqAt.EqAt A s x y true := by
  cases hx with
  | none => cases hy; exact SeqAt.EqAt.same _
  | bool b => cases hy; exact SeqAt.EqAt.same _
  | int i t => cases hy with | int _ t' => have := SeqAt.EqAt.int_int (A := A) (s := s) i t i t'; rwa [beq_self_eq_true] at this
  | str z t => cases hy with | str _ t' => have := SeqAt.EqAt.str_str (A := A) (s := s) z t z t'; rwa [beq_self_eq_true] at this
  | ref a => exact absurd rfl (hf a)
section
variable {prog : Program} {c : Cx} {m : Loc} {n : Led} {X : Str → Led → Prop} {Q : V → Led → Prop} {K : Type} [DecidableEq K]
theorem krel_at {es : List (K × V)} {kvs : List (K × Value)} (h : KRel es kvs) : ∀ {i : Nat} {k : K} {x : Value}, kvs[i]? = some (k, x) → ∃ v, es[i]? = some (k, v) ∧ VIs v x := by
  induction h with
  | nil => intro i k x h; simp at h
  | cons hv _ ih =>
    intro i k x h
    cases i with
    | zero => simp only [List.getElem?_cons_zero, Option.some.injEq, Prod.mk.injEq] at h; obtain ⟨rfl, rfl⟩ := h; exact ⟨_, rfl, hv⟩
    | succ i => simp only [List.getElem?_cons_succ] at h ⊢; exact ih h
theorem keys_len {e1 e2 : List (K × V)} (n1 : (e1.map (·.1)).Nodup) (n2 : (e2.map (·.1)).Nodup) (hk : ∀ k, (kget e1 k).isSome = (kget e2 k).isSome) : e1.length = e2.length := by
  have key : ∀ {a b : List (K × V)}, (∀ k, (kget a k).isSome = (kget b k).isSome) → ∀ x ∈ a.map (·.1), x ∈ b.map (·.1) := fun {a b} h x hx => by
    obtain ⟨kv, hkv, rfl⟩ := List.mem_map.mp hx
    have h1 : (aget a kv.1).isSome = true := by
      cases q : aget a kv.1 with
      | none => exact absurd rfl (aget_none.mp q kv hkv)
      | some v => rfl
    have h2 : (aget b kv.1).isSome = true := (h kv.1).symm.trans h1
    obtain ⟨v, hv⟩ := Option.isSome_iff_exists.mp h2
    exact List.mem_map.mpr ⟨_, aget_mem hv, rfl⟩
  have l1 := nodup_len n1 (key hk)
  have l2 := nodup_len n2 (key fun k => (hk k).symm)
  rw [List.length_map, List.length_map] at l1 l2
  lia
theorem hits_of {A : Around} {s : Shared} {e1 e2 : List (K × V)} {k1 k2 : List (K × Value)} (r1 : KRel e1 k1) (r2 : KRel e2 k2) (n1 : (k1.map (·.1)).Nodup) (n2 : (k2.map (·.1)).Nodup) (hk : ∀ k, (kget e1 k).isSome = (kget e2 k).isSome)
    (hv : ∀ k u v, kget e1 k = some u → kget e2 k = some v → ∀ x y, VIs u x → VIs v y → EqHere prog c.w A s x y) : k1.length = k2.length ∧ ∀ (i : Nat) k v, k1[i]? = some (k, v) → ∃ y, valueAt k2 k = some y ∧ EqHere prog c.w A s v y := by
  rw [← r1.keys] at n1
  rw [← r2.keys] at n2
  refine ⟨by rw [← r1.length, ← r2.length]; exact keys_len n1 n2 hk, fun i k x hx => ?_⟩
  obtain ⟨u, hu, hi⟩ := krel_at r1 hx
  have h1 : kget e1 k = some u := aget_of_mem n1 (List.mem_of_getElem? hu)
  have h2 : (kget e2 k).isSome = true := by rw [← hk k, h1]; rfl
  obtain ⟨v, hv2⟩ := Option.isSome_iff_exists.mp h2
  obtain ⟨y, hy, hiy⟩ := r2.some hv2
  exact ⟨y, hy, hv k u v h1 hv2 x y hi hiy⟩
theorem tup_at {s : Shared} {A : Around} (S : Sit prog c m n s) (hu : A.units + 5 < cLine) {t1 t2 : Addr} {us : List V} (h1 : n t1 = some (.tup us)) (h2 : n t2 = some (.tup us)) (hf : ∀ u ∈ us, FlatV u) : SeqAt.EqAt A s (.ref t1) (.ref t2) true := by
    by_cases e : t1 = t2
    · subst e; exact SeqAt.EqAt.same _
    · obtain ⟨_, vs1, _, g1, _, r1⟩ := S.tup h1
      obtain ⟨_, vs2, _, g2, _, r2⟩ := S.tup h2
      refine SeqAt.EqAt.of_refs e ?_
      have hl : vs1.size = vs2.size := by rw [← Array.length_toList, ← Array.length_toList, ← VRel.length r1, ← VRel.length r2]
      have := SeqAt.RcAt.tuples (A := A) (e := fun _ => true) g1 g2 (by lia) (fun j h1 h2 => by
        have l1 : j < us.length := by rw [VRel.length r1, Array.length_toList]; exact h1
        obtain ⟨x1, q1, q2⟩ := r1.at (List.getElem?_eq_getElem l1)
        obtain ⟨x2, q3, q4⟩ := r2.at (List.getElem?_eq_getElem l1)
        rw [Array.getElem?_toList, Array.getElem?_eq_getElem h1] at q1
        rw [Array.getElem?_toList, Array.getElem?_eq_getElem h2] at q3
        cases q1; cases q3
        exact flat_here (hf _ (List.getElem_mem l1)) q2 q4)
      have e2 : ((List.range (min vs1.size vs2.size)).all (fun _ => true) && vs1.size == vs2.size) = true := by rw [hl]; simp
      rw [e2] at this
      exact this
set_option tactic.hygienic true in
theorem VEq.here {s : Shared} {A : Around} (H : COk c) (S : Sit prog c m n s) (hu : A.units + 5 < cLine) {u v : V} {x y : Value} (h : VEq n u v) (hx : VIs u x) (hy : VIs v y) : EqHere prog c.w A s x y := by
  cases h with
  | flat hf => exact .of (flat_here hf hx hy)
  | tup h1 h2 hf => cases hx; cases hy; exact .of (tup_at S hu h1 h2 hf)
  | sd h1 h2 hf =>
    rename_i a b es ep1 ep2
    cases hx; cases hy
    by_cases e : a = b
    · subst e; exact .of (SeqAt.EqAt.same _)
    · obtain ⟨ob1, k1, g1, d1, r1⟩ := S.sd h1
      obtain ⟨ob2, k2, g2, d2, r2⟩ := S.sd h2
      obtain ⟨hl, hh⟩ := hits_of (prog := prog) (c := c) (A := A.in1) (s := s) r1 r2 (by obtain ⟨_, _, _, _, _, q⟩ := d1; exact q) (by obtain ⟨_, _, _, _, _, q⟩ := d2; exact q) (fun _ => rfl) (fun k u v q1 q2 x y hx hy => by
        rw [q1] at q2; cases q2
        exact .of (flat_here (hf _ (aget_mem q1)) hx hy))
      intro E Q hq
      unfold eqBool
      refine wpAny_holding ?_
      refine wpAny_ite_split (fun hab => absurd (by have := eq_of_beq hab; injection this) e) (fun _ => ?_)
      exact wpAny_bind (eq_tables (S.notMods H h1) (S.notMods H h2) (d1.at g1).dictOf (d2.at g2).dictOf (by lia) hl hh (wpAny_truthy_bool hq))
theorem cmp_ne_sd {a b : Addr} {e1 e2 : List (Str × V)} {p1 p2 : Nat} (h1 : n a = some (.sd e1 p1)) (h2 : n b = some (.sd e2 p2)) (hk : ∀ k, (kget e1 k).isSome = (kget e2 k).isSome) (hv : ∀ k u v, kget e1 k = some u → kget e2 k = some v → VEq n u v) (h : Q (.bool false) n) : Cmp prog c m n .NotEq (.ref a) (.ref b) Q X := by
  rintro _ _ ⟨⟩ ⟨⟩
  refine Ev.of fun H s S => ?_
  have hun := H.un
  have hcl : cLine = 9900 := rfl
  obtain ⟨ob1, k1, g1, d1, r1⟩ := S.sd h1
  obtain ⟨ob2, k2, g2, d2, r2⟩ := S.sd h2
  obtain ⟨hl, hh⟩ := hits_of (prog := prog) (c := c) (A := c.A.in1) (s := s) r1 r2 (by obtain ⟨_, _, _, _, _, q⟩ := d1; exact q) (by obtain ⟨_, _, _, _, _, q⟩ := d2; exact q) hk
    (fun k u v q1 q2 x y hx hy => (hv k u v q1 q2).here H S (by show c.A.units + 1 + 5 < cLine; lia) hx hy)
  exact ne_tables (S.notMods H h1) (S.notMods H h2) (d1.at g1).dictOf (d2.at g2).dictOf (by lia) hl hh ⟨_, n, .bool _, S, h⟩
theorem cmp_eq_idd {a b : Addr} {e1 e2 : List (Int × V)} {p1 p2 : Nat} (h1 : n a = some (.idd e1 p1)) (h2 : n b = some (.idd e2 p2)) (hk : ∀ k, (kget e1 k).isSome = (kget e2 k).isSome) (hv : ∀ k u v, kget e1 k = some u → kget e2 k = some v → VEq n u v) (h : Q (.bool true) n) : Cmp prog c m n .Eq (.ref a) (.ref b) Q X := by
  rintro _ _ ⟨⟩ ⟨⟩
  refine Ev.of fun H s S => ?_
  have hun := H.un
  have hcl : cLine = 9900 := rfl
  obtain ⟨ob1, k1, g1, d1, r1⟩ := S.idd h1
  obtain ⟨ob2, k2, g2, d2, r2⟩ := S.idd h2
  obtain ⟨hl, hh⟩ := hits_of (prog := prog) (c := c) (A := c.A.in1) (s := s) r1 r2 (by obtain ⟨_, _, _, _, _, q⟩ := d1; exact q) (by obtain ⟨_, _, _, _, _, q⟩ := d2; exact q) hk
    (fun k u v q1 q2 x y hx hy => (hv k u v q1 q2).here H S (by show c.A.units + 1 + 5 < cLine; lia) hx hy)
  exact eq_tables (S.notMods H h1) (S.notMods H h2) (d1.at g1).dictOf (d2.at g2).dictOf (by lia) hl hh ⟨_, n, .bool _, S, h⟩
theorem ans_at {s : Shared} {A : Around} (S : Sit prog c m n s) (hu : A.units + 5 < cLine) {u v : V} {a : Ans} (h : AnsAt n u a) (h' : AnsAt n v a) {x y : Value} (hx : VIs u x) (hy : VIs v y) : SeqAt.EqAt A s x y true := by
  cases a with
  | one w => obtain ⟨rfl, h1⟩ := h; obtain ⟨rfl, _⟩ := h'; exact flat_here h1 hx hy
  | two w z =>
    obtain ⟨t1, rfl, g1, f1, f2⟩ := h
    obtain ⟨t2, rfl, g2, _, _⟩ := h'
    cases hx; cases hy
    exact tup_at S hu g1 g2 fun u hu => by
      simp only [List.mem_cons, List.not_mem_nil, or_false] at hu
      rcases hu with rfl | rfl
      · exact f1
      · exact f2
theorem ansl_at {vs us : List V} {as : List Ans} (h : AnsL n vs as) (h' : AnsL n us as) : ∀ (i : Nat) u v, vs[i]? = some u → us[i]? = some v → ∃ a, AnsAt n u a ∧ AnsAt n v a := by
  induction h generalizing us with
  | nil => intro i u v e; simp at e
  | cons h1 _ ih =>
    cases h' with
    | cons h2 h3 =>
      intro i u v e1 e2
      cases i with
      | zero => simp only [List.getElem?_cons_zero, Option.some.injEq] at e1 e2; subst e1 e2; exact ⟨_, h1, h2⟩
      | succ i => simp only [List.getElem?_cons_succ] at e1 e2; exact ih h3 i u v e1 e2
theorem cmp_ne_ans {a b : Addr} {vs us : List V} {as : List Ans} (h1 : n a = some (.list vs)) (h2 : n b = some (.list us)) (g1 : AnsL n vs as) (g2 : AnsL n us as) (h : Q (.bool false) n) : Cmp prog c m n .NotEq (.ref a) (.ref b) Q X := by
  rintro _ _ ⟨⟩ ⟨⟩
  refine Ev.of fun H s S => ?_
  have hun := H.un
  have hcl : cLine = 9900 := rfl
  obtain ⟨_, xs, _, l1, _, r1⟩ := S.list h1
  obtain ⟨_, ys, _, l2, _, r2⟩ := S.list h2
  have hl : xs.size = ys.size := by rw [← Array.length_toList, ← Array.length_toList, ← VRel.length r1, ← VRel.length r2, g1.length, g2.length]
  have := SeqAt.RcNeAt.lists (A := c.A) (e := fun _ => true) l1 l2 hl (by lia) (fun j q1 q2 => by
    have p1 : j < vs.length := by rw [VRel.length r1, Array.length_toList]; exact q1
    have p2 : j < us.length := by rw [VRel.length r2, Array.length_toList]; exact q2
    obtain ⟨x1, w1, w2⟩ := r1.at (List.getElem?_eq_getElem p1)
    obtain ⟨x2, w3, w4⟩ := r2.at (List.getElem?_eq_getElem p2)
    rw [Array.getElem?_toList, Array.getElem?_eq_getElem q1] at w1
    rw [Array.getElem?_toList, Array.getElem?_eq_getElem q2] at w3
    cases w1; cases w3
    obtain ⟨a, a1, a2⟩ := ansl_at g1 g2 j _ _ (List.getElem?_eq_getElem p1) (List.getElem?_eq_getElem p2)
    exact ans_at S (by show c.A.units + 1 + 5 < cLine; lia) a1 a2 w2 w4)
  have e2 : (!(List.range xs.size).all (fun _ => true)) = false := by simp
  rw [e2] at this
  exact this prog c.w _ _ ⟨_, n, .bool _, S, h⟩
end

-- part E11
set_option maxHeartbeats 2000000
noncomputable def joinL {K : Type} [DecidableEq K] (e1 e2 : List (K × V)) : List (K × V) := e2.foldl (fun acc kv => kput acc kv.1 kv.2) e1
theorem joinL_len {K : Type} [DecidableEq K] : ∀ {e2 e1 : List (K × V)}, (joinL e1 e2).length ≤ e1.length + e2.length
  | [], _ => Nat.le_refl _
  | kv :: e2, e1 => by
    have h := joinL_len (e2 := e2) (e1 := kput e1 kv.1 kv.2)
    have h2 := length_kput (es := e1) (k := kv.1) (v := kv.2)
    have h : (joinL e1 (kv :: e2)).length ≤ _ := h
    rw [List.length_cons]; lia
theorem joinL_get {K : Type} [DecidableEq K] {k : K} : ∀ {e2 e1 : List (K × V)}, (e2.map (·.1)).Nodup → kget (joinL e1 e2) k = (kget e2 k).or (kget e1 k)
  | [], _, _ => rfl
  | kv :: e2, e1, h => by
    rw [List.map_cons, List.nodup_cons] at h
    have ih := joinL_get (k := k) (e1 := kput e1 kv.1 kv.2) h.2
    show kget (joinL (kput e1 kv.1 kv.2) e2) k = _
    rw [ih, kget_kput]
    have e : kget (kv :: e2) k = if kv.1 = k then some kv.2 else kget e2 k := aget_cons kv.1 kv.2 e2 k
    rw [e]
    by_cases q : kv.1 = k
    · have hn : kget e2 k = none := aget_none.mpr fun x hx q2 => h.1 (List.mem_map.mpr ⟨x, hx, by rw [q2, q]⟩)
      rw [if_pos q, if_pos q.symm, hn]; rfl
    · rw [if_neg q, if_neg (Ne.symm q)]
section
variable {prog : Program} {c : Cx} {m : Loc} {n : Led} {X : Str → Led → Prop} {Q : V → Led → Prop} {N : Loc → Led → Prop} {R : V → Led → Prop} {pos : Pos}
theorem ev_callT {x : Str} {T : String} {np : Pos} {e : Expr} {args : List Expr} {sc : Scope} (hs : c.env.scope = sc) (hk : sc.names.lookup x = some .globalImplicit) (g : BuiltinIs c.w x (.type T))
    (h : Es prog c m n (spliced (backTo pos (starEach (e :: args) c.env))) (fun us n' => ∀ vs, VRel us vs → Ev prog c m n' (call (.type T) vs) Q X) X)
    (he : starEach (e :: args) c.env = (false, eval e c.env) :: starEach args c.env := by with_unfolding_all rfl)
    (hp : (backTo pos (starEach args c.env)).any (·.1) = false := by with_unfolding_all rfl) (hd : (x == ("__debug__" : Str)) = false := by with_unfolding_all rfl) : Ev prog c m n (eval (.Call (.Name x np) (e :: args) [] pos) c.env) Q X := by
  show Wp prog c m n (eval (.Name x np) c.env >>= fun f => callWith pos f [] (backTo pos (starEach (e :: args) c.env)) (backToKw pos (keywordEach [] c.env))) _ X
  exact Wp.bind (wp_builtin hs hk g (fun H s S => callWith_type1 (wpAny_mono (h H s S) (fun vs s₁ ⟨n₁, S₁, us, hus, q⟩ => q vs hus H s₁ S₁) fun _ _ x => x) he hp) hd)
theorem call_dict_sd {a : Addr} {es : List (Str × V)} {ep : Nat} (ha : n a = some (.sd es ep)) (hz : es.length ≤ sizeLine) (h : ∀ b n' ep', n b = none → Keeps [] n n' → n' b = some (.sd es ep') → Q (.ref b) n') : Ev prog c m n (call (.type "dict") [.ref a]) Q X := Ev.of fun H s S => by
  obtain ⟨ob, kvs, h1, h2, h3⟩ := S.sd ha
  refine kt_call_dict (knd := PySem.strKind prog c.w) (S.notMods H ha) (h2.at h1).dictOf (by rw [← h3.length]; exact hz) fun h' hd hs => ?_
  obtain ⟨ob', ep', ho', hd'⟩ := DictIs.of hd
  obtain ⟨b0, S'⟩ := S.newK (tk := s.toks) (o := .sd es ep') (a := s.heap.objs.size) (h' := h') (fun b o e => (hs.2 b (Nat.ne_of_lt (Heap.lt_size e))).trans (Heap.get?_push_of_some _ e)) (fun b o e => Heap.lt_size e) ho' ⟨_, hd', h3⟩
  exact ⟨_, _, .ref _, S', h _ _ ep' b0 (keeps_new b0) (Led.set_self _ _ _)⟩
theorem ex_nodup_sd {t : Sem Flow} {a : Addr} {es : List (Str × V)} {ep : Nat} (ha : n a = some (.sd es ep)) (h : (es.map (·.1)).Nodup → Ex prog c m n t N R X) : Ex prog c m n t N R X := fun H s S => by
  obtain ⟨ob, kvs, h1, h2, h3⟩ := S.sd ha
  refine h ?_ H s S
  rw [h3.keys]
  obtain ⟨_, _, _, _, _, q⟩ := h2
  exact q
theorem call_dict_idd {a : Addr} {es : List (Int × V)} {ep : Nat} (ha : n a = some (.idd es ep)) (hz : es.length ≤ sizeLine) (h : ∀ b n' ep', n b = none → Keeps [] n n' → n' b = some (.idd es ep') → Q (.ref b) n') : Ev prog c m n (call (.type "dict") [.ref a]) Q X := Ev.of fun H s S => by
  obtain ⟨ob, kvs, h1, h2, h3⟩ := S.idd ha
  refine kt_call_dict (knd := PySem.intKind prog c.w) (S.notMods H ha) (h2.at h1).dictOf (by rw [← h3.length]; exact hz) fun h' hd hs => ?_
  obtain ⟨ob', ep', ho', hd'⟩ := DictIs.of hd
  obtain ⟨b0, S'⟩ := S.newK (tk := s.toks) (o := .idd es ep') (a := s.heap.objs.size) (h' := h') (fun b o e => (hs.2 b (Nat.ne_of_lt (Heap.lt_size e))).trans (Heap.get?_push_of_some _ e)) (fun b o e => Heap.lt_size e) ho' ⟨_, hd', h3⟩
  exact ⟨_, _, .ref _, S', h _ _ ep' b0 (keeps_new b0) (Led.set_self _ _ _)⟩
theorem ex_nodup_idd {t : Sem Flow} {a : Addr} {es : List (Int × V)} {ep : Nat} (ha : n a = some (.idd es ep)) (h : (es.map (·.1)).Nodup → Ex prog c m n t N R X) : Ex prog c m n t N R X := fun H s S => by
  obtain ⟨ob, kvs, h1, h2, h3⟩ := S.idd ha
  refine h ?_ H s S
  rw [h3.keys]
  obtain ⟨_, _, _, _, _, q⟩ := h2
  exact q
end
section
variable {prog : Program} [ProgOk prog] {c : Cx} {n : Led} {X : Str → Led → Prop} {Q : V → Led → Prop}
theorem fn_law_joined_sd {x y : Addr} {e1 e2 : List (Str × V)} {p1 p2 : Nat} (hlv : 4 < c.lv) (hh : c.A.handled = none) (h1 : n x = some (.sd e1 p1)) (h2 : n y = some (.sd e2 p2)) (hz : e1.length + e2.length ≤ sizeLine)
    (h : ∀ b n' es ep, n b = none → Keeps [] n n' → n' b = some (.sd es ep) → (∀ k, kget es k = (kget e2 k).or (kget e1 k)) → Q (.ref b) n') : Fn prog c n (.ref 268) [.ref x, .ref y] Q X := by
  wtm_at "enter"
  have I := ‹InFn _ _ _ _›
  refine ex_nodup_sd h2 fun hnd => ?_
  refine ex_cons (ex_assign I.scope (by rfl) (ev_callT I.scope (by rfl) (bi_dict _) (es_cons (ev_local I.scope (by rfl) (by rfl) (es_nil fun vs hv => ?_)))))
  rcases hv with _ | ⟨⟨⟩, _ | _⟩
  refine call_dict_sd h1 (by lia) fun b n1 q1 hb hk1 hb1 => ?_
  have hy1 : n1 y = some (.sd e2 p2) := hk1.at h2
  have nby : y ≠ b := fun q => by rw [q, hb] at h2; cases h2
  refine ex_cons ?_
  refine ex_for e2.length (fun it i m' n' => m' = ([("found", .ref b), ("one", .ref x), ("other", .ref y)] : Loc) ∧ i ≤ e2.length ∧ n it = none ∧ (∃ ep', n' b = some (.sd (joinL e1 (e2.take i)) ep')) ∧ n' y = some (.sd e2 p2) ∧ ItOf n' it "dict_keyiterator" #[.ref y, .int i 0, .int e2.length 0, .int p2 0] ∧ Keeps [] n n') ?_ ?_
  · refine ev_local I.scope (by rfl) (by rfl) (it_sd hy1 fun it n2 hn hk2 hit => ⟨rfl, Nat.zero_le _, hk1.back hn, ⟨q1, hk2.at hb1⟩, hk2.at hy1, hit, hk1.trans hk2⟩)
  · rintro it i _ n' ⟨rfl, hi, hn0, ⟨ep', hb'⟩, hy', hit, hk'⟩
    refine ⟨hi, nx_sd (I.hd.trans hh) hit hy' (fun kv n3 hkv hk3 hit3 => ?_) fun n3 hn hk3 => ?_⟩
    · have hl : i < e2.length := (List.getElem?_eq_some_iff.mp hkv).1
      obtain ⟨k, v⟩ := kv
      have hgv : kget e2 k = some v := aget_of_mem hnd (List.mem_of_getElem? hkv)
      have nbi := hit.ne hb' (fun _ q => nomatch q)
      have nyi := hit.ne hy' (fun _ q => nomatch q)
      have hb3 : n3 b = some (.sd (joinL e1 (e2.take i)) ep') := (hk3 b (by rw [hb']; exact Option.some_ne_none _) (by simpa using nbi)).trans hb'
      have hy3 : n3 y = some (.sd e2 p2) := (hk3 y (by rw [hy']; exact Option.some_ne_none _) (by simpa using nyi)).trans hy'
      have kk3 : Keeps [] n n3 := fun z hz hf => by
        have ezn := hk' z hz hf
        exact (hk3 z (by rw [ezn]; exact hz) (by simp only [List.mem_singleton]; intro q; rw [q] at hz; exact hz hn0)).trans ezn
      refine asg_name I.scope (by rfl) (ex_one (ex_setitem (ev_sub (ev_local I.scope (by rfl) (by rfl) (ev_local I.scope (by rfl) (by rfl) (sub_sd hy3 hgv (ev_local I.scope (by rfl) (by rfl) (ev_local I.scope (by rfl) (by rfl) ?_))))))))
      have hlen : (joinL e1 (e2.take i)).length ≤ e1.length + e2.length := by
        have := joinL_len (e1 := e1) (e2 := e2.take i)
        rw [List.length_take] at this; lia
      refine st_sd hb3 (by lia) fun ep2 => ?_
      have htk : joinL e1 (e2.take (i + 1)) = kput (joinL e1 (e2.take i)) k v := by
        unfold joinL
        rw [List.take_add_one, hkv, List.foldl_append]; rfl
      refine ⟨[("found", .ref b), ("one", .ref x), ("other", .ref y)], by wtm_at "lsub", rfl, hl, hn0, ⟨ep2, by rw [Led.set_self, htk]⟩, (Led.set_ne _ _ nby).trans hy3, ?_, fun z hz hf => (Led.set_ne _ _ fun q => by rw [q] at hz; exact hz hb).trans (kk3 z hz hf)⟩
      obtain ⟨o, ho, r⟩ := hit3
      exact ⟨o, (Led.set_ne _ _ (fun q => nbi q.symm)).trans ho, r⟩
    · have hl : ¬ i < e2.length := fun q => by
        rw [List.getElem?_eq_none_iff] at hn; lia
      have nbi := hit.ne hb' (fun _ q => nomatch q)
      have hb3 : n3 b = some (.sd (joinL e1 (e2.take i)) ep') := (hk3 b (by rw [hb']; exact Option.some_ne_none _) (by simpa using nbi)).trans hb'
      rw [List.take_of_length_le (by lia)] at hb3
      have kk3 : Keeps [] n n3 := fun z hz hf => by
        have ezn := hk' z hz hf
        exact (hk3 z (by rw [ezn]; exact hz) (by simp only [List.mem_singleton]; intro q; rw [q] at hz; exact hz hn0)).trans ezn
      exact ex_one (ex_ret (ev_local I.scope (by rfl) (by rfl) (h b n3 _ ep' hb kk3 hb3 fun k => joinL_get hnd)))
theorem fn_law_joined_idd {x y : Addr} {e1 e2 : List (Int × V)} {p1 p2 : Nat} (hlv : 4 < c.lv) (hh : c.A.handled = none) (h1 : n x = some (.idd e1 p1)) (h2 : n y = some (.idd e2 p2)) (hz : e1.length + e2.length ≤ sizeLine)
    (h : ∀ b n' es ep, n b = none → Keeps [] n n' → n' b = some (.idd es ep) → (∀ k, kget es k = (kget e2 k).or (kget e1 k)) → Q (.ref b) n') : Fn prog c n (.ref 268) [.ref x, .ref y] Q X := by
  wtm_at "enter"
  have I := ‹InFn _ _ _ _›
  refine ex_nodup_idd h2 fun hnd => ?_
  refine ex_cons (ex_assign I.scope (by rfl) (ev_callT I.scope (by rfl) (bi_dict _) (es_cons (ev_local I.scope (by rfl) (by rfl) (es_nil fun vs hv => ?_)))))
  rcases hv with _ | ⟨⟨⟩, _ | _⟩
  refine call_dict_idd h1 (by lia) fun b n1 q1 hb hk1 hb1 => ?_
  have hy1 : n1 y = some (.idd e2 p2) := hk1.at h2
  have nby : y ≠ b := fun q => by rw [q, hb] at h2; cases h2
  refine ex_cons ?_
  refine ex_for e2.length (fun it i m' n' => m' = ([("found", .ref b), ("one", .ref x), ("other", .ref y)] : Loc) ∧ i ≤ e2.length ∧ n it = none ∧ (∃ ep', n' b = some (.idd (joinL e1 (e2.take i)) ep')) ∧ n' y = some (.idd e2 p2) ∧ ItOf n' it "dict_keyiterator" #[.ref y, .int i 0, .int e2.length 0, .int p2 0] ∧ Keeps [] n n') ?_ ?_
  · refine ev_local I.scope (by rfl) (by rfl) (it_idd hy1 fun it n2 hn hk2 hit => ⟨rfl, Nat.zero_le _, hk1.back hn, ⟨q1, hk2.at hb1⟩, hk2.at hy1, hit, hk1.trans hk2⟩)
  · rintro it i _ n' ⟨rfl, hi, hn0, ⟨ep', hb'⟩, hy', hit, hk'⟩
    refine ⟨hi, nx_idd (I.hd.trans hh) hit hy' (fun kv n3 hkv hk3 hit3 => ?_) fun n3 hn hk3 => ?_⟩
    · have hl : i < e2.length := (List.getElem?_eq_some_iff.mp hkv).1
      obtain ⟨k, v⟩ := kv
      have hgv : kget e2 k = some v := aget_of_mem hnd (List.mem_of_getElem? hkv)
      have nbi := hit.ne hb' (fun _ q => nomatch q)
      have nyi := hit.ne hy' (fun _ q => nomatch q)
      have hb3 : n3 b = some (.idd (joinL e1 (e2.take i)) ep') := (hk3 b (by rw [hb']; exact Option.some_ne_none _) (by simpa using nbi)).trans hb'
      have hy3 : n3 y = some (.idd e2 p2) := (hk3 y (by rw [hy']; exact Option.some_ne_none _) (by simpa using nyi)).trans hy'
      have kk3 : Keeps [] n n3 := fun z hz hf => by
        have ezn := hk' z hz hf
        exact (hk3 z (by rw [ezn]; exact hz) (by simp only [List.mem_singleton]; intro q; rw [q] at hz; exact hz hn0)).trans ezn
      refine asg_name I.scope (by rfl) (ex_one (ex_setitem (ev_sub (ev_local I.scope (by rfl) (by rfl) (ev_local I.scope (by rfl) (by rfl) (sub_idd hy3 hgv (ev_local I.scope (by rfl) (by rfl) (ev_local I.scope (by rfl) (by rfl) ?_))))))))
      have hlen : (joinL e1 (e2.take i)).length ≤ e1.length + e2.length := by
        have := joinL_len (e1 := e1) (e2 := e2.take i)
        rw [List.length_take] at this; lia
      refine st_idd hb3 (by lia) fun ep2 => ?_
      have htk : joinL e1 (e2.take (i + 1)) = kput (joinL e1 (e2.take i)) k v := by
        unfold joinL
        rw [List.take_add_one, hkv, List.foldl_append]; rfl
      refine ⟨[("found", .ref b), ("one", .ref x), ("other", .ref y)], by wtm_at "lsub", rfl, hl, hn0, ⟨ep2, by rw [Led.set_self, htk]⟩, (Led.set_ne _ _ nby).trans hy3, ?_, fun z hz hf => (Led.set_ne _ _ fun q => by rw [q] at hz; exact hz hb).trans (kk3 z hz hf)⟩
      obtain ⟨o, ho, r⟩ := hit3
      exact ⟨o, (Led.set_ne _ _ (fun q => nbi q.symm)).trans ho, r⟩
    · have hl : ¬ i < e2.length := fun q => by
        rw [List.getElem?_eq_none_iff] at hn; lia
      have nbi := hit.ne hb' (fun _ q => nomatch q)
      have hb3 : n3 b = some (.idd (joinL e1 (e2.take i)) ep') := (hk3 b (by rw [hb']; exact Option.some_ne_none _) (by simpa using nbi)).trans hb'
      rw [List.take_of_length_le (by lia)] at hb3
      have kk3 : Keeps [] n n3 := fun z hz hf => by
        have ezn := hk' z hz hf
        exact (hk3 z (by rw [ezn]; exact hz) (by simp only [List.mem_singleton]; intro q; rw [q] at hz; exact hz hn0)).trans ezn
      exact ex_one (ex_ret (ev_local I.scope (by rfl) (by rfl) (h b n3 _ ep' hb kk3 hb3 fun k => joinL_get hnd)))
end

-- part E12
set_option maxHeartbeats 2000000
section
variable {prog : Program} {c : Cx} {m : Loc} {n : Led} {X : Str → Led → Prop} {Q : V → Led → Prop} {N : Loc → Led → Prop} {R : V → Led → Prop} {pos : Pos}
/-! ### range -/
noncomputable def RgAt (n : Led) (r : Addr) (k : Int) : Prop := ∃ t u v, n r = some (.raw { cls := .type "range", data := .fields #[.int 0 t, .int k u, .int 1 v] })
noncomputable def RgIt (n : Led) (it : Addr) (x left : Int) : Prop := n it = some (.raw { cls := .type "range_iterator", data := .fields #[rawInt x, rawInt left, rawInt 1] })
theorem call_range {k : Int} {t : Tok} (h : ∀ r n', Keeps [] n n' → RgAt n' r k → Q (.ref r) n') : Ev prog c m n (call (.type "range") [.int k t]) Q X := Ev.of fun H s S => by
  refine call_range_1 ?_
  obtain ⟨a0, S'⟩ := S.new (tk := s.toks + 1 + 1) (o := .raw { cls := .type "range", data := .fields #[.int 0 s.toks, .int k t, .int 1 (s.toks + 1)] }) (a := s.heap.objs.size) (fun b o e => Heap.get?_push_of_some { cls := .type "range", data := .fields #[.int 0 s.toks, .int k t, .int 1 (s.toks + 1)] } e) (Nat.le_refl _) (Heap.get?_push_size _ rfl) rfl
  exact ⟨_, _, .ref _, S', h _ _ (keeps_new a0) ⟨_, _, _, Led.set_self _ _ _⟩⟩
theorem it_range {r : Addr} {k : Int} {Q : Addr → Led → Prop} (ha : RgAt n r k) (hs : Builtin.Range.small 0 k 1 = true) (h : ∀ it n', n it = none → Keeps [] n n' → RgIt n' it 0 (Builtin.Range.rangeSize 0 k 1) → Q it n') : PIt prog c m n (.ref r) Q := by
  rintro _ ⟨⟩ H s S
  obtain ⟨t, u, v, hr⟩ := ha
  obtain ⟨⟨ob, h1, e⟩, _⟩ := S.led _ _ hr
  have e : ob = _ := e
  subst e
  refine wpAny_pyIter_range (a := 0) (b := k) (c := 1) h1 hs ?_
  obtain ⟨a0, S'⟩ := S.new (tk := s.toks) (o := .raw { cls := .type "range_iterator", data := .fields #[rawInt 0, rawInt (Builtin.Range.rangeSize 0 k 1), rawInt 1] }) (a := s.heap.objs.size) (fun b o e => Heap.get?_push_of_some { cls := .type "range_iterator", data := .fields #[rawInt 0, rawInt (Builtin.Range.rangeSize 0 k 1), rawInt 1] } e) (Nat.le_refl _) (Heap.get?_push_size _ rfl) rfl
  exact ⟨_, _, rfl, S', h _ _ a0 (keeps_new a0) (Led.set_self _ _ _)⟩
theorem RgIt.it {it : Addr} {x left : Int} (h : RgIt n it x left) : ItOf n it "range_iterator" #[rawInt x, rawInt left, rawInt 1] := ⟨_, h, rfl, rfl⟩
theorem nx_range {it : Addr} {x left : Int} {Q : Option V → Led → Prop} (hh : c.A.handled = none) (hi : RgIt n it x left) (h1 : ∀ n', 0 < left → Keeps [it] n n' → RgIt n' it (x + 1) (left - 1) → Q (some (.int x)) n') (h2 : ∀ n', left ≤ 0 → Keeps [it] n n' → Q none n') : Nxt prog c m n it Q := fun H s S => by
  obtain ⟨⟨ob, hob, e⟩, _⟩ := S.led it _ hi
  have e : ob = _ := e
  subst e
  by_cases hl : 0 < left
  · refine wpAny_pyNext_range_item hob hl fun h' g1 g2 => ?_
    have S' := S.set (tk := s.toks + 1) (o' := .raw { cls := .type "range_iterator", data := .fields #[rawInt (x + 1), rawInt (left - 1), rawInt 1] }) hi g2 g1 rfl
    exact ⟨_, S', _, .int _ _, h1 _ hl keeps_set (Led.set_self _ _ _)⟩
  · refine wpAny_pyNext_range_end hh hob (by lia) fun h' he => ?_
    exact ⟨_, S.drop (tk := s.toks) hi fun b ob hb hbo => he b ob hb hbo, h2 _ (by lia) Keeps.drop⟩
/-- the same, but for a few addresses -/
noncomputable def FrzX (F : List Addr) (n n' : Led) : Prop := ∀ x o, x ∉ F → n x = some o → (∀ es ep, o ≠ .sd es ep) → (∀ es ep, o ≠ .idd es ep) → (∀ xs, o ≠ .list xs) → (∀ v, o ≠ .cell v) → n' x = some o
theorem ex_forRange {F : List Addr} {x : Str} {xp p rp cp : Pos} {kd : Nat} {k : Nat} {body : List Stmt} {sc : Scope} (hh : c.A.handled = none) (hs : c.env.scope = sc) (hk : sc.names.lookup x = some .local) (hr : sc.names.lookup ("range" : Str) = some .globalImplicit) (hsm : Builtin.Range.small 0 (k : Int) 1 = true) (hsz : Builtin.Range.rangeSize 0 (k : Int) 1 = k)
    (hF : ∀ x ∈ F, n x ≠ none) (P : Nat → Loc → Led → Prop) (h0 : ∀ n', Keeps [] n n' → P 0 m n') (hm : ∀ i m1 n1 n2, P i m1 n1 → Moves n n1 n2 → P i m1 n2)
    (hb : ∀ i : Nat, i < k → ∀ m1 n1, P i m1 n1 → Ex prog c ((x, .int i) :: m1) n1 (execs body c.env) (fun m3 n3 => FrzX F n1 n3 ∧ ∃ m4, LSub m4 m3 ∧ P (i + 1) m4 n3) R NoX)
    (he : ∀ m1 n1, P k m1 n1 → N m1 n1) :
    Ex prog c m n (exec (.For (.Name x xp) (.Call (.Name "range" rp) [.Constant (.int (k : Int)) kd cp] [] pos) body [] p) c.env) N R X := by
  refine ex_for k (fun it i m' n' => i ≤ k ∧ P i m' n' ∧ n it = none ∧ RgIt n' it i ((k : Int) - i)) ?_ ?_
  · refine ev_callT hs hr (bi_range _) (es_cons (ev_int (es_nil fun vs hv => ?_)))
    rcases hv with _ | ⟨⟨⟩, _ | _⟩
    refine call_range fun r n1 hk1 hr1 => it_range hr1 hsm fun it n2 hn hk2 hit => ⟨Nat.zero_le _, h0 _ (hk1.trans hk2), hk1.back hn, ?_⟩
    rw [hsz] at hit
    simpa using hit
  · rintro it i m' n' ⟨hi, hP, hn0, hit⟩
    refine ⟨hi, nx_range hh hit (fun n3 hl hk3 hit3 => ?_) fun n3 hl hk3 => ?_⟩
    · have hP3 := hm i m' n' n3 hP ⟨it, _, _, hit.it, hn0, hk3⟩
      have hi2 : i < k := by lia
      refine asg_name hs hk (Ex.mono (hb i hi2 m' n3 hP3) (fun m4 n4 ⟨hf, m5, hl5, hP5⟩ => ⟨m5, hl5, by lia, hP5, hn0, ?_⟩) (fun _ _ q => q) fun _ _ q => q)
      have e1 : ((i : Int) + 1) = ((i + 1 : Nat) : Int) := by lia
      have e2 : ((k : Int) - i - 1) = (k : Int) - ((i + 1 : Nat) : Int) := by lia
      rw [e1, e2] at hit3
      exact hf _ _ (fun q => hF it q hn0) hit3 (fun _ _ q => nomatch q) (fun _ _ q => nomatch q) (fun _ q => nomatch q) (fun _ q => nomatch q)
    · have hi2 : i = k := by lia
      subst hi2
      exact he m' n3 (hm i m' n' n3 hP ⟨it, _, _, hit.it, hn0, hk3⟩)
/-! ### a cell that a loop stores into -/
noncomputable def CellW (n : Led) (a : Addr) : Prop := (∃ o, n a = some (.raw o) ∧ o.data = .cell none) ∨ ∃ v, n a = some (.cell v)
theorem storeC0 {x : Str} {v : V} {v' : Value} {sc : Scope} {a : Addr} {s : Shared} {Q : Unit → Shared → Prop} {E : Value → Shared → Prop} (H : COk c) (S : Sit prog c m n s) (hs : c.env.scope = sc) (hk : sc.names.lookup x = some .cell) (hc : c.env.cells.lookup x = some a) (ha : CellW n a) (hv : VIs v v')
    (h : ∀ s', Sit prog c m (n.set a (.cell v)) s' → Q () s') : wpAny (model prog c.w) c.A (storeName c.env x v') Q E s := by
  rcases ha with ⟨o, ha, hd⟩ | ⟨v0, ha⟩
  · obtain ⟨⟨ob, h1, e⟩, _⟩ := S.led a _ ha
    have e : ob = o := e
    subst e
    refine wpAny_storeName_cell H.fk (by rw [Env.kindOf, hs]; exact hk) hc ⟨ob, h1, hd⟩ fun h' hx hsb => ?_
    obtain ⟨o', ho', hd'⟩ := hx
    exact h _ (S.set (tk := s.toks) ha hsb ho' ⟨v', hd', hv⟩)
  · exact storeC H S hs hk hc ha hv h
theorem asg_cell {x : Str} {p : Pos} {it a : Addr} {u : V} {P : Loc → Led → Prop} {sc : Scope} (hs : c.env.scope = sc) (hk : sc.names.lookup x = some .cell) (hc : c.env.cells.lookup x = some a) (ha : CellW n a) (h : P m (n.set a (.cell u))) : AsgT prog c m n (.Name x p) it u P := fun H s S v hv =>
  wpAny_of_eq (a := ()) rfl (PyProof.Rows.assign_Name (storeC0 H S hs hk hc ha hv fun s' S' => ⟨_, _, S', h⟩))
theorem CellW.moves {n0 n n' : Led} {a : Addr} (h : CellW n a) (hm : Moves n0 n n') (ha : n0 a ≠ none) : CellW n' a := by
  obtain ⟨it, cls, vs, h1, h2, h3⟩ := hm
  have ne : a ≠ it := fun q => ha (q ▸ h2)
  rcases h with ⟨o, h, r⟩ | ⟨v, h⟩
  · exact .inl ⟨o, (h3 a (by rw [h]; exact Option.some_ne_none _) (by simpa using ne)).trans h, r⟩
  · exact .inr ⟨v, (h3 a (by rw [h]; exact Option.some_ne_none _) (by simpa using ne)).trans h⟩
theorem ex_for01c {x : Str} {xp p tp : Pos} {k0 k1 kt : Nat} {p0 p1 : Pos} {body : List Stmt} {sc : Scope} {a : Addr} (hh : c.A.handled = none) (hs : c.env.scope = sc) (hk : sc.names.lookup x = some .cell) (hc : c.env.cells.lookup x = some a) (hca : CellW n a) (P : Nat → Loc → Led → Prop)
    (h0 : ∀ n', Keeps [] n n' → P 0 m n') (hm : ∀ i m1 n1 n2, P i m1 n1 → Moves n n1 n2 → P i m1 n2) (hset : ∀ i m1 n1 v, P i m1 n1 → CellW n1 a → P i m1 (n1.set a (.cell v)))
    (hb : ∀ i : Nat, i < 2 → ∀ m1 n1, P i m1 n1 → n1 a = some (.cell (.int i)) → Ex prog c m1 n1 (execs body c.env) (fun m3 n3 => Frz n1 n3 ∧ n3 a = some (.cell (.int i)) ∧ ∃ m4, LSub m4 m3 ∧ P (i + 1) m4 n3) R NoX)
    (he : ∀ m1 n1, P 2 m1 n1 → CellW n1 a → N m1 n1) :
    Ex prog c m n (exec (.For (.Name x xp) (.Tuple [.Constant (.int 0) k0 p0, .Constant (.int 1) k1 p1] kt tp) body [] p) c.env) N R X := by
  have na : n a ≠ none := by rcases hca with ⟨o, h, _⟩ | ⟨v, h⟩ <;> (rw [h]; exact fun q => nomatch q)
  have nb : ∀ {n'}, Keeps [] n n' → CellW n' a := fun h => by
    rcases hca with ⟨o, h1, r⟩ | ⟨v, h1⟩
    · exact .inl ⟨o, (h a na (fun q => nomatch q)).trans h1, r⟩
    · exact .inr ⟨v, (h a na (fun q => nomatch q)).trans h1⟩
  refine ex_for 2 (fun it i m' n' => i ≤ 2 ∧ P i m' n' ∧ CellW n' a ∧ n it = none ∧ ∃ t, n' t = some (.tup [.int 0, .int 1]) ∧ ItOf n' it "tuple_iterator" #[.ref t, .int i 0]) ?_ ?_
  · refine ev_tuple (es_cons (ev_int (es_cons (ev_int (es_nil ⟨by rw [szl]; show 2 ≤ _; decide, fun t ht => ?_⟩)))))
    have hk1 : Keeps [] n (n.set t (.tup [.int 0, .int 1])) := keeps_new ht
    refine it_tup (Led.set_self _ _ _) fun it n2 hn hk2 hit => ?_
    exact ⟨by decide, h0 _ (hk1.trans hk2), nb (hk1.trans hk2), hk1.back hn, t, (hk2 t (by rw [Led.set_self]; exact Option.some_ne_none _) List.not_mem_nil).trans (Led.set_self _ _ _), hit⟩
  · intro it i m' n' ⟨hi, hP, hcw, hn0, t, ht, hit⟩
    refine ⟨hi, nx_tup hh hit ht (fun u n3 hu hk3 hit' => ?_) fun n3 hu hk3 => ?_⟩
    · have ht3 : n3 t = some (.tup [.int 0, .int 1]) := (hk3 _ (by rw [ht]; exact Option.some_ne_none _) (by simpa using hit.ne ht fun _ q => nomatch q)).trans ht
      have mv : Moves n n' n3 := ⟨it, _, _, hit, hn0, hk3⟩
      have hP3 := hm i m' n' n3 hP mv
      have hc3 := hcw.moves mv na
      have hi2 : i < 2 := (List.getElem?_eq_some_iff.mp hu).1
      have eu : u = .int i := by
        rcases (by lia : i = 0 ∨ i = 1) with rfl | rfl <;> (cases hu; rfl)
      subst eu
      have nta : t ≠ a := fun q => by subst q; rcases hc3 with ⟨o, h, _⟩ | ⟨v, h⟩ <;> (rw [ht3] at h; cases h)
      have nia : it ≠ a := fun q => na (q ▸ hn0)
      refine asg_cell hs hk hc hc3 (Ex.mono (hb i hi2 m' _ (hset i m' n3 _ hP3 hc3) (Led.set_self _ _ _)) (fun m4 n4 ⟨hf, ha4, m5, hl, hP5⟩ => ⟨m5, hl, by lia, hP5, .inr ⟨_, ha4⟩, hn0, t, hf _ _ ((Led.set_ne _ _ nta).trans ht3) (fun _ _ q => nomatch q) (fun _ _ q => nomatch q) (fun _ q => nomatch q) (fun _ q => nomatch q), ?_⟩) (fun _ _ q => q) fun _ _ q => q)
      obtain ⟨o, ho, r⟩ := hit'
      exact ⟨o, hf _ _ ((Led.set_ne _ _ nia).trans ho) (fun _ _ q => nomatch q) (fun _ _ q => nomatch q) (fun _ q => nomatch q) (fun _ q => nomatch q), r⟩
    · have hi2 : i = 2 := by
        rw [List.getElem?_eq_none_iff] at hu
        have : 2 ≤ i := hu
        lia
      subst hi2
      have mv : Moves n n' n3 := ⟨it, _, _, hit, hn0, hk3⟩
      exact he m' n3 (hm 2 m' n' n3 hP mv) (hcw.moves mv na)
end

-- part E13
set_option maxHeartbeats 2000000
/-! ### a row's own deeds -/
noncomputable def DA (n : Led) (ts : List Addr) (ds : List Deed) : Prop := ts.length = ds.length ∧ ∀ (i : Nat) (t : Addr) (e : Deed), ts[i]? = some t → ds[i]? = some e → n t = some (.tup [.int e.1, .int e.2.1, .int e.2.2.1, .int e.2.2.2])
theorem DA.nil (n : Led) : DA n [] [] := ⟨rfl, fun i t e h => by simp at h⟩
theorem DA.snoc {n : Led} {ts : List Addr} {ds : List Deed} {t : Addr} {e : Deed} (h : DA n ts ds) (ht : n t = some (.tup [.int e.1, .int e.2.1, .int e.2.2.1, .int e.2.2.2])) : DA n (ts ++ [t]) (ds ++ [e]) := by
  refine ⟨by simp [h.1], fun i u x h1 h2 => ?_⟩
  rcases Nat.lt_or_ge i ts.length with hi | hi
  · rw [List.getElem?_append_left hi] at h1
    rw [List.getElem?_append_left (by rw [← h.1]; exact hi)] at h2
    exact h.2 i u x h1 h2
  · rw [List.getElem?_append_right hi] at h1
    rw [List.getElem?_append_right (by rw [← h.1]; exact hi), ← h.1] at h2
    have e0 : i - ts.length = 0 := by
      have := (List.getElem?_eq_some_iff.mp h1).1
      simp at this; lia
    rw [e0] at h1 h2
    cases h1; cases h2
    exact ht
theorem DA.grow {n n' : Led} {ts : List Addr} {ds : List Deed} (h : DA n ts ds) (F : Frz n n') : DA n' ts ds := ⟨h.1, fun i t e h1 h2 => F _ _ (h.2 i t e h1 h2) (fun _ _ q => nomatch q) (fun _ _ q => nomatch q) (fun _ q => nomatch q) (fun _ q => nomatch q)⟩
theorem DeedsAt.mk' {n : Led} {d : Addr} {ts : List Addr} {ds : List Deed} (h1 : n d = some (.list (ts.map V.ref))) (h2 : DA n ts ds) : DeedsAt n d ds := ⟨ts, h1, h2.1, h2.2⟩
section
variable {prog : Program} {c : Cx} {m : Loc} {n : Led} {X : Str → Led → Prop} {Q : V → Led → Prop} {N : Loc → Led → Prop} {R : V → Led → Prop} {pos : Pos}
theorem ev_deeds {dd ra : Addr} {r : Int} {ds : List Deed} {p1 p2 p3 p4 p5 p6 p7 p8 : Pos} {kd : Nat} {sc : Scope} (hlv : 2 < c.lv) (hh : c.A.handled = none) (hs : c.env.scope = sc) (hk : sc.kind = .function) (kr : sc.names.lookup ("row" : Str) = some .cell)
    (kd' : sc.names.lookup ("deeds" : Str) = some .local) (hm : m.lookup ("deeds" : Str) = some (.ref dd)) (hcr : c.env.cells.lookup ("row" : Str) = some ra) (hra : n ra = some (.cell (.int r))) (D : DeedsAt n dd ds) (hz : ds.length ≤ sizeLine)
    (h : ∀ acc n', n acc = none → Keeps [] n n' → DeedsAt n' acc (ds.filter fun d => decide (d.1 = r)) → Q (.ref acc) n') :
    Ev prog c m n (eval (.ListComp (.Name "deed" p1) [⟨.Name "deed" p2, .Name "deeds" p3, [.Compare (.Subscript (.Name "deed" p4) (.Constant (.int 0) kd p5) p6) [.Eq] [.Name "row" p7] p8], 0⟩]
      { kind := .function, names := [((".0" : Str), .local), ("deed", .local), ("row", .free)], isGenerator := false, isCoroutine := false } pos) c.env) Q X := by
  have hclos : closureFor { kind := .function, names := [((".0" : Str), .local), ("deed", .local), ("row", .free)], isGenerator := false, isCoroutine := false } c.env = pure [(("row" : Str), ra)] := by
    simp [closureFor, cellOf, hcr]
  have hrel : relabel { kind := .function, names := [((".0" : Str), .local), ("deed", .local), ("row", .free)], isGenerator := false, isCoroutine := false } c.env =
      { kind := .function, names := [((".0" : Str), .local), ("deed", .local), ("row", .cell)], isGenerator := false, isCoroutine := false } := by
    simp [relabel, hs, hk, Env.kindOf, kr]
  obtain ⟨ts, hd, htl, htup⟩ := D
  refine ev_comp ds.length (fun c2 it acc i m' n' => m' = [] ∧ i ≤ ds.length ∧ n it = none ∧ n acc = none ∧ it ≠ acc ∧ Keeps [] n n' ∧ ItOf n' it "list_iterator" #[.ref dd, .int i 0] ∧
      ∃ us, n' acc = some (.list (us.map V.ref)) ∧ DA n us ((ds.take i).filter fun d => decide (d.1 = r))) hclos hrel rfl (by lia) (by decide) (by decide) ?_ ?_
  · refine ev_local hs kd' hm (it_list hd fun it n1 hn hk1 hit acc hacc c2 I2 => ?_)
    have ne : it ≠ acc := fun q => by subst q; obtain ⟨o, ho, _⟩ := hit; rw [hacc] at ho; cases ho
    have hit2 := hit.grow (keeps_new (o := .list []) hacc)
    exact ⟨self_list (i := 0) hit2, rfl, Nat.zero_le _, hn, hk1.back hacc, ne, hk1.trans (keeps_new hacc), hit2, [], Led.set_self _ _ _, DA.nil n⟩
  · intro c2 it acc i m' n' I2 ⟨e, hi, hn1, hn2, ne, hk, hit, us, hacc, hda⟩
    subst e
    refine ⟨hi, ?_⟩
    have kp : ∀ n3, Keeps [it] n' n3 → Keeps [] n n3 := fun n3 hk3 b hb hf => (hk3 b (by rw [hk b hb hf]; exact hb) (by simp only [List.mem_singleton]; intro q; rw [q] at hb; exact hb hn1)).trans (hk b hb hf)
    have ka : ∀ n3, Keeps [it] n' n3 → n3 acc = n' acc := fun n3 hk3 => hk3 acc (by rw [hacc]; exact Option.some_ne_none _) (by simp only [List.mem_singleton]; exact Ne.symm ne)
    have hd' : n' dd = some (.list (ts.map V.ref)) := hk.at hd
    refine nx_list (I2.hd.trans hh) hit hd' (fun u n3 hu hk3 hit' => ?_) (fun n3 hnone hk3 => ?_)
    · rw [List.getElem?_map] at hu
      obtain ⟨tt, hta, rfl⟩ := Option.map_eq_some_iff.mp hu
      have hl : i < ts.length := (List.getElem?_eq_some_iff.mp hta).1
      obtain ⟨q1, q2, q3, q4, hpi⟩ : ∃ q1 q2 q3 q4, ds[i]? = some (q1, q2, q3, q4) := ⟨_, _, _, _, List.getElem?_eq_getElem (by lia : i < ds.length)⟩
      have hk4 := kp n3 hk3
      have htu := htup i tt _ hta hpi
      have htu3 : n3 tt = some (.tup [.int q1, .int q2, .int q3, .int q4]) := hk4.at htu
      have hcr2 : c2.env.cells.lookup ("row" : Str) = some ra := by rw [I2.cells]; rfl
      have hra3 : n3 ra = some (.cell (.int r)) := hk4.at hra
      have hacc3 := (ka n3 hk3).trans hacc
      have htk : ds.take (i + 1) = ds.take i ++ [(q1, q2, q3, q4)] := by rw [List.take_add_one, hpi]; rfl
      refine asg_name I2.scope (by rfl) ?_
      show Tt _ _ _ _ _ _ _
      refine tt_cmp (ev_sub (ev_local I2.scope (by rfl) (by rfl) (ev_int (sub_tup htu3 (by decide) (by decide) (by rfl) (ev_cell I2.scope (by rfl) hcr2 hra3 (cmp_eq (tr_bool ?_)))))))
      by_cases q : q1 = r
      · rw [if_pos (by simpa using q)]
        refine ev_local I2.scope (by rfl) (by rfl) ?_
        refine ⟨_, hacc3, ?_, [], fun x v h => (by cases h), rfl, by lia, hn1, hn2, ne, fun b hb hf => (Led.set_ne _ _ fun e => by rw [e] at hb; exact hb hn2).trans (hk4 b hb hf), ?_, us ++ [tt], ?_, ?_⟩
        · rw [List.length_map, hda.1]
          have := List.length_filter_le (fun d : Deed => decide (d.1 = r)) (ds.take i)
          rw [List.length_take] at this
          lia
        · obtain ⟨o, ho, r⟩ := hit'
          exact ⟨o, (Led.set_ne _ _ ne).trans ho, r⟩
        · rw [Led.set_self, List.map_append]; rfl
        · rw [htk, List.filter_append, List.filter_cons, if_pos (by simpa using q), List.filter_nil]
          exact hda.snoc htu
      · rw [if_neg (by simpa using q)]
        refine ⟨[], fun x v h => (by cases h), rfl, by lia, hn1, hn2, ne, hk4, hit', us, hacc3, ?_⟩
        rw [htk, List.filter_append, List.filter_cons, if_neg (by simpa using q), List.filter_nil, List.append_nil]
        exact hda
    · have hl : ¬ i < ds.length := fun q => by
        rw [List.getElem?_eq_none_iff, List.length_map] at hnone; lia
      rw [List.take_of_length_le (by lia)] at hda
      exact h acc n3 hn2 (kp n3 hk3) (.mk' ((ka n3 hk3).trans hacc) (hda.grow (kp n3 hk3).frz))
/-! ### the script, which lies with the caller -/
noncomputable def BaseList (c : Cx) (x : Addr) (xs : List V) : Prop := ∃ vs, c.base.IsList x vs ∧ VRel xs vs.toList
theorem ev_slice_b {e : Expr} {l u : Option Expr} {p : Pos} (h : Ev prog c m n (eval e c.env) (fun o n' => ∃ x, o = .ref x ∧ Pt prog c m n' l (fun li n'' => Pt prog c m n'' u (fun ui n3 =>
      ∃ xs ys, BaseList c x xs ∧ xs.length ≤ sizeLine ∧ PickV xs li ui ys ∧ ∀ y n4, n3 y = none → Keeps [] n3 n4 → n4 y = some (.list ys) → Q (.ref y) n4) X) X) X) :
    Ev prog c m n (eval (.Subscript e (.Slice l u none p) pos) c.env) Q X := by
  show Wp prog c m n (eval e c.env >>= fun o => holding [o] (valueOrNone (evalOpt l c.env) >>= fun lv => holding [lv] (valueOrNone (evalOpt u c.env)) >>= fun uv => (holding [lv, uv] (valueOrNone none) >>= fun sv => newFields "slice" [lv, uv, sv])) >>=
    fun i => (standAt pos >>= fun _ => subscriptTail e (.Slice l u none p) o i)) _ X
  refine Ev.bind (Ev.mono h (fun o n' ⟨y, hy, h'⟩ x hx => ?_) fun _ _ x => x)
  subst hy
  cases hx
  intro H s S
  refine wpAny_bind (wpAny_holding (wpAny_bind (wpAny_mono (wp_part h' H s S) (fun lx s1 ⟨n1, S1, li, hl, q1⟩ => ?_) fun _ _ x => x)))
  refine wpAny_bind (wpAny_holding (wpAny_mono (wp_part q1 H s1 S1) (fun ux s2 ⟨n2, S2, ui, hu, q2⟩ => ?_) fun _ _ x => x))
  refine wpAny_bind (wpAny_holding (wpAny_pure ?_))
  unfold newFields
  refine wpAny_newObj_type ?_ (by show [lx, ux, Value.none].toArray.size ≤ sizeLine + 2; simp; decide)
  refine wpAny_bind (wpAny_standAt ?_)
  obtain ⟨xs, ys, ⟨vs, hb, h3⟩, hz, hp, hq⟩ := q2
  have h2 : s2.heap.IsList y vs := by
    obtain ⟨o, ho, r⟩ := hb
    exact ⟨o, S2.keep _ _ ho, r⟩
  have S3 : Sit prog c m n2 { s2 with heap := s2.heap.push { cls := .type "slice", data := .fields #[lx, ux, .none] } } := S2.grow (tk := s2.toks) fun b o e => Heap.get?_push_of_some _ e
  have hpl : IsPart lx li := by
    cases li with
    | none => rw [show lx = .none from hl]; exact .none
    | some i => obtain ⟨t, e⟩ := hl; rw [e]; exact .int i t
  have hpu : IsPart ux ui := by
    cases ui with
    | none => rw [show ux = .none from hu]; exact .none
    | some i => obtain ⟨t, e⟩ := hu; rw [e]; exact .int i t
  have hzz : vs.size ≤ sizeLine := by
    have h4 := VRel.length h3
    have h5 : vs.toList.length = vs.size := Array.length_toList
    lia
  have hl2 := h2.push { cls := .type "slice", data := .fields #[lx, ux, .none] }
  refine tail_any (Heap.IsList.typeIs (s := { s2 with heap := s2.heap.push { cls := .type "slice", data := .fields #[lx, ux, .none] } }) hl2) slot_list_getitem.lookup
    (wpAny_getItem_list_slice hl2 (Heap.IsSliceOf.new ..) hpl hpu .none (by simp) ?_ hzz) (ops := [.ref s2.heap.objs.size, .ref y]) rfl
  generalize hs3 : ({ s2 with heap := s2.heap.push { cls := .type "slice", data := .fields #[lx, ux, .none] } } : Shared) = s3 at S3
  have e3 : s2.heap.push { cls := .type "slice", data := .fields #[lx, ux, .none] } = s3.heap := by rw [← hs3]
  have hv := hp vs.toList h3
  rw [Array.toArray_toList] at hv
  obtain ⟨a0, S4⟩ := S3.new (tk := s3.toks) (o := .list ys) (a := s3.heap.objs.size) (fun b o e => Heap.get?_push_of_some { cls := .type "list", data := .seq (slicePick vs li ui none) } e) (Nat.le_refl _) (Heap.get?_push_size _ rfl) ⟨_, _, rfl, hv⟩
  subst hs3
  exact ⟨_, S4, _, .ref _, hq _ _ a0 (keeps_new a0) (Led.set_self _ _ _)⟩
end
/-! ### three worlds -/
structure T3 (n : Led) (a0 a1 a2 : Ads) (W0 W1 W2 : WS) : Prop where
  r0 : Rep n a0 W0
  r1 : Rep n a1 W1
  r2 : Rep n a2 W2
  d01 : ∀ x, x ∈ foot a0 W0 → x ∈ foot a1 W1 → False
  d02 : ∀ x, x ∈ foot a0 W0 → x ∈ foot a2 W2 → False
  d12 : ∀ x, x ∈ foot a1 W1 → x ∈ foot a2 W2 → False
section
variable {n n' : Led} {a0 a1 a2 a0' a1' a2' : Ads} {W0 W1 W2 W0' W1' W2' : WS}
theorem T3.step0 (T : T3 n a0 a1 a2 W0 W1 W2) (S : Step n a0 W0 n' a0' W0') : T3 n' a0' a1 a2 W0' W1 W2 := by
  obtain ⟨r1, d1⟩ := S.other T.r0 T.r1 fun x h h' => T.d01 x h' h
  obtain ⟨r2, d2⟩ := S.other T.r0 T.r2 fun x h h' => T.d02 x h' h
  exact ⟨S.rep, r1, r2, fun x h h' => d1 x h' h, fun x h h' => d2 x h' h, T.d12⟩
theorem T3.step1 (T : T3 n a0 a1 a2 W0 W1 W2) (S : Step n a1 W1 n' a1' W1') : T3 n' a0 a1' a2 W0 W1' W2 := by
  obtain ⟨r0, d0⟩ := S.other T.r1 T.r0 fun x h h' => T.d01 x h h'
  obtain ⟨r2, d2⟩ := S.other T.r1 T.r2 fun x h h' => T.d12 x h' h
  exact ⟨r0, S.rep, r2, fun x h h' => d0 x h h', T.d02, fun x h h' => d2 x h' h⟩
theorem T3.step2 (T : T3 n a0 a1 a2 W0 W1 W2) (S : Step n a2 W2 n' a2' W2') : T3 n' a0 a1 a2' W0 W1 W2' := by
  obtain ⟨r0, d0⟩ := S.other T.r2 T.r0 fun x h h' => T.d02 x h h'
  obtain ⟨r1, d1⟩ := S.other T.r2 T.r1 fun x h h' => T.d12 x h h'
  exact ⟨r0, r1, S.rep, T.d01, fun x h h' => d0 x h h', fun x h h' => d1 x h h'⟩
theorem T3.grow (T : T3 n a0 a1 a2 W0 W1 W2) (h : Keeps [] n n') : T3 n' a0 a1 a2 W0 W1 W2 := ⟨T.r0.grow h, T.r1.grow h, T.r2.grow h, T.d01, T.d02, T.d12⟩
theorem T3.moves {n0 : Led} (T : T3 n a0 a1 a2 W0 W1 W2) (h : Moves n0 n n') : T3 n' a0 a1 a2 W0 W1 W2 := ⟨T.r0.moves h, T.r1.moves h, T.r2.moves h, T.d01, T.d02, T.d12⟩
end

-- part E14
set_option maxHeartbeats 2000000
/-- the law's own text, as it lies with the run -/
noncomputable def lawFd (w : World) : List Stmt × Scope := match (KK w).lookup 273 with
  | some ⟨_, _, .func fd, _⟩ => match fd.body with
    | .stmts b => (b, fd.scope)
    | _ => ([], fd.scope)
  | _ => ([], default)
theorem with_law {w : World} {name qual : Str} {params : Arguments} {body : List Stmt} {scope : Scope} {dV kV doc pm cdv ct oc : Value} {an od : Option Addr} {osl : Array (Option Value)}
    (ho : (KK w).lookup 273 = some ⟨oc, od, .func (fnOf name qual params body scope dV kV doc pm an cdv ct), osl⟩) {P : List Stmt → Scope → Prop} (h : P body scope) : P (lawFd w).1 (lawFd w).2 := by
  unfold lawFd
  rw [ho]
  exact h
theorem LstAt.ne {n : Led} {a b : Addr} {us : List V} (h : LstAt n a us) {o : O} (hb : n b = some o) (q1 : ∀ xs, o ≠ .list xs) (q2 : ∀ ob, o ≠ .raw ob) : b ≠ a := fun q => by
  subst q
  rcases h with h | ⟨o', vs, k, h, _⟩ <;> (rw [hb] at h; cases h)
  · exact q1 _ rfl
  · exact q2 _ rfl
theorem LstAt.some {n : Led} {a : Addr} {us : List V} (h : LstAt n a us) : n a ≠ none := by
  rcases h with h | ⟨o', vs, k, h, _⟩ <;> (rw [h]; exact fun q => nomatch q)
theorem Moves.keepL {n0 n n' : Led} (h : Moves n0 n n') {x : Addr} {o : O} (e : n x = some o) (hx : n0 x ≠ none ∨ ∀ ob, o ≠ .raw ob) : n' x = some o := by
  obtain ⟨it, cls, vs, h1, h2, h3⟩ := h
  refine (h3 x (by rw [e]; exact Option.some_ne_none _) ?_).trans e
  simp only [List.mem_singleton]
  intro q
  subst q
  rcases hx with hx | hx
  · exact hx h2
  · obtain ⟨ob, h4, _⟩ := h1
    rw [e] at h4; cases h4
    exact hx _ rfl
section
variable {prog : Program} [ProgOk prog] {c : Cx} {n : Led}
/-- the deeds are being cut -/
structure Cuts (sp dd l ra : Addr) (xs : List Int) (i : Nat) (n : Led) : Prop where
  hsp : LstAt n sp [.ref l, .int (4 * i)]
  hl : n l = some (.list (xs.map V.int))
  hne : sp ≠ l
  hdd : ∃ (ds : List Deed) (ts : List Addr), ds.length = i ∧ (∀ d ∈ ds, Rng d) ∧ n dd = some (.list (ts.map V.ref)) ∧ DA n ts ds
  hnd : dd ≠ sp
  hcell : ∃ o, n ra = some (.raw o) ∧ o.data = .cell none
  hnc : ra ≠ sp
  hdl : dd ≠ l
theorem Cuts.grow {n' : Led} {sp dd l ra : Addr} {xs : List Int} {i : Nat} (C : Cuts sp dd l ra xs i n) (h : Keeps [] n n') : Cuts sp dd l ra xs i n' := by
  have nt : ∀ {x : Addr} {o : O}, n x = some o → n' x = some o := fun {x o} e => h.at e
  obtain ⟨h1, h2, h3, ⟨ds, ts, g1, g2, g3, g4⟩, h5, ⟨o, g5, g6⟩, h7, h8⟩ := C
  exact ⟨h1.keep h (fun q => nomatch q), nt h2, h3, ⟨ds, ts, g1, g2, nt g3, g4.grow h.frz⟩, h5, ⟨o, nt g5, g6⟩, h7, h8⟩
theorem law_cuts {sa ra : Addr} {zs : List Int} {N : Loc → Led → Prop} {R : V → Led → Prop} (hlv : 40 < c.lv) (hh : c.A.handled = none) (hn : ∃ o, n ra = some (.raw o) ∧ o.data = .cell none) (hb : BaseList c sa (zs.map .int)) (hz : zs.length ≤ 63) :
    c.env.scope = (lawFd c.w).2 → (∀ n1 sp dd ds, ds.length = 14 → (∀ d ∈ ds, Rng d) → DeedsAt n1 dd ds → (∃ o, n1 ra = some (.raw o) ∧ o.data = .cell none) → Ex prog c [("spool", .ref sp), ("deeds", .ref dd), ("script", .ref sa)] n1 (execs ((lawFd c.w).1.drop 2) c.env) N R NoX) →
      Ex prog c [("script", .ref sa)] n (execs (lawFd c.w).1 c.env) N R NoX := by
  refine with_law (P := fun body sc => c.env.scope = sc → (∀ n1 sp dd ds, ds.length = 14 → (∀ d ∈ ds, Rng d) → DeedsAt n1 dd ds → (∃ o, n1 ra = some (.raw o) ∧ o.data = .cell none) → Ex prog c [("spool", .ref sp), ("deeds", .ref dd), ("script", .ref sa)] n1 (execs (body.drop 2) c.env) N R NoX) →
      Ex prog c [("script", .ref sa)] n (execs body c.env) N R NoX) (by rfl) fun hs hrest => ?_
  have I : InFn { c with lv := c.lv + 1 } c _ c.env.cells := ⟨hs, rfl, rfl, rfl, rfl, rfl, rfl⟩
  -- the spool and the deeds
  refine ex_seq (fun m' n' => ∃ sp dd l, m' = ([("spool", .ref sp), ("deeds", .ref dd), ("script", .ref sa)] : Loc) ∧ Cuts sp dd l ra (zs.take 56) 0 n') ?_ ?_
  · obtain ⟨oc, hc1, hc2⟩ := hn
    refine ex_swap2 I.scope (by wtm_at "swp") (by rfl) hh ?_
    refine ev_tuple (es_cons ?_)
    refine ev_list (es_cons ?_)
    refine ev_slice_b (ev_local I.scope (by rfl) (by rfl) ⟨sa, rfl, ?_⟩)
    refine pt_none (pt_some (ev_int ⟨_, rfl, zs.map .int, (zs.map .int).take 56, hb, by rw [szl, List.length_map]; lia, pick_upto (b := 56) (by decide), fun l n1 hl hk1 hl1 => ?_⟩))
    refine es_cons (ev_int (es_nil ⟨by rw [szl]; show 2 ≤ _; decide, fun sp hsp => ?_⟩))
    refine es_cons (ev_list (es_nil ⟨Nat.zero_le _, fun dd hdd => es_nil ⟨by rw [szl]; show 2 ≤ _; decide, fun t ht => ?_⟩⟩))
    refine tp_tup (Led.set_self _ _ _) (by rfl) ?_
    have k2 : Keeps [] n1 (n1.set sp (.list [.ref l, .int 0])) := keeps_new hsp
    have k3 : Keeps [] (n1.set sp (.list [.ref l, .int 0])) ((n1.set sp (.list [.ref l, .int 0])).set dd (.list [])) := keeps_new hdd
    have k4 : Keeps [] ((n1.set sp (.list [.ref l, .int 0])).set dd (.list [])) (((n1.set sp (.list [.ref l, .int 0])).set dd (.list [])).set t (.tup [.ref sp, .ref dd])) := keeps_new ht
    have nsl : sp ≠ l := fun q => by subst q; rw [hl1] at hsp; cases hsp
    have nds : dd ≠ sp := fun q => by subst q; rw [Led.set_self] at hdd; cases hdd
    have ndl : dd ≠ l := fun q => by
      subst q
      rw [k2 dd (by rw [hl1]; exact Option.some_ne_none _) List.not_mem_nil, hl1] at hdd; cases hdd
    have nrs : ra ≠ sp := fun q => by
      subst q
      have := hk1 ra (by rw [hc1]; exact Option.some_ne_none _) List.not_mem_nil
      rw [hsp, hc1] at this; cases this
    rw [← List.map_take] at hl1
    have C : Cuts sp dd l ra (zs.take 56) 0 ((n1.set sp (.list [.ref l, .int 0])).set dd (.list [])) := by
      have k12 := hk1.trans (k2.trans k3)
      refine ⟨.inl ((Led.set_ne _ _ (Ne.symm nds)).trans (Led.set_self _ _ _)), (k2.trans k3 l (by rw [hl1]; exact Option.some_ne_none _) List.not_mem_nil).trans hl1, nsl, ⟨[], [], rfl, (fun d hd => nomatch hd), Led.set_self _ _ _, DA.nil _⟩, nds, ⟨oc, k12.at hc1, hc2⟩, nrs, ndl⟩
    exact ⟨sp, dd, l, rfl, C.grow k4⟩
  rintro _ n1 ⟨sp, dd, l, rfl, C0⟩
  have hra1 : n1 ra ≠ none := by obtain ⟨o, h, _⟩ := C0.hcell; rw [h]; exact fun q => nomatch q
  -- fourteen deeds
  refine ex_seq (fun m' n' => m' = ([("spool", .ref sp), ("deeds", .ref dd), ("script", .ref sa)] : Loc) ∧ Cuts sp dd l ra (zs.take 56) 14 n') ?_ ?_
  · refine ex_forRange (F := [sp]) (k := 14) hh I.scope (by rfl) (by rfl) (by decide) (by decide) (fun x hx => by
      simp only [List.mem_singleton] at hx; subst hx; exact C0.hsp.some) (fun i m' n' => m' = ([("spool", .ref sp), ("deeds", .ref dd), ("script", .ref sa)] : Loc) ∧ Cuts sp dd l ra (zs.take 56) i n') ?_ ?_ ?_ ?_
    · exact fun n' hk => ⟨rfl, C0.grow hk⟩
    · rintro i m1 n2 n3 ⟨rfl, C⟩ hm
      obtain ⟨h1, h2, h3, ⟨ds, ts, g1, g2, g3, g4⟩, h5, ⟨o, g5, g6⟩, h7, h8⟩ := C
      refine ⟨rfl, ?_, hm.keepL h2 (.inr fun _ q => nomatch q), h3, ⟨ds, ts, g1, g2, hm.keepL g3 (.inr fun _ q => nomatch q), ⟨g4.1, fun i t e e1 e2 => hm.keepL (g4.2 i t e e1 e2) (.inr fun _ q => nomatch q)⟩⟩, h5, ⟨o, hm.keepL g5 (.inl hra1), g6⟩, h7, h8⟩
      rcases h1 with h1 | ⟨o', vs, k, h1, r⟩
      · exact .inl (hm.keepL h1 (.inr fun _ q => nomatch q))
      · exact .inr ⟨o', vs, k, hm.keepL h1 (.inl C0.hsp.some), r⟩
    · rintro i hi m1 n2 ⟨rfl, C⟩
      obtain ⟨h1, h2, h3, ⟨ds, ts, g1, g2, g3, g4⟩, h5, ⟨o, g5, g6⟩, h7, h8⟩ := C
      refine ex_one (ex_expr (em_append (ev_local I.scope (by rfl) (by rfl) ⟨has_list g3, es_cons (ev_tuple ?_)⟩)))
      refine es_cons (ev_fn (es_cons (ev_local I.scope (by rfl) (by rfl) (es_cons (ev_int (es_nil ?_))))))
      refine fn_law_cut (by lia) hh h1 h2 (by lia) (by lia) (by rw [List.length_take]; lia) (by decide) h3 fun v1 n3 a1 b1 k3 s3 => ?_
      have l3 : n3 l = some (.list ((zs.take 56).map V.int)) := (k3 l (by rw [h2]; exact Option.some_ne_none _) (by simpa using Ne.symm h3)).trans h2
      refine es_cons (ev_fn (es_cons (ev_local I.scope (by rfl) (by rfl) (es_cons (ev_int (es_nil ?_))))))
      refine fn_law_cut (by lia) hh s3 l3 (by lia) (by lia) (by rw [List.length_take]; lia) (by decide) h3 fun v2 n4 a2 b2 k4 s4 => ?_
      have l4 : n4 l = some (.list ((zs.take 56).map V.int)) := (k4 l (by rw [l3]; exact Option.some_ne_none _) (by simpa using Ne.symm h3)).trans l3
      refine es_cons (ev_fn (es_cons (ev_local I.scope (by rfl) (by rfl) (es_cons (ev_int (es_nil ?_))))))
      refine fn_law_cut (by lia) hh s4 l4 (by lia) (by lia) (by rw [List.length_take]; lia) (by decide) h3 fun v3 n5 a3 b3 k5 s5 => ?_
      have l5 : n5 l = some (.list ((zs.take 56).map V.int)) := (k5 l (by rw [l4]; exact Option.some_ne_none _) (by simpa using Ne.symm h3)).trans l4
      refine es_cons (ev_fn (es_cons (ev_local I.scope (by rfl) (by rfl) (es_cons (ev_int (es_nil ?_))))))
      refine fn_law_cut (by lia) hh s5 l5 (by lia) (by lia) (by rw [List.length_take]; lia) (by decide) h3 fun v4 n6 a4 b4 k6 s6 => ?_
      have l6 : n6 l = some (.list ((zs.take 56).map V.int)) := (k6 l (by rw [l5]; exact Option.some_ne_none _) (by simpa using Ne.symm h3)).trans l5
      have kk : Keeps [sp] n2 n6 := ((k3.trans k4).trans k5).trans k6
      refine es_nil ⟨by rw [szl]; show 4 ≤ _; decide, fun t ht => es_nil ?_⟩
      have kt : Keeps [] n6 (n6.set t (.tup [.int v1, .int v2, .int v3, .int v4])) := keeps_new ht
      have keep : ∀ {x : Addr} {o : O}, n2 x = some o → x ≠ sp → (n6.set t (.tup [.int v1, .int v2, .int v3, .int v4])) x = some o := fun {x o} e hx => by
        have e6 := (kk x (by rw [e]; exact Option.some_ne_none _) (by simpa using hx)).trans e
        exact kt.at e6
      have hd7 := keep g3 h5
      refine mb_append hd7 (by rw [List.length_map, g4.1, g1, szl]; lia) ?_
      have ntd : t ≠ dd := fun q => by
        subst q
        rw [Led.set_self] at hd7; cases hd7
      have kd : ∀ {x : Addr} {o : O}, (n6.set t (.tup [.int v1, .int v2, .int v3, .int v4])) x = some o → x ≠ dd → ((n6.set t (.tup [.int v1, .int v2, .int v3, .int v4])).set dd (.list (ts.map V.ref ++ [.ref t]))) x = some o := fun e hx => (Led.set_ne _ _ hx).trans e
      have nld : l ≠ dd := Ne.symm h8
      refine ⟨fun x o hx e q1 q2 q3 q4 => kd (keep e (by simpa using hx)) (fun q => by subst q; rw [g3] at e; cases e; exact q3 _ rfl), [("spool", .ref sp), ("deeds", .ref dd), ("script", .ref sa)], by wtm_at "lsub", rfl, ?_, kd (kt.at l6) nld, h3, ⟨ds ++ [(v1, v2, v3, v4)], ts ++ [t], by simp [g1], ?_, by rw [Led.set_self, List.map_append]; rfl, ?_⟩, h5, ⟨o, kd (keep g5 h7) (fun q => by subst q; rw [g3] at g5; cases g5), g6⟩, h7, h8⟩
      · have e : (4 * ((i + 1 : Nat) : Int)) = 4 * (i : Int) + 1 + 1 + 1 + 1 := by lia
        rw [e]
        exact LstAt.keep (F := [dd]) (s6.keep kt (fun q => nomatch q)) (Keeps.set (.inl (.head _))) (by simpa using Ne.symm h5)
      · intro d hd
        rcases List.mem_append.mp hd with hd | hd
        · exact g2 d hd
        · simp only [List.mem_singleton] at hd
          subst hd
          exact ⟨by unfold R01; dsimp only; lia, a2, by dsimp only; lia, a3, by dsimp only; lia, a4, by dsimp only; lia⟩
      · have g7 : DA (n6.set t (.tup [.int v1, .int v2, .int v3, .int v4])) ts ds := ⟨g4.1, fun i u e e1 e2 => keep (g4.2 i u e e1 e2) (h1.ne (g4.2 i u e e1 e2) (fun _ q => nomatch q) (fun _ q => nomatch q))⟩
        have g8 := (g7.snoc (e := (v1, v2, v3, v4)) (Led.set_self _ _ _))
        exact g8.grow (frz_list hd7)
    · exact fun m1 n2 h => h
  rintro _ n2 ⟨rfl, C⟩
  obtain ⟨ds, ts, g1, g2, g3, g4⟩ := C.hdd
  exact hrest n2 sp dd ds g1 g2 (.mk' g3 g4) C.hcell
end

-- part E15
set_option maxHeartbeats 2000000
/-- all but tables stands still -/
noncomputable def Sfe (n n' : Led) : Prop := ∀ x o, n x = some o → (∀ es ep, o ≠ .sd es ep) → (∀ es ep, o ≠ .idd es ep) → n' x = some o
theorem Keeps.sfe {n n' : Led} (h : Keeps [] n n') : Sfe n n' := fun x o e _ _ => h.at e
theorem Step.sfe {n n' : Led} {a a' : Ads} {W W' : WS} (S : Step n a W n' a' W') (R : Rep n a W) : Sfe n n' := fun x o e q1 q2 => S.keepO R e q1 q2
theorem Sfe.frz {n n' : Led} (h : Sfe n n') : Frz n n' := fun x o e a b _ _ => h x o e a b
theorem Sfe.deeds {n n' : Led} (h : Sfe n n') {d : Addr} {ds : List Deed} (D : DeedsAt n d ds) : DeedsAt n' d ds := by
  obtain ⟨ts, h1, h2, h3⟩ := D
  exact ⟨ts, h _ _ h1 (fun _ _ q => nomatch q) (fun _ _ q => nomatch q), h2, fun i t e e1 e2 => h _ _ (h3 i t e e1 e2) (fun _ _ q => nomatch q) (fun _ _ q => nomatch q)⟩
theorem Sfe.cellW {n n' : Led} (h : Sfe n n') {a : Addr} (C : CellW n a) : CellW n' a := by
  rcases C with ⟨o, h1, h2⟩ | ⟨v, h1⟩
  · exact .inl ⟨o, h _ _ h1 (fun _ _ q => nomatch q) (fun _ _ q => nomatch q), h2⟩
  · exact .inr ⟨v, h _ _ h1 (fun _ _ q => nomatch q) (fun _ _ q => nomatch q)⟩
/-- where the law stands, once all deeds were done -/
structure LSt (dd al f l0 l1 : Addr) (ds : List Deed) (s1 s2 : List Ans) (w0 w1 w2 : Addr) (n : Led) (a0 a1 a2 : Ads) (W0 W1 W2 : WS) : Prop where
  t : T3 n a0 a1 a2 W0 W1 W2
  e0 : a0.wa = w0
  e1 : a1.wa = w1
  e2 : a2.wa = w2
  al : n al = some (.list [.ref w1, .ref w2])
  f : n f = some (.list [.ref l0, .ref l1])
  h0 : ∃ vs, n l0 = some (.list vs) ∧ AnsL n vs s1
  h1 : ∃ vs, n l1 = some (.list vs) ∧ AnsL n vs s2
  d : DeedsAt n dd ds
section
variable {dd al f l0 l1 : Addr} {ds : List Deed} {s1 s2 : List Ans} {w0 w1 w2 : Addr} {n n' : Led} {a0 a1 a2 a0' a1' a2' : Ads} {W0 W1 W2 W0' W1' W2' : WS}
theorem LSt.to (L : LSt dd al f l0 l1 ds s1 s2 w0 w1 w2 n a0 a1 a2 W0 W1 W2) (T : T3 n' a0' a1' a2' W0' W1' W2') (h : Sfe n n') (q0 : a0'.wa = a0.wa) (q1 : a1'.wa = a1.wa) (q2 : a2'.wa = a2.wa) : LSt dd al f l0 l1 ds s1 s2 w0 w1 w2 n' a0' a1' a2' W0' W1' W2' where
  t := T
  e0 := q0.trans L.e0
  e1 := q1.trans L.e1
  e2 := q2.trans L.e2
  al := h _ _ L.al (fun _ _ q => nomatch q) (fun _ _ q => nomatch q)
  f := h _ _ L.f (fun _ _ q => nomatch q) (fun _ _ q => nomatch q)
  h0 := let ⟨vs, x, y⟩ := L.h0; ⟨vs, h _ _ x (fun _ _ q => nomatch q) (fun _ _ q => nomatch q), y.frz h.frz⟩
  h1 := let ⟨vs, x, y⟩ := L.h1; ⟨vs, h _ _ x (fun _ _ q => nomatch q) (fun _ _ q => nomatch q), y.frz h.frz⟩
  d := h.deeds L.d
theorem LSt.step0 (L : LSt dd al f l0 l1 ds s1 s2 w0 w1 w2 n a0 a1 a2 W0 W1 W2) (S : Step n a0 W0 n' a0' W0') : LSt dd al f l0 l1 ds s1 s2 w0 w1 w2 n' a0' a1 a2 W0' W1 W2 := L.to (L.t.step0 S) (S.sfe L.t.r0) S.wa rfl rfl
theorem LSt.step1 (L : LSt dd al f l0 l1 ds s1 s2 w0 w1 w2 n a0 a1 a2 W0 W1 W2) (S : Step n a1 W1 n' a1' W1') : LSt dd al f l0 l1 ds s1 s2 w0 w1 w2 n' a0 a1' a2 W0 W1' W2 := L.to (L.t.step1 S) (S.sfe L.t.r1) rfl S.wa rfl
theorem LSt.step2 (L : LSt dd al f l0 l1 ds s1 s2 w0 w1 w2 n a0 a1 a2 W0 W1 W2) (S : Step n a2 W2 n' a2' W2') : LSt dd al f l0 l1 ds s1 s2 w0 w1 w2 n' a0 a1 a2' W0 W1 W2' := L.to (L.t.step2 S) (S.sfe L.t.r2) rfl rfl S.wa
theorem LSt.grow (L : LSt dd al f l0 l1 ds s1 s2 w0 w1 w2 n a0 a1 a2 W0 W1 W2) (h : Keeps [] n n') : LSt dd al f l0 l1 ds s1 s2 w0 w1 w2 n' a0 a1 a2 W0 W1 W2 := L.to (L.t.grow h) h.sfe rfl rfl rfl
theorem LSt.moves {n0 : Led} (L : LSt dd al f l0 l1 ds s1 s2 w0 w1 w2 n a0 a1 a2 W0 W1 W2) (h : Moves n0 n n') : LSt dd al f l0 l1 ds s1 s2 w0 w1 w2 n' a0 a1 a2 W0 W1 W2 where
  t := L.t.moves h
  e0 := L.e0
  e1 := L.e1
  e2 := L.e2
  al := h.keepL L.al (.inr fun _ q => nomatch q)
  f := h.keepL L.f (.inr fun _ q => nomatch q)
  h0 := let ⟨vs, x, y⟩ := L.h0; ⟨vs, h.keepL x (.inr fun _ q => nomatch q), y.map fun v a ha => by
    cases a with
    | one u => exact ha
    | two u w => obtain ⟨t, g1, g2, g3⟩ := ha; exact ⟨t, g1, h.keepL g2 (.inr fun _ q => nomatch q), g3⟩⟩
  h1 := let ⟨vs, x, y⟩ := L.h1; ⟨vs, h.keepL x (.inr fun _ q => nomatch q), y.map fun v a ha => by
    cases a with
    | one u => exact ha
    | two u w => obtain ⟨t, g1, g2, g3⟩ := ha; exact ⟨t, g1, h.keepL g2 (.inr fun _ q => nomatch q), g3⟩⟩
  d := by
    obtain ⟨ts, h1, h2, h3⟩ := L.d
    exact ⟨ts, h.keepL h1 (.inr fun _ q => nomatch q), h2, fun i t e e1 e2 => h.keepL (h3 i t e e1 e2) (.inr fun _ q => nomatch q)⟩
theorem Rep.noCell {n : Led} {a : Ads} {W : WS} (R : Rep n a W) {ra : Addr} {v : V} (hc : CellW n ra) : Rep (n.set ra (.cell v)) a W := by
  have k : ∀ b o, n b = some o → (∀ ob, o ≠ .raw ob) → (∀ u, o ≠ .cell u) → (n.set ra (.cell v)) b = some o := fun b o e q1 q2 => (Led.set_ne _ _ fun q' => by
    subst q'
    rcases hc with ⟨o', h, _⟩ | ⟨u, h⟩ <;> (rw [h] at e; cases e)
    · exact q1 _ rfl
    · exact q2 _ rfl).trans e
  exact {
    inst := k _ _ R.inst (fun _ q => nomatch q) (fun _ q => nomatch q)
    attrs := let ⟨es, ep, h1, r⟩ := R.attrs; ⟨es, ep, k _ _ h1 (fun _ q => nomatch q) (fun _ q => nomatch q), r⟩
    files := let ⟨ep, h1⟩ := R.files; ⟨ep, k _ _ h1 (fun _ q => nomatch q) (fun _ q => nomatch q)⟩
    op := let ⟨ep, h1⟩ := R.op; ⟨ep, k _ _ h1 (fun _ q => nomatch q) (fun _ q => nomatch q)⟩
    fields := let ⟨ep, h1⟩ := R.fields; ⟨ep, k _ _ h1 (fun _ q => nomatch q) (fun _ q => nomatch q)⟩
    recs := fun ch r hr => let ⟨ep, h1⟩ := R.recs ch r hr; ⟨ep, k _ _ h1 (fun _ q => nomatch q) (fun _ q => nomatch q)⟩
    tups := fun nm p hp => k _ _ (R.tups nm p hp) (fun _ q => nomatch q) (fun _ q => nomatch q)
    apart := R.apart }
theorem LSt.setCell (L : LSt dd al f l0 l1 ds s1 s2 w0 w1 w2 n a0 a1 a2 W0 W1 W2) {ra : Addr} {v : V} (hc : CellW n ra) : LSt dd al f l0 l1 ds s1 s2 w0 w1 w2 (n.set ra (.cell v)) a0 a1 a2 W0 W1 W2 := by
  have k : ∀ {b : Addr} {o : O}, n b = some o → (∀ ob, o ≠ .raw ob) → (∀ u, o ≠ .cell u) → (n.set ra (.cell v)) b = some o := fun {b o} e q1 q2 => (Led.set_ne _ _ fun q' => by
    subst q'
    rcases hc with ⟨o', h, _⟩ | ⟨u, h⟩ <;> (rw [h] at e; cases e)
    · exact q1 _ rfl
    · exact q2 _ rfl).trans e
  have an : ∀ v' a, AnsAt n v' a → AnsAt (n.set ra (.cell v)) v' a := fun v' a ha => by
    cases a with
    | one u => exact ha
    | two u w => obtain ⟨t, g1, g2, g3⟩ := ha; exact ⟨t, g1, k g2 (fun _ q => nomatch q) (fun _ q => nomatch q), g3⟩
  obtain ⟨t, e0, e1, e2, h1, h2, ⟨v0, h3, h4⟩, ⟨v1, h5, h6⟩, ⟨ts, h7, h8, h9⟩⟩ := L
  exact ⟨⟨t.r0.noCell hc, t.r1.noCell hc, t.r2.noCell hc, t.d01, t.d02, t.d12⟩, e0, e1, e2, k h1 (fun _ q => nomatch q) (fun _ q => nomatch q), k h2 (fun _ q => nomatch q) (fun _ q => nomatch q), ⟨v0, k h3 (fun _ q => nomatch q) (fun _ q => nomatch q), h4.map an⟩, ⟨v1, k h5 (fun _ q => nomatch q) (fun _ q => nomatch q), h6.map an⟩,
    ⟨ts, k h7 (fun _ q => nomatch q) (fun _ q => nomatch q), h8, fun i u e q1 q2 => k (h9 i u e q1 q2) (fun _ q => nomatch q) (fun _ q => nomatch q)⟩⟩
end
section
variable {prog : Program} [ProgOk prog] {c : Cx} {n : Led}
theorem law_worlds {sa ra sp dd : Addr} {ds : List Deed} {N : Loc → Led → Prop} {R : V → Led → Prop} (hlv : 40 < c.lv) (hh : c.A.handled = none) (hn : CellW n ra) (g1 : ds.length = 14) (g2 : ∀ d ∈ ds, Rng d) (D : DeedsAt n dd ds) :
    c.env.scope = (lawFd c.w).2 → (∀ n' al f l0 l1 w0 w1 w2 a0 a1 a2, LSt dd al f l0 l1 ds (runP begunW ds).2.1 (runP begunW ds).2.2 w0 w1 w2 n' a0 a1 a2 (runP begunW ds).1 begunW begunW → CellW n' ra →
        Ex prog c [("answers", .ref f), ("world", .ref w0), ("alone", .ref al), ("spool", .ref sp), ("deeds", .ref dd), ("script", .ref sa)] n' (execs ((lawFd c.w).1.drop 4) c.env) N R NoX) →
      Ex prog c [("spool", .ref sp), ("deeds", .ref dd), ("script", .ref sa)] n (execs ((lawFd c.w).1.drop 2) c.env) N R NoX := by
  refine with_law (P := fun body sc => c.env.scope = sc → (∀ n' al f l0 l1 w0 w1 w2 a0 a1 a2, LSt dd al f l0 l1 ds (runP begunW ds).2.1 (runP begunW ds).2.2 w0 w1 w2 n' a0 a1 a2 (runP begunW ds).1 begunW begunW → CellW n' ra →
        Ex prog c [("answers", .ref f), ("world", .ref w0), ("alone", .ref al), ("spool", .ref sp), ("deeds", .ref dd), ("script", .ref sa)] n' (execs (body.drop 4) c.env) N R NoX) →
      Ex prog c [("spool", .ref sp), ("deeds", .ref dd), ("script", .ref sa)] n (execs (body.drop 2) c.env) N R NoX) (by rfl) fun hs hrest => ?_
  have I : InFn { c with lv := c.lv + 1 } c _ c.env.cells := ⟨hs, rfl, rfl, rfl, rfl, rfl, rfl⟩
  simp only [List.drop_succ_cons, List.drop_zero] at hrest ⊢
  refine ex_cons (ex_swap2 I.scope (by wtm_at "swp") (by rfl) hh ?_)
  refine ev_tuple (es_cons (ev_fn (es_nil ?_)))
  refine fn_law_begun (by lia) hh fun n1 a0 R0 k1 z0 f0 => ?_
  refine es_cons (ev_list (es_cons (ev_fn (es_nil ?_))))
  refine fn_law_begun (by lia) hh fun n2 a1 R1 k2 z1 f1 => ?_
  refine es_cons (ev_fn (es_nil ?_))
  refine fn_law_begun (by lia) hh fun n3 a2 R2 k3 z2 f2 => ?_
  refine es_nil ⟨by rw [szl]; show 2 ≤ _; decide, fun al hal => es_nil ⟨by rw [szl]; show 2 ≤ _; decide, fun t ht => ?_⟩⟩
  refine tp_tup (Led.set_self _ _ _) (by rfl) ?_
  have kA : Keeps [] n3 (n3.set al (.list [.ref a1.wa, .ref a2.wa])) := keeps_new hal
  have kT : Keeps [] (n3.set al (.list [.ref a1.wa, .ref a2.wa])) ((n3.set al (.list [.ref a1.wa, .ref a2.wa])).set t (.tup [.ref a0.wa, .ref al])) := keeps_new ht
  have tabne : ∀ {n' : Led} {a : Ads} {W : WS}, Rep n' a W → ∀ x ∈ foot a W, n' x = none → False := fun R x hx hn => by
    rcases R.tab x hx with ⟨_, _, e⟩ | ⟨_, _, e⟩ <;> (rw [hn] at e; cases e)
  have T : T3 ((n3.set al (.list [.ref a1.wa, .ref a2.wa])).set t (.tup [.ref a0.wa, .ref al])) a0 a1 a2 begunW begunW begunW :=
    ⟨R0.grow ((k2.trans k3).trans (kA.trans kT)), R1.grow (k3.trans (kA.trans kT)), R2.grow (kA.trans kT), fun x h h' => tabne R0 x h (f1 x h'), fun x h h' => tabne (R0.grow k2) x h (f2 x h'), fun x h h' => tabne R1 x h (f2 x h')⟩
  have kall : Keeps [] n ((n3.set al (.list [.ref a1.wa, .ref a2.wa])).set t (.tup [.ref a0.wa, .ref al])) := (k1.trans (k2.trans k3)).trans (kA.trans kT)
  have D' := kall.sfe.deeds D
  have C' := kall.sfe.cellW hn
  have hal' : ((n3.set al (.list [.ref a1.wa, .ref a2.wa])).set t (.tup [.ref a0.wa, .ref al])) al = some (.list [.ref a1.wa, .ref a2.wa]) := (kT al (by rw [Led.set_self]; exact Option.some_ne_none _) List.not_mem_nil).trans (Led.set_self _ _ _)
  generalize ((n3.set al (.list [.ref a1.wa, .ref a2.wa])).set t (.tup [.ref a0.wa, .ref al])) = n4 at T D' C' hal'
  show Ex _ _ ([("world", .ref a0.wa), ("alone", .ref al), ("spool", .ref sp), ("deeds", .ref dd), ("script", .ref sa)] : Loc) _ _ _ _ _
  refine ex_cons (ex_assign I.scope (by rfl) (ev_fn (es_cons (ev_local I.scope (by rfl) (by rfl) (es_cons (ev_local I.scope (by rfl) (by rfl) (es_nil ?_)))))))
  refine fn_law_answers (B := 50) (by lia) hh T.r0 D' g2 invB goodB (by rw [g1]; decide) (by lia) fun n5 a0' f l0 l1 L zf z0' z1' => ?_
  have hsf := L.step.sfe T.r0
  exact hrest n5 al f l0 l1 a0.wa a1.wa a2.wa a0' a1 a2 ⟨T.step0 L.step, L.step.wa, rfl, rfl, hsf _ _ hal' (fun _ _ q => nomatch q) (fun _ _ q => nomatch q), L.hf, L.h0, L.h1, hsf.deeds D'⟩ (hsf.cellW C')
end

-- part E16
set_option maxHeartbeats 2000000
noncomputable def own (r : Int) (ds : List Deed) : List Deed := ds.filter fun d => decide (d.1 = r)
noncomputable def w1At (ds : List Deed) : Nat → WS
  | 0 => begunW
  | _ => (runP begunW (own 0 ds)).1
noncomputable def w2At (ds : List Deed) : Nat → WS
  | 0 => begunW
  | 1 => begunW
  | _ => (runP begunW (own 1 ds)).1
theorem own_rng {r : Int} {ds : List Deed} (h : ∀ d ∈ ds, Rng d) : ∀ d ∈ own r ds, Rng d := fun d hd => h d (List.mem_filter.mp hd).1
theorem own_len {r : Int} {ds : List Deed} : (own r ds).length ≤ ds.length := List.length_filter_le _ _
theorem own_room {r : Int} {ds : List Deed} (h : ds.length = 14) : (50 + 50) * 2 ^ (own r ds).length ≤ BM + 50 := by
  have h1 : 2 ^ (own r ds).length ≤ 2 ^ 14 := Nat.pow_le_pow_right (by decide) (by have := own_len (r := r) (ds := ds); lia)
  have h2 : (2 : Nat) ^ 14 = 16384 := by decide
  have h3 : BM = 4000000 := rfl
  lia
section
variable {prog : Program} [ProgOk prog] {c : Cx} {n : Led}
theorem law_rows {sa ra sp dd al f l0 l1 w0 w1 w2 : Addr} {a0 a1 a2 : Ads} {ds : List Deed} {N : Loc → Led → Prop} {R : V → Led → Prop} (hlv : 40 < c.lv) (hh : c.A.handled = none) (hra : c.env.cells.lookup ("row" : Str) = some ra) (hn : CellW n ra) (g1 : ds.length = 14) (g2 : ∀ d ∈ ds, Rng d)
    (q0 : (runP begunW ds).2.1 = (runP begunW (own 0 ds)).2.1) (q1 : (runP begunW ds).2.2 = (runP begunW (own 1 ds)).2.2)
    (L : LSt dd al f l0 l1 ds (runP begunW ds).2.1 (runP begunW ds).2.2 w0 w1 w2 n a0 a1 a2 (runP begunW ds).1 begunW begunW) :
    c.env.scope = (lawFd c.w).2 → (∀ n' a0 a1 a2, LSt dd al f l0 l1 ds (runP begunW ds).2.1 (runP begunW ds).2.2 w0 w1 w2 n' a0 a1 a2 (runP begunW ds).1 (runP begunW (own 0 ds)).1 (runP begunW (own 1 ds)).1 → CellW n' ra →
        Ex prog c [("answers", .ref f), ("world", .ref w0), ("alone", .ref al), ("spool", .ref sp), ("deeds", .ref dd), ("script", .ref sa)] n' (execs ((lawFd c.w).1.drop 5) c.env) N R NoX) →
      Ex prog c [("answers", .ref f), ("world", .ref w0), ("alone", .ref al), ("spool", .ref sp), ("deeds", .ref dd), ("script", .ref sa)] n (execs ((lawFd c.w).1.drop 4) c.env) N R NoX := by
  refine with_law (P := fun body sc => c.env.scope = sc → (∀ n' a0 a1 a2, LSt dd al f l0 l1 ds (runP begunW ds).2.1 (runP begunW ds).2.2 w0 w1 w2 n' a0 a1 a2 (runP begunW ds).1 (runP begunW (own 0 ds)).1 (runP begunW (own 1 ds)).1 → CellW n' ra →
        Ex prog c [("answers", .ref f), ("world", .ref w0), ("alone", .ref al), ("spool", .ref sp), ("deeds", .ref dd), ("script", .ref sa)] n' (execs (body.drop 5) c.env) N R NoX) →
      Ex prog c [("answers", .ref f), ("world", .ref w0), ("alone", .ref al), ("spool", .ref sp), ("deeds", .ref dd), ("script", .ref sa)] n (execs (body.drop 4) c.env) N R NoX) (by rfl) fun hs hrest => ?_
  have I : InFn { c with lv := c.lv + 1 } c _ c.env.cells := ⟨hs, rfl, rfl, rfl, rfl, rfl, rfl⟩
  simp only [List.drop_succ_cons, List.drop_zero] at hrest ⊢
  refine ex_cons ?_
  have nra : n ra ≠ none := by rcases hn with ⟨o, h, _⟩ | ⟨v, h⟩ <;> (rw [h]; exact fun q => nomatch q)
  refine ex_for01c hh I.scope (by rfl) hra hn (fun i m' n' => m' = ([("answers", .ref f), ("world", .ref w0), ("alone", .ref al), ("spool", .ref sp), ("deeds", .ref dd), ("script", .ref sa)] : Loc) ∧ ∃ a0 a1 a2, LSt dd al f l0 l1 ds (runP begunW ds).2.1 (runP begunW ds).2.2 w0 w1 w2 n' a0 a1 a2 (runP begunW ds).1 (w1At ds i) (w2At ds i)) ?_ ?_ ?_ ?_ ?_
  · exact fun n' hk => ⟨rfl, a0, a1, a2, L.grow hk⟩
  · rintro i m1 n1 n2 ⟨rfl, b0, b1, b2, L1⟩ hm
    exact ⟨rfl, b0, b1, b2, L1.moves hm⟩
  · rintro i m1 n1 v ⟨rfl, b0, b1, b2, L1⟩ hc
    exact ⟨rfl, b0, b1, b2, L1.setCell hc⟩
  · rintro i hi m1 n1 ⟨rfl, b0, b1, b2, L1⟩ hrow
    rcases (by lia : i = 0 ∨ i = 1) with rfl | rfl
    · replace L1 : LSt dd al f l0 l1 ds (runP begunW ds).2.1 (runP begunW ds).2.2 w0 w1 w2 n1 b0 b1 b2 (runP begunW ds).1 begunW begunW := L1
      replace hrow : n1 ra = some (.cell (.int 0)) := hrow
      refine ex_one (ex_if (tt_cmp (ev_sub (ev_fn (es_cons (ev_sub (ev_local I.scope (by rfl) (by rfl) (ev_cell I.scope (by rfl) hra hrow (sub_list L1.al (by decide) (by decide) (by rfl) (es_cons ?_))))))))))
      refine ev_deeds (by lia) hh I.scope (by rfl) (by rfl) (by rfl) (by rfl) hra hrow L1.d (by rw [szl]; lia) fun acc n2 hacc hk2 D2 => es_nil ?_
      have L2 := L1.grow hk2
      have hrow2 : n2 ra = some (.cell (.int 0)) := hk2.at hrow
      have ee := L1.e1
      subst ee
      refine fn_law_answers (B := 50) (by lia) hh L2.t.r1 D2 (own_rng (r := 0) g2) invB goodB (own_room (r := 0) g1) (by have := own_len (r := 0) (ds := ds); show (own 0 ds).length ≤ 100; lia) fun n3 b' f' x0 x1 L' _ _ _ => ?_
      have L3 := L2.step1 L'.step
      have hs3 := L'.step.sfe L2.t.r1
      have hrow3 := hs3 _ _ hrow2 (fun _ _ q => nomatch q) (fun _ _ q => nomatch q)
      refine ev_cell I.scope (by rfl) hra hrow3 (sub_list L'.hf (by decide) (by decide) (by rfl) ?_)
      refine ev_sub (ev_local I.scope (by rfl) (by rfl) (ev_cell I.scope (by rfl) hra hrow3 (sub_list L3.f (by decide) (by decide) (by rfl) ?_)))
      obtain ⟨vs, v1, v2⟩ := L'.h0
      obtain ⟨us, u1, u2⟩ := L3.h0
      rw [q0] at u2
      refine cmp_ne_ans v1 u1 v2 u2 (tr_bool (br_false (ex_nil ⟨hk2.frz.trans hs3.frz, hrow3, _, LSub.refl _, rfl, _, _, _, L3⟩)))
    · replace L1 : LSt dd al f l0 l1 ds (runP begunW ds).2.1 (runP begunW ds).2.2 w0 w1 w2 n1 b0 b1 b2 (runP begunW ds).1 (runP begunW (own 0 ds)).1 begunW := L1
      replace hrow : n1 ra = some (.cell (.int 1)) := hrow
      refine ex_one (ex_if (tt_cmp (ev_sub (ev_fn (es_cons (ev_sub (ev_local I.scope (by rfl) (by rfl) (ev_cell I.scope (by rfl) hra hrow (sub_list L1.al (by decide) (by decide) (by rfl) (es_cons ?_))))))))))
      refine ev_deeds (by lia) hh I.scope (by rfl) (by rfl) (by rfl) (by rfl) hra hrow L1.d (by rw [szl]; lia) fun acc n2 hacc hk2 D2 => es_nil ?_
      have L2 := L1.grow hk2
      have hrow2 : n2 ra = some (.cell (.int 1)) := hk2.at hrow
      have ee := L1.e2
      subst ee
      refine fn_law_answers (B := 50) (by lia) hh L2.t.r2 D2 (own_rng (r := 1) g2) invB goodB (own_room (r := 1) g1) (by have := own_len (r := 1) (ds := ds); show (own 1 ds).length ≤ 100; lia) fun n3 b' f' x0 x1 L' _ _ _ => ?_
      have L3 := L2.step2 L'.step
      have hs3 := L'.step.sfe L2.t.r2
      have hrow3 := hs3 _ _ hrow2 (fun _ _ q => nomatch q) (fun _ _ q => nomatch q)
      refine ev_cell I.scope (by rfl) hra hrow3 (sub_list L'.hf (by decide) (by decide) (by rfl) ?_)
      refine ev_sub (ev_local I.scope (by rfl) (by rfl) (ev_cell I.scope (by rfl) hra hrow3 (sub_list L3.f (by decide) (by decide) (by rfl) ?_)))
      obtain ⟨vs, v1, v2⟩ := L'.h1
      obtain ⟨us, u1, u2⟩ := L3.h1
      rw [q1] at u2
      refine cmp_ne_ans v1 u1 v2 u2 (tr_bool (br_false (ex_nil ⟨hk2.frz.trans hs3.frz, hrow3, _, LSub.refl _, rfl, _, _, _, L3⟩)))
  · rintro m1 n1 ⟨rfl, b0, b1, b2, L1⟩ hc
    exact hrest n1 b0 b1 b2 L1 hc
end

-- part E17
set_option maxHeartbeats 2000000
noncomputable def popAll (W : WS) : WS := { W with files := adel W.files "ALL" }
theorem kget_files (W : WS) (k : Str) : kget (filesE W) k = (aget W.files k).map V.str := kget_mapV _ _ _
theorem join_files {W A0 A1 : WS} (E : Ends W A0 A1) (k : Str) : aget (popAll W).files k = (aget (popAll A1).files k).or (aget (popAll A0).files k) := by
  show aget (adel _ _) k = (aget (adel _ _) k).or (aget (adel _ _) k)
  rw [aget_adel, aget_adel, aget_adel]
  by_cases q : ("ALL" : Str) = k
  · rw [if_pos q, if_pos q, if_pos q]; rfl
  · rw [if_neg q, if_neg q, if_neg q]; exact E.files (Ne.symm q)
theorem Inv.allT {W : WS} (I : Inv W) : aget W.files "ALL" = some (txt W "ALL") := by
  obtain ⟨t, h1, h2⟩ := I.all
  unfold txt; rw [h1]; rfl
section
variable {prog : Program} [ProgOk prog] {c : Cx} {n : Led}
theorem law_files {B : Nat} {sa ra sp dd al f l0 l1 w0 w1 w2 : Addr} {a0 a1 a2 : Ads} {ds : List Deed} {s1 s2 : List Ans} {W0 W1 W2 : WS} {N : Loc → Led → Prop} {R : V → Led → Prop} (hlv : 40 < c.lv) (hh : c.A.handled = none) (hn : CellW n ra) (E : Ends W0 W1 W2) (hB : B ≤ BM) (G0 : Good B W0) (G1 : Good B W1) (G2 : Good B W2)
    (L : LSt dd al f l0 l1 ds s1 s2 w0 w1 w2 n a0 a1 a2 W0 W1 W2) :
    c.env.scope = (lawFd c.w).2 → (∀ n' a0 a1 a2 cm, LSt dd al f l0 l1 ds s1 s2 w0 w1 w2 n' a0 a1 a2 (popAll W0) (popAll W1) (popAll W2) → CellW n' ra →
        Ex prog c [("common", .str cm), ("answers", .ref f), ("world", .ref w0), ("alone", .ref al), ("spool", .ref sp), ("deeds", .ref dd), ("script", .ref sa)] n' (execs ((lawFd c.w).1.drop 7) c.env) N R NoX) →
      Ex prog c [("answers", .ref f), ("world", .ref w0), ("alone", .ref al), ("spool", .ref sp), ("deeds", .ref dd), ("script", .ref sa)] n (execs ((lawFd c.w).1.drop 5) c.env) N R NoX := by
  refine with_law (P := fun body sc => c.env.scope = sc → (∀ n' a0 a1 a2 cm, LSt dd al f l0 l1 ds s1 s2 w0 w1 w2 n' a0 a1 a2 (popAll W0) (popAll W1) (popAll W2) → CellW n' ra →
        Ex prog c [("common", .str cm), ("answers", .ref f), ("world", .ref w0), ("alone", .ref al), ("spool", .ref sp), ("deeds", .ref dd), ("script", .ref sa)] n' (execs (body.drop 7) c.env) N R NoX) →
      Ex prog c [("answers", .ref f), ("world", .ref w0), ("alone", .ref al), ("spool", .ref sp), ("deeds", .ref dd), ("script", .ref sa)] n (execs (body.drop 5) c.env) N R NoX) (by rfl) fun hs hrest => ?_
  have I : InFn { c with lv := c.lv + 1 } c _ c.env.cells := ⟨hs, rfl, rfl, rfl, rfl, rfl, rfl⟩
  simp only [List.drop_succ_cons, List.drop_zero] at hrest ⊢
  have hbm : BM = 4000000 := rfl
  have z0 : W0.files.length ≤ sizeLine := by have := G0.fl; rw [szl]; lia
  have z1 : W1.files.length ≤ sizeLine := by have := G1.fl; rw [szl]; lia
  have z2 : W2.files.length ≤ sizeLine := by have := G2.fl; rw [szl]; lia
  have t1 := txt12 E.i0
  have t2 := txt12 E.i1
  have b0 := G0.fl
  have b1 := G1.fl
  have b2 := G2.fl
  have ee1 := L.e1
  have ee2 := L.e2
  have ee0 := L.e0
  subst ee0 ee1 ee2
  refine ex_cons (ex_assign I.scope (by rfl) (ev_bin (ev_slice_s (em_pop (ev_attr (ev_sub (ev_local I.scope (by rfl) (by rfl) (ev_int (sub_list L.al (by decide) (by decide) (by rfl) (at_files L.t.r1 ⟨has_files L.t.r1, es_cons (ev_str (es_nil ?_))⟩))))))))))
  refine mb_pop_files' L.t.r1 E.i0.allT z1 fun n1 R1 S1 => ⟨_, rfl, pt_none (pt_some (ev_int ⟨_, rfl, sl_str (by rw [t1, szl]; decide) ?_⟩))⟩
  have L1 := L.step1 S1
  have C1 := (S1.sfe L.t.r1).cellW hn
  refine ev_slice_s (em_pop (ev_attr (ev_sub (ev_local I.scope (by rfl) (by rfl) (ev_int (sub_list L1.al (by decide) (by decide) (by rfl) (at_files L1.t.r2 ⟨has_files L1.t.r2, es_cons (ev_str (es_nil ?_))⟩)))))))
  refine mb_pop_files' L1.t.r2 E.i1.allT z2 fun n2 R2 S2 => ⟨_, rfl, pt_some (ev_int ⟨_, rfl, pt_none (sl_str (by rw [t2, szl]; decide) ?_)⟩)⟩
  have L2 := L1.step2 S2
  have C2 := (S2.sfe L1.t.r2).cellW C1
  have y1 := sl_len (txt W1 "ALL") none (some 6)
  have y2 := sl_len (txt W2 "ALL") (some 6) none
  refine bin_cat (by rw [szl]; lia) ?_
  rw [← E.all]
  refine ex_cons (ex_if ?_)
  refine tt_orc (tt_cmp (em_pop (ev_attr (ev_local I.scope (by rfl) (by rfl) (at_files L2.t.r0 ⟨has_files L2.t.r0, es_cons (ev_str (es_nil ?_))⟩)))))
  refine mb_pop_files' L2.t.r0 E.i.allT z0 fun n3 R3 S3 => ev_local I.scope (by rfl) (by rfl) (cmp_sne (tr_bool ?_))
  have e : decide (txt W0 "ALL" ≠ txt W0 "ALL") = false := by simp
  rw [e]
  refine br_false (tt_or1 (tt_cmp ?_))
  have L3 := L2.step0 S3
  have C3 := (S3.sfe L2.t.r0).cellW C2
  obtain ⟨p0, f0⟩ := L3.t.r0.files
  obtain ⟨p1, f1⟩ := L3.t.r1.files
  obtain ⟨p2, f2⟩ := L3.t.r2.files
  refine ev_attr (ev_local I.scope (by rfl) (by rfl) (at_files L3.t.r0 ?_))
  refine ev_fn (es_cons (ev_attr (ev_sub (ev_local I.scope (by rfl) (by rfl) (ev_int (sub_list L3.al (by decide) (by decide) (by rfl) (at_files L3.t.r1 (es_cons ?_))))))))
  refine ev_attr (ev_sub (ev_local I.scope (by rfl) (by rfl) (ev_int (sub_list L3.al (by decide) (by decide) (by rfl) (at_files L3.t.r2 (es_nil ?_))))))
  have d1 : (adel W1.files "ALL").length ≤ W1.files.length := length_adel
  have d2 : (adel W2.files "ALL").length ≤ W2.files.length := length_adel
  refine fn_law_joined_sd (by lia) hh f1 f2 (by unfold filesE; rw [length_mapV, length_mapV, szl]; show (adel W1.files "ALL").length + (adel W2.files "ALL").length ≤ _; lia) fun b n4 es ep hb0 hk4 hb4 hget => ?_
  have L4 := L3.grow hk4
  have f04 := hk4.at f0
  have key : ∀ k, kget es k = (aget (popAll W0).files k).map V.str := fun k => by
    rw [hget k, join_files E k]
    have g1 : kget (filesE (popAll W1)) k = (aget (popAll W1).files k).map V.str := kget_files _ _
    have g2 : kget (filesE (popAll W2)) k = (aget (popAll W2).files k).map V.str := kget_files _ _
    show (kget (filesE (popAll W2)) k).or (kget (filesE (popAll W1)) k) = _
    rw [g1, g2]
    cases aget (popAll W2).files k <;> rfl
  have key0 : ∀ k, kget (filesE (popAll W0)) k = (aget (popAll W0).files k).map V.str := fun k => kget_files _ _
  refine cmp_ne_sd f04 hb4 (fun k => by rw [key k]; exact congrArg Option.isSome (key0 k)) (fun k u v hu hv => ?_) (tr_bool (br_false (ex_nil ?_)))
  · have hu : kget (filesE (popAll W0)) k = some u := hu
    rw [key0 k] at hu
    rw [key k, hu] at hv
    cases hv
    obtain ⟨t, _, rfl⟩ := Option.map_eq_some_iff.mp hu
    exact .flat fun x q => nomatch q
  · exact hrest n4 a0 a1 a2 _ L4 (hk4.sfe.cellW C3)
end

-- part E18
set_option maxHeartbeats 2000000
noncomputable def c1At (W : WS) : Nat → WS
  | 0 => popAll W
  | _ => closeP (popAll W) 6
noncomputable def c2At (W : WS) : Nat → WS
  | 0 => popAll W
  | 1 => popAll W
  | _ => closeP (popAll W) 5
theorem kget_fields (a : Ads) (W : WS) (k : Str) : kget (fieldsE a W) k = (aget W.fields k).map fun _ => V.ref (a.ta k) := kget_mapV _ _ _
theorem kget_open (a : Ads) (W : WS) (k : Int) : kget (openE a W) k = (aget W.op k).map fun _ => V.ref (a.ra k) := kget_mapV _ _ _
theorem flat_pt (p : Pt3) : ∀ u ∈ ptE p, FlatV u := fun u hu => by
  unfold ptE at hu
  simp only [List.mem_cons, List.not_mem_nil, or_false] at hu
  rcases hu with rfl | rfl | rfl <;> exact fun x q => nomatch q
theorem flat_rec (r : Rc) : ∀ kv ∈ recE r, FlatV kv.2 := fun kv hkv => by
  unfold recE at hkv
  simp only [List.mem_cons, List.not_mem_nil, or_false] at hkv
  rcases hkv with rfl | rfl | rfl | rfl | rfl | rfl <;> exact fun x q => nomatch q
section
variable {prog : Program} [ProgOk prog] {c : Cx} {n : Led}
theorem law_ends {B : Nat} {cm : Str} {sa ra sp dd al f l0 l1 w0 w1 w2 : Addr} {a0 a1 a2 : Ads} {ds : List Deed} {s1 s2 : List Ans} {W0 W1 W2 : WS} (hlv : 40 < c.lv) (hh : c.A.handled = none) (hra : c.env.cells.lookup ("row" : Str) = some ra) (hn : CellW n ra) (E : Ends W0 W1 W2) (hB : B ≤ BM) (G0 : Good B W0) (G1 : Good B W1) (G2 : Good B W2)
    (L : LSt dd al f l0 l1 ds s1 s2 w0 w1 w2 n a0 a1 a2 (popAll W0) (popAll W1) (popAll W2)) :
    c.env.scope = (lawFd c.w).2 → Ex prog c [("common", .str cm), ("answers", .ref f), ("world", .ref w0), ("alone", .ref al), ("spool", .ref sp), ("deeds", .ref dd), ("script", .ref sa)] n (execs ((lawFd c.w).1.drop 7) c.env) (fun _ _ => False) (fun v _ => v = .bool true) NoX := by
  refine with_law (P := fun body sc => c.env.scope = sc → Ex prog c [("common", .str cm), ("answers", .ref f), ("world", .ref w0), ("alone", .ref al), ("spool", .ref sp), ("deeds", .ref dd), ("script", .ref sa)] n (execs (body.drop 7) c.env) (fun _ _ => False) (fun v _ => v = .bool true) NoX) (by rfl) fun hs => ?_
  have I : InFn { c with lv := c.lv + 1 } c _ c.env.cells := ⟨hs, rfl, rfl, rfl, rfl, rfl, rfl⟩
  simp only [List.drop_succ_cons, List.drop_zero]
  have hbm : BM = 4000000 := rfl
  have nra : n ra ≠ none := by rcases hn with ⟨o, h, _⟩ | ⟨v, h⟩ <;> (rw [h]; exact fun q => nomatch q)
  refine ex_seq (fun m' n' => m' = ([("common", .str cm), ("answers", .ref f), ("world", .ref w0), ("alone", .ref al), ("spool", .ref sp), ("deeds", .ref dd), ("script", .ref sa)] : Loc) ∧ ∃ b0 b1 b2, LSt dd al f l0 l1 ds s1 s2 w0 w1 w2 n' b0 b1 b2 (popAll W0) (closeP (popAll W1) 6) (closeP (popAll W2) 5)) ?_ ?_
  · refine ex_for01c hh I.scope (by rfl) hra hn (fun i m' n' => m' = ([("common", .str cm), ("answers", .ref f), ("world", .ref w0), ("alone", .ref al), ("spool", .ref sp), ("deeds", .ref dd), ("script", .ref sa)] : Loc) ∧ ∃ a0 a1 a2, LSt dd al f l0 l1 ds s1 s2 w0 w1 w2 n' a0 a1 a2 (popAll W0) (c1At W1 i) (c2At W2 i)) ?_ ?_ ?_ ?_ ?_
    · exact fun n' hk => ⟨rfl, a0, a1, a2, L.grow hk⟩
    · rintro i m1 n1 n2 ⟨rfl, b0, b1, b2, L1⟩ hm
      exact ⟨rfl, b0, b1, b2, L1.moves hm⟩
    · rintro i m1 n1 v ⟨rfl, b0, b1, b2, L1⟩ hc
      exact ⟨rfl, b0, b1, b2, L1.setCell hc⟩
    · rintro i hi m1 n1 ⟨rfl, b0, b1, b2, L1⟩ hrow
      rcases (by lia : i = 0 ∨ i = 1) with rfl | rfl
      · replace L1 : LSt dd al f l0 l1 ds s1 s2 w0 w1 w2 n1 b0 b1 b2 (popAll W0) (popAll W1) (popAll W2) := L1
        replace hrow : n1 ra = some (.cell (.int 0)) := hrow
        have ee := L1.e1
        subst ee
        refine ex_one (ex_expr (ev_fn (es_cons ?_)))
        refine ev_sub (ev_local I.scope (by rfl) (by rfl) (ev_cell I.scope (by rfl) hra hrow (sub_list L1.al (by decide) (by decide) (by rfl) (es_cons ?_))))
        refine ev_bin (ev_int (ev_cell I.scope (by rfl) hra hrow (bin_sub (es_nil ?_))))
        refine fn_close_file' (by lia) hh L1.t.r1 (by have := G1.ol; rw [szl]; show W1.op.length ≤ _; lia) E.i0.few fun n2 R2 S2 => ?_
        have hs2 := S2.sfe L1.t.r1
        exact ⟨hs2.frz, hs2 _ _ hrow (fun _ _ q => nomatch q) (fun _ _ q => nomatch q), _, LSub.refl _, rfl, _, _, _, L1.step1 S2⟩
      · replace L1 : LSt dd al f l0 l1 ds s1 s2 w0 w1 w2 n1 b0 b1 b2 (popAll W0) (closeP (popAll W1) 6) (popAll W2) := L1
        replace hrow : n1 ra = some (.cell (.int 1)) := hrow
        have ee := L1.e2
        subst ee
        refine ex_one (ex_expr (ev_fn (es_cons ?_)))
        refine ev_sub (ev_local I.scope (by rfl) (by rfl) (ev_cell I.scope (by rfl) hra hrow (sub_list L1.al (by decide) (by decide) (by rfl) (es_cons ?_))))
        refine ev_bin (ev_int (ev_cell I.scope (by rfl) hra hrow (bin_sub (es_nil ?_))))
        refine fn_close_file' (by lia) hh L1.t.r2 (by have := G2.ol; rw [szl]; show W2.op.length ≤ _; lia) E.i1.few fun n2 R2 S2 => ?_
        have hs2 := S2.sfe L1.t.r2
        exact ⟨hs2.frz, hs2 _ _ hrow (fun _ _ q => nomatch q) (fun _ _ q => nomatch q), _, LSub.refl _, rfl, _, _, _, L1.step2 S2⟩
    · rintro m1 n1 ⟨rfl, b0, b1, b2, L1⟩ hc
      exact ⟨rfl, b0, b1, b2, L1⟩
  rintro _ n1 ⟨rfl, b0, b1, b2, L1⟩
  have ee0 := L1.e0
  have ee1 := L1.e1
  have ee2 := L1.e2
  subst ee0 ee1 ee2
  have i1 := E.i0.few
  have i2 := E.i1.few
  have o1 := G1.ol
  have o2 := G2.ol
  have fl1 : (closeP (popAll W1) 6).fields.length ≤ W1.fields.length := List.length_filter_le _ _
  have fl2 : (closeP (popAll W2) 5).fields.length ≤ W2.fields.length := List.length_filter_le _ _
  have ol1 : (closeP (popAll W1) 6).op.length ≤ W1.op.length := length_adel
  have ol2 : (closeP (popAll W2) 5).op.length ≤ W2.op.length := length_adel
  -- the parts of buffers
  obtain ⟨p0, f0⟩ := L1.t.r0.fields
  obtain ⟨p1, f1⟩ := L1.t.r1.fields
  obtain ⟨p2, f2⟩ := L1.t.r2.fields
  refine ex_cons (ex_if (tt_cmp (ev_attr (ev_local I.scope (by rfl) (by rfl) (at_fields L1.t.r0 ?_)))))
  refine ev_fn (es_cons (ev_attr (ev_sub (ev_local I.scope (by rfl) (by rfl) (ev_int (sub_list L1.al (by decide) (by decide) (by rfl) (at_fields L1.t.r1 (es_cons ?_))))))))
  refine ev_attr (ev_sub (ev_local I.scope (by rfl) (by rfl) (ev_int (sub_list L1.al (by decide) (by decide) (by rfl) (at_fields L1.t.r2 (es_nil ?_))))))
  refine fn_law_joined_sd (by lia) hh f1 f2 (by unfold fieldsE; rw [length_mapV, length_mapV, szl]; lia) fun b n2 es ep hb0 hk2 hb2 hget => ?_
  have L2 := L1.grow hk2
  have f02 := hk2.at f0
  have kf : ∀ k, kget es k = ((aget (closeP (popAll W2) 5).fields k).map fun _ => V.ref (b2.ta k)).or ((aget (closeP (popAll W1) 6).fields k).map fun _ => V.ref (b1.ta k)) := fun k => by
    rw [hget k]
    have g1 := kget_fields b1 (closeP (popAll W1) 6) k
    have g2 := kget_fields b2 (closeP (popAll W2) 5) k
    rw [g1, g2]
  have ef : ∀ k, aget (popAll W0).fields k = (aget (closeP (popAll W2) 5).fields k).or (aget (closeP (popAll W1) 6).fields k) := fun k => E.fields k
  refine cmp_ne_sd f02 hb2 (fun k => ?_) (fun k u v hu hv => ?_) (tr_bool (br_false ?_))
  · have g0 := kget_fields b0 (popAll W0) k
    rw [g0, kf k, ef k]
    cases aget (closeP (popAll W2) 5).fields k <;> cases aget (closeP (popAll W1) 6).fields k <;> rfl
  · rw [kget_fields b0 (popAll W0) k] at hu
    rw [kf k] at hv
    have e := ef k
    obtain ⟨p, hp, rfl⟩ := Option.map_eq_some_iff.mp hu
    rw [hp] at e
    have h0 := L2.t.r0.tups k p hp
    cases q2 : aget (closeP (popAll W2) 5).fields k with
    | some p' =>
      rw [q2] at e hv
      cases e; cases hv
      exact .tup h0 (L2.t.r2.tups k p q2) (flat_pt p)
    | none =>
      rw [q2] at e hv
      have e : some p = aget (closeP (popAll W1) 6).fields k := e
      rw [← e] at hv
      cases hv
      exact .tup h0 (L2.t.r1.tups k p e.symm) (flat_pt p)
  refine ex_nil (ex_one (ex_ret (ev_cmp (ev_attr (ev_local I.scope (by rfl) (by rfl) (at_open L2.t.r0 ?_))))))
  obtain ⟨p0, f0⟩ := L2.t.r0.op
  obtain ⟨p1, f1⟩ := L2.t.r1.op
  obtain ⟨p2, f2⟩ := L2.t.r2.op
  refine ev_fn (es_cons (ev_attr (ev_sub (ev_local I.scope (by rfl) (by rfl) (ev_int (sub_list L2.al (by decide) (by decide) (by rfl) (at_open L2.t.r1 (es_cons ?_))))))))
  refine ev_attr (ev_sub (ev_local I.scope (by rfl) (by rfl) (ev_int (sub_list L2.al (by decide) (by decide) (by rfl) (at_open L2.t.r2 (es_nil ?_))))))
  refine fn_law_joined_idd (by lia) hh f1 f2 (by unfold openE; rw [length_mapV, length_mapV, szl]; lia) fun b n3 es ep hb0 hk3 hb3 hget => ?_
  have L3 := L2.grow hk3
  have f03 := hk3.at f0
  have ko : ∀ k, kget es k = ((aget (closeP (popAll W2) 5).op k).map fun _ => V.ref (b2.ra k)).or ((aget (closeP (popAll W1) 6).op k).map fun _ => V.ref (b1.ra k)) := fun k => by
    rw [hget k]
    have g1 := kget_open b1 (closeP (popAll W1) 6) k
    have g2 := kget_open b2 (closeP (popAll W2) 5) k
    rw [g1, g2]
  have eo : ∀ k, aget (popAll W0).op k = (aget (closeP (popAll W2) 5).op k).or (aget (closeP (popAll W1) 6).op k) := fun k => E.op k
  refine cmp_eq_idd f03 hb3 (fun k => ?_) (fun k u v hu hv => ?_) rfl
  · have g0 := kget_open b0 (popAll W0) k
    rw [g0, ko k, eo k]
    cases aget (closeP (popAll W2) 5).op k <;> cases aget (closeP (popAll W1) 6).op k <;> rfl
  · rw [kget_open b0 (popAll W0) k] at hu
    rw [ko k] at hv
    have e := eo k
    obtain ⟨r, hr, rfl⟩ := Option.map_eq_some_iff.mp hu
    rw [hr] at e
    obtain ⟨q0, h0⟩ := L3.t.r0.recs k r hr
    cases q2 : aget (closeP (popAll W2) 5).op k with
    | some r' =>
      rw [q2] at e hv
      cases e; cases hv
      obtain ⟨_, h2⟩ := L3.t.r2.recs k r q2
      exact .sd h0 h2 (flat_rec r)
    | none =>
      rw [q2] at e hv
      have e : some r = aget (closeP (popAll W1) 6).op k := e
      rw [← e] at hv
      cases hv
      obtain ⟨_, h1⟩ := L3.t.r1.recs k r e.symm
      exact .sd h0 h1 (flat_rec r)
end

-- part E19
set_option maxHeartbeats 2000000
section
variable {prog : Program} [ProgOk prog] {c : Cx} {n : Led}
theorem law_all {sa ra : Addr} {zs : List Int} (hlv : 40 < c.lv) (hh : c.A.handled = none) (hra : c.env.cells.lookup ("row" : Str) = some ra) (hn : ∃ o, n ra = some (.raw o) ∧ o.data = .cell none) (hb : BaseList c sa (zs.map .int)) (hz : zs.length ≤ 63) (hs : c.env.scope = (lawFd c.w).2) :
    Ex prog c [("script", .ref sa)] n (execs (lawFd c.w).1 c.env) (fun _ _ => False) (fun v _ => v = .bool true) NoX := by
  refine law_cuts hlv hh hn hb hz hs fun n1 sp dd ds g1 g2 D hc => ?_
  obtain ⟨B, hB, Rl⟩ := rel_begun g2 (by lia)
  have E : Ends (runP begunW ds).1 (runP begunW (own 0 ds)).1 (runP begunW (own 1 ds)).1 := ⟨Rl.i, Rl.i0, Rl.i1, Rl.m0, Rl.m1, Rl.k0, Rl.k1⟩
  refine law_worlds hlv hh (.inl hc) g1 g2 D hs fun n2 al f l0 l1 w0 w1 w2 a0 a1 a2 L C => ?_
  refine law_rows hlv hh hra C g1 g2 Rl.a0 Rl.a1 L hs fun n3 b0 b1 b2 L3 C3 => ?_
  refine law_files hlv hh C3 E hB Rl.g Rl.g0 Rl.g1 L3 hs fun n4 d0 d1 d2 cm L4 C4 => ?_
  exact law_ends hlv hh hra C4 E hB Rl.g Rl.g0 Rl.g1 L4 hs
end

-- part E20
set_option maxHeartbeats 2000000
theorem ints_rel : ∀ {vs : List Value} {zs : List Int}, IntsAre vs zs → VRel (zs.map V.int) vs := by
  intro vs zs h
  induction h with
  | nil => exact .nil
  | cons n t h ih => exact .cons (.int _ _) ih
theorem law_join {prog : Program} [ProgOk prog] {w : World} {s₁ : Shared} {env : Env} {A : Around} {h₁ : Heap} {tk₁ : Nat} {sa ra : Addr} {m : Str → Option Value} {vs : List Value} {zs : List Int} {oc : Obj} {Q : Flow → Shared → Prop} {E : Value → Shared → Prop}
    (XK : (KK w).In s₁.heap) (T : ∃ mg mb, TopRead Mine.view loose0 mg mb s₁.heap) (hsc : env.scope = (lawFd w).2) (hk : env.scope.kind = .function) (hg : env.globals = mainGlobals) (hb : env.builtins = builtinsNs) (hf : env.frame = some env.locals) (hL : env.locals = s₁.heap.objs.size)
    (F : Fr s₁.heap env.locals h₁ m) (hm : m "script" = some (.ref sa)) (hsa : s₁.heap.IsList sa vs.toArray) (hi : IntsAre vs zs) (hz : zs.length ≤ 63) (hcell : env.cells.lookup ("row" : Str) = some ra) (hra : h₁.get? ra = some oc) (hoc : oc.data = .cell none) (hra1 : s₁.heap.objs.size ≤ ra) (hra2 : ra ≠ env.locals)
    (hfr : A.frames = some [env]) (hh : A.handled = none) (hd : A.depth + 60 ≤ 900) (hu : A.units + 600 ≤ 9000)
    (hQ : ∀ s', s'.gens = s₁.gens → s'.os = s₁.os → (∀ b o, s₁.heap.get? b = some o → s'.heap.get? b = some o) → Q (.ret (.bool true)) s') :
    wpAny (model prog w) A (execs (lawFd w).1 env) Q E { s₁ with heap := h₁, toks := tk₁ } := by
  let c : Cx := ⟨w, s₁, s₁.heap, A, env, [], 60⟩
  let n : Led := fun b => if b = ra then some (.raw oc) else none
  have H : COk c := {
    X := XK
    T := T
    fk := hk
    gl := hg
    bu := hb
    dp := hd
    un := hu
    sm := Nat.lt_of_le_of_lt (show sysModules ≤ 273 by decide) (Heap.lt_size (XK 273 _ (by rfl)))
    fr := ⟨[env], hfr, fun e he => by
      simp only [List.mem_singleton] at he
      subst he
      exact ⟨by rw [hk]; decide, _, hf, .head _⟩⟩ }
  have S : Sit prog c [("script", .ref sa)] n { s₁ with heap := h₁, toks := tk₁ } := {
    gens := rfl
    drawn := rfl
    os := rfl
    keep := F.keep
    loc := ⟨by show s₁.heap.objs.size ≤ env.locals; rw [hL]; exact Nat.le_refl _, m, F.ns, fun x v hx => by
      rw [List.lookup_cons] at hx
      cases e : x == ("script" : Str) with
      | true =>
        rw [e] at hx; cases hx
        rw [eq_of_beq e]
        exact ⟨_, hm, .ref _⟩
      | false => rw [e] at hx; cases hx⟩
    outs := fun f hf => nomatch hf
    apart := by show [env.locals].Nodup; simp
    led := fun a o e => by
      by_cases q : a = ra
      · subst q
        have e : (if a = a then some (O.raw oc) else none) = some o := e
        rw [if_pos rfl] at e
        cases e
        exact ⟨⟨oc, hra, rfl⟩, .inl hra1, by show a ∉ [env.locals]; simpa using hra2⟩
      · have e : (if a = ra then some (O.raw oc) else none) = some o := e
        rw [if_neg q] at e; cases e }
  have hn : n ra = some (.raw oc) := if_pos rfl
  refine wpAny_mono (law_all (prog := prog) (c := c) (n := n) (by show 40 < 60; decide) hh hcell ⟨oc, hn, hoc⟩ ⟨_, hsa, by rw [List.toList_toArray]; exact ints_rel hi⟩ hz hsc H _ S) (fun f s' q => ?_) fun e s' ⟨_, q⟩ => (thrown_no q).elim
  cases f with
  | next => obtain ⟨_, _, _, q⟩ := q; exact q.elim
  | ret v =>
    obtain ⟨u, m', n', hv, S', rfl⟩ := q
    cases hv
    exact hQ s' S'.gens S'.os S'.keep
  | _ => exact q.elim

end Mine

open PySem PySem.W PySem.Calls PySem.Spec PyProof.Rows
local macro_rules | `(tactic| k_qdec) => `(tactic| decide +kernel)
set_option maxHeartbeats 4000000 in
theorem PySem.Challenge.cw_sm0004_01_holds : PySem.Challenge.rw_sm0004_01.Holds := by
  refine Mine.hd ?_
  haveI := Mine.progOk
  k_go0
  all_goals (try k_fold)
  have N0 := (by assumption : News _ _ _ [(_, _)])
  have hcond := (by assumption : ¬ ((63 : Int) < _))
  have hgens := (by assumption : _ = (#[] : Array GenState))
  refine Mine.law_join (prog := PySem.Challenge.pw_sm0004_01) (zs := _) (by assumption) ⟨_, _, topRead_of (by assumption)⟩ (by rfl) (by rfl) (by rfl) (by rfl) (by rfl) (by rfl) (by assumption) (by rfl) (by assumption) (by assumption) (by lia) (by rfl) (N0 _ (.head _)).1 (by assumption) (Nat.le_succ _) (Nat.succ_ne_self _) (by rfl) (by rfl) (by show callerA.depth + 1 + 60 ≤ 900; decide) (by show callerA.units + 3 + 600 ≤ 9000; decide) ?_
  intro s' h1 h2 h3
  refine ⟨.inl ⟨.bool true, .bool true, [], rfl, fun _ => rfl, .bool true, ?_, ?_⟩, h3, h2, h1.trans hgens⟩
  · first | rfl | kernel_rfl | (simp; done)
  · exact fun _ => ⟨List.nodup_nil, fun _ h => nomatch h⟩
